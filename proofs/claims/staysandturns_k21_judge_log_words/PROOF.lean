import PyProof.Rows.All
import Wide.All
import OpenK.AllK
import Wide.FinOn
import HandS.ForMost
import HandS.ForExc
import HandS.IsInst
import HandS.Style
import HandS.Zip
import HandS.Defaults
import HandS.SetFor
import HandS.Wide
import HandS.TupAny
import HandS.Conv
import HandS.Lambda
import HandS.ExcIs
import HandS.HeadHook4
import HandS.HotCalls
import HandS.Deep
import KE.GoesMore
import KE.GoesEnum
import HandS.Walk
import HandS.Zip0
import HandS.TupMul
import HandS.NoneIn
import HandS.HeadWalk
import HandS.Head0
import HandS.Head1
import HandS.Head2
import HandS.HeadEnd
import KE.KStateDown
import Lean
import PySem.Challenge.RW_staysandturns_k21_judge_log_words
/-! N0 -/
set_option Elab.async false
set_option linter.all false
set_option maxRecDepth 100000
set_option maxHeartbeats 1000000
/-! N0: data, what stands for data, states of a def by slots, the judgements over data. -/
namespace N
open PySem PySem.Spec PyProof.Rows L2

/-! ### data -/
inductive D where
  | non | bl (b : Bool) | int (i : Int) | str (s : Str) | tup (ds : List D) | lst (ds : List D)
  | dic (kvs : List (Key × V)) | obj (a : Addr) | ins (C : Addr) (ns : List Str) (ds : List D) | ty (n : String)

/-- a list that stays: locked -/
def FzL (K : PySem.W.Frag) (H : Hp) (a : Addr) (xs : List V) : Prop := ∃ o, H a = some (.frz o (.lst xs))
theorem FzL.sq {K : PySem.W.Frag} {H : Hp} {a : Addr} {xs : List V} (h : FzL K H a xs) : SqL K H a xs := by
  obtain ⟨o, h⟩ := h
  exact .inl (.inr ⟨o, h⟩)
/-- a tuple of which is known that it has no dict (its methods can be called) -/
def TpN (K : PySem.W.Frag) (H : Hp) (a : Addr) (xs : List V) : Prop := (∃ o : Obj, o.dict = none ∧ H a = some (.frz o (.tup xs))) ∨
  ∃ (o : Obj) (its : Array Value) (n : Nat), o.dict = none ∧ K.lookup a = some o ∧ o.cls = .type "tuple" ∧ o.data = .seq its n ∧ its.size ≤ sizeLine ∧ Vals xs its.toList
theorem TpN.sq {K : PySem.W.Frag} {H : Hp} {a : Addr} {xs : List V} (h : TpN K H a xs) : SqT K H a xs := by
  rcases h with ⟨o, _, h⟩ | ⟨o, its, n, _, h⟩
  · exact .inl (.inr ⟨o, h⟩)
  · exact .inr ⟨o, its, n, h⟩
/-- a dict that stays -/
def FzD (H : Hp) (a : Addr) (kvs : List (Key × V)) : Prop := ∃ o, o.cls = .type "dict" ∧ H a = some (.frz o (.dK kvs))

/-- what never changes again -/
def Imm : HO → Prop
  | .tup _ => True
  | .frz _ _ => True
  | .ins _ _ _ => True
  | _ => False
def Keep (H H' : Hp) : Prop := ∀ b o, H b = some o → Imm o → H' b = some o
theorem Keep.refl (H : Hp) : Keep H H := fun _ _ h _ => h
theorem Keep.trans {H H1 H2 : Hp} (a : Keep H H1) (b : Keep H1 H2) : Keep H H2 := fun c o h i => b c o (a c o h i) i
/-- what a call may do: only what stands at M may change, and no tuple, no locked thing, no instance -/
def Frm (M : List Addr) (H H' : Hp) : Prop := ∀ b o, H b = some o → (Imm o ∨ b ∉ M) → H' b = some o
theorem Frm.refl (M : List Addr) (H : Hp) : Frm M H H := fun _ _ h _ => h
theorem Frm.trans {M : List Addr} {H H1 H2 : Hp} (a : Frm M H H1) (b : Frm M H1 H2) : Frm M H H2 := fun c o h i => b c o (a c o h i) i
theorem Frm.keep {M : List Addr} {H H' : Hp} (a : Frm M H H') : Keep H H' := fun c o h i => a c o h (.inl i)
theorem Frm.same {H H' : Hp} (a : Frm [] H H') : Same H H' := fun c o h => a c o h (.inr (by simp))
theorem Frm.of {M : List Addr} {H H' : Hp} (a : Same H H') : Frm M H H' := fun c o h _ => a c o h
theorem Keep.of {H H' : Hp} (a : Same H H') : Keep H H' := fun c o h _ => a c o h
theorem same_upd {H : Hp} {p : Addr} {o : HO} (h : H p = none) : Same H (upd H p o) := fun b x e => by
  rw [upd_ne (ne_of_none e h)]
  exact e

mutual
/-- v stands for d -/
def Rep (K : PySem.W.Frag) (H : Hp) : D → V → Prop
  | .non, v => v = .non
  | .bl b, v => v = .bl b
  | .int i, v => v = .int i
  | .str s, v => v = .str s
  | .tup ds, v => ∃ a vs, v = .ref a ∧ TpN K H a vs ∧ RepL K H ds vs
  | .lst ds, v => ∃ a vs, v = .ref a ∧ FzL K H a vs ∧ RepL K H ds vs
  | .dic kvs, v => ∃ a, v = .ref a ∧ FzD H a kvs
  | .obj a, v => v = .ref a
  | .ty n, v => v = .ty n
  | .ins C ns ds, v => ∃ a dx fs, v = .ref a ∧ H a = some (.ins C dx fs) ∧ fs.map (·.1) = ns ∧ RepL K H ds (fs.map (·.2))
def RepL (K : PySem.W.Frag) (H : Hp) : List D → List V → Prop
  | [], vs => vs = []
  | d :: ds, vs => ∃ v vr, vs = v :: vr ∧ Rep K H d v ∧ RepL K H ds vr
end
section
variable {K : PySem.W.Frag} {H H' : Hp}
theorem TpN.keep {a : Addr} {xs : List V} (k : Keep H H') (h : TpN K H a xs) : TpN K H' a xs := by
  rcases h with ⟨o, d, h⟩ | h
  · exact .inl ⟨o, d, k _ _ h trivial⟩
  · exact .inr h
theorem FzL.keep {a : Addr} {xs : List V} (k : Keep H H') (h : FzL K H a xs) : FzL K H' a xs := by
  obtain ⟨o, h⟩ := h
  exact ⟨o, k _ _ h trivial⟩
mutual
theorem Rep.keep (k : Keep H H') : ∀ (d : D) {v : V}, Rep K H d v → Rep K H' d v
  | .non, _, h => h
  | .bl _, _, h => h
  | .int _, _, h => h
  | .str _, _, h => h
  | .tup ds, _, h => by
    obtain ⟨a, vs, e, s, r⟩ := h
    exact ⟨a, vs, e, TpN.keep k s, RepL.keep k ds r⟩
  | .lst ds, _, h => by
    obtain ⟨a, vs, e, s, r⟩ := h
    exact ⟨a, vs, e, FzL.keep k s, RepL.keep k ds r⟩
  | .dic _, _, h => by
    obtain ⟨a, e, o, c, s⟩ := h
    exact ⟨a, e, o, c, k _ _ s trivial⟩
  | .obj _, _, h => h
  | .ty _, _, h => h
  | .ins C ns ds, _, h => by
    obtain ⟨a, dx, fs, e, s, n, r⟩ := h
    exact ⟨a, dx, fs, e, k _ _ s trivial, n, RepL.keep k ds r⟩
theorem RepL.keep (k : Keep H H') : ∀ (ds : List D) {vs : List V}, RepL K H ds vs → RepL K H' ds vs
  | [], _, h => h
  | d :: ds, _, h => by
    obtain ⟨v, vr, e, r, rr⟩ := h
    exact ⟨v, vr, e, Rep.keep k d r, RepL.keep k ds rr⟩
end
theorem RepL.length : ∀ {ds : List D} {vs : List V}, RepL K H ds vs → vs.length = ds.length
  | [], _, h => by rw [show _ = [] from h]; rfl
  | d :: ds, _, h => by
    obtain ⟨v, vr, e, _, rr⟩ := h
    rw [e, List.length_cons, List.length_cons, RepL.length rr]
theorem RepL.append : ∀ {ds es : List D} {vs ws : List V}, RepL K H ds vs → RepL K H es ws → RepL K H (ds ++ es) (vs ++ ws)
  | [], _, _, _, h, h' => by rw [show _ = [] from h]; exact h'
  | d :: ds, es, _, _, h, h' => by
    obtain ⟨v, vr, e, r, rr⟩ := h
    rw [e]
    exact ⟨v, vr ++ _, rfl, r, RepL.append rr h'⟩
theorem RepL.get : ∀ {ds : List D} {vs : List V} {i : Nat} {d : D}, RepL K H ds vs → ds[i]? = some d → ∃ v, vs[i]? = some v ∧ Rep K H d v
  | [], _, _, _, _, e => by simp at e
  | d :: ds, _, 0, x, h, e => by
    obtain ⟨v, vr, ev, r, rr⟩ := h
    have e' : d = x := by simpa using e
    rw [ev, ← e']
    exact ⟨v, rfl, r⟩
  | d :: ds, _, i + 1, x, h, e => by
    obtain ⟨v, vr, ev, r, rr⟩ := h
    obtain ⟨w, h1, h2⟩ := RepL.get (i := i) rr (by simpa using e)
    rw [ev]
    exact ⟨w, by simpa using h1, h2⟩
theorem RepL.set : ∀ {ds : List D} {vs : List V} (i : Nat) {d : D} {v : V}, RepL K H ds vs → Rep K H d v → RepL K H (ds.set i d) (vs.set i v)
  | [], _, _, _, _, h, _ => by rw [show _ = [] from h]; exact rfl
  | d :: ds, _, 0, x, w, h, r' => by
    obtain ⟨v, vr, ev, r, rr⟩ := h
    rw [ev]
    exact ⟨w, vr, rfl, r', rr⟩
  | d :: ds, _, i + 1, x, w, h, r' => by
    obtain ⟨v, vr, ev, r, rr⟩ := h
    rw [ev]
    exact ⟨v, vr.set i w, rfl, r, RepL.set i rr r'⟩
theorem RepL.take : ∀ {ds : List D} {vs : List V} (n : Nat), RepL K H ds vs → RepL K H (ds.take n) (vs.take n)
  | _, _, 0, _ => by rw [List.take_zero, List.take_zero]; exact rfl
  | [], _, n + 1, h => by rw [show _ = [] from h]; exact rfl
  | d :: ds, _, n + 1, h => by
    obtain ⟨v, vr, ev, r, rr⟩ := h
    rw [ev]
    exact ⟨v, vr.take n, rfl, r, RepL.take n rr⟩
theorem RepL.drop : ∀ {ds : List D} {vs : List V} (n : Nat), RepL K H ds vs → RepL K H (ds.drop n) (vs.drop n)
  | _, _, 0, h => by rw [List.drop_zero, List.drop_zero]; exact h
  | [], _, n + 1, h => by rw [show _ = [] from h]; exact rfl
  | d :: ds, _, n + 1, h => by
    obtain ⟨v, vr, ev, r, rr⟩ := h
    rw [ev]
    exact RepL.drop n rr
theorem RepL.eraseIdx : ∀ {ds : List D} {vs : List V} (n : Nat), RepL K H ds vs → RepL K H (ds.eraseIdx n) (vs.eraseIdx n)
  | [], _, n, h => by rw [show _ = [] from h]; exact rfl
  | d :: ds, _, 0, h => by
    obtain ⟨v, vr, ev, r, rr⟩ := h
    rw [ev]
    exact rr
  | d :: ds, _, n + 1, h => by
    obtain ⟨v, vr, ev, r, rr⟩ := h
    rw [ev]
    exact ⟨v, vr.eraseIdx n, rfl, r, RepL.eraseIdx n rr⟩
theorem RepL.reverse : ∀ {ds : List D} {vs : List V}, RepL K H ds vs → RepL K H ds.reverse vs.reverse
  | [], _, h => by rw [show _ = [] from h]; exact rfl
  | d :: ds, _, h => by
    obtain ⟨v, vr, ev, r, rr⟩ := h
    rw [ev, List.reverse_cons, List.reverse_cons]
    exact RepL.append (RepL.reverse rr) ⟨v, [], rfl, r, rfl⟩
theorem RepL.one {d : D} {v : V} (r : Rep K H d v) : RepL K H [d] [v] := ⟨v, [], rfl, r, rfl⟩
theorem RepL.ints : ∀ {ns : List Int} {vs : List V}, RepL K H (ns.map D.int) vs → vs = ns.map V.int
  | [], _, h => h
  | n :: ns, _, h => by
    obtain ⟨v, vr, ev, r, rr⟩ := h
    rw [ev, show v = V.int n from r, RepL.ints rr]
    rfl
theorem RepL.of_ints : ∀ (ns : List Int), RepL K H (ns.map D.int) (ns.map V.int)
  | [] => rfl
  | n :: ns => ⟨.int n, ns.map V.int, rfl, rfl, RepL.of_ints ns⟩
theorem RepL.bls : ∀ {ns : List Bool} {vs : List V}, RepL K H (ns.map D.bl) vs → vs = ns.map V.bl
  | [], _, h => h
  | n :: ns, _, h => by
    obtain ⟨v, vr, ev, r, rr⟩ := h
    rw [ev, show v = V.bl n from r, RepL.bls rr]
    rfl
theorem RepL.snoc {ds : List D} {vs : List V} {d : D} {v : V} (h : RepL K H ds vs) (r : Rep K H d v) : RepL K H (ds ++ [d]) (vs ++ [v]) := RepL.append h (RepL.one r)
end

/-! ### the state of a def by its slots -/
inductive Slot where
  | un
  | v (d : D)
  | own (p : Addr) (ds : List D)
  | tab (P : Addr) (q : Str)
abbrev En := List Slot
/-- what holds of a slot; o: what the def's name holds (none behind the names: a list without a name) -/
def SlotOk (K : PySem.W.Frag) (H : Hp) : Slot → Option (Option V) → Prop
  | .un, _ => True
  | .v d, o => o = none ∨ ∃ v, o = some (some v) ∧ Rep K H d v
  | .own p ds, o => (o = none ∨ o = some (some (.ref p))) ∧ ∃ vs, H p = some (.lst vs) ∧ RepL K H ds vs
  | .tab P q, _ => LamX.TabS H P q
structure Sta (K : PySem.W.Frag) (B : Hp) (M : List Addr) (ρ : En) (σ : L2.St) (H : Hp) : Prop where
  frm : Frm M B H
  ok : ∀ (i : Nat) s, ρ[i]? = some s → SlotOk K H s σ[i]?
  dis : ∀ (i j : Nat) p q ds es, ρ[i]? = some (.own p ds) → ρ[j]? = some (.own q es) → i ≠ j → p ≠ q
  new : ∀ (i : Nat) p ds, ρ[i]? = some (.own p ds) → B p = none ∨ p ∈ M
  mh : ∀ p ∈ M, ∃ o, H p = some o
  /-- tables stand behind the names -/
  tbi : ∀ (i : Nat) P q, ρ[i]? = some (.tab P q) → σ.length ≤ i
theorem tab_set {ρ : En} {i j : Nat} {s : Slot} {P : Addr} {q : Str} (h : (ρ.set i s)[j]? = some (.tab P q)) (hs : ∀ P q, s ≠ .tab P q) : ρ[j]? = some (.tab P q) := by
  by_cases hj : j = i
  · subst hj
    have hlt : j < (ρ.set j s).length := (List.getElem?_eq_some_iff.mp h).1
    rw [List.length_set] at hlt
    rw [List.getElem?_set_self hlt] at h
    exact absurd (Option.some.inj h) (hs P q)
  · rw [List.getElem?_set_ne (Ne.symm hj)] at h
    exact h
/-- what an expression gives: data, or the list that slot i owns -/
inductive W where
  | d (x : D)
  | o (i : Nat)
def WOk (K : PySem.W.Frag) (H : Hp) (ρ : En) : W → V → Prop
  | .d x, v => Rep K H x v
  | .o i, v => ∃ p ds, ρ[i]? = some (.own p ds) ∧ v = .ref p
def OwnEq (ρ ρ' : En) : Prop := ∀ (i : Nat) p ds, ρ[i]? = some (.own p ds) → ∃ ds', ρ'[i]? = some (.own p ds')
theorem OwnEq.refl (ρ : En) : OwnEq ρ ρ := fun _ _ ds h => ⟨ds, h⟩
theorem OwnEq.trans {ρ ρ1 ρ2 : En} (a : OwnEq ρ ρ1) (b : OwnEq ρ1 ρ2) : OwnEq ρ ρ2 := fun i p ds h => by
  obtain ⟨ds', h'⟩ := a i p ds h
  exact b i p ds' h'
section
variable {K : PySem.W.Frag} {B H H' : Hp} {M : List Addr} {ρ ρ' : En} {σ : L2.St}
theorem WOk.keep (k : Keep H H') (oe : OwnEq ρ ρ') : ∀ {w : W} {v : V}, WOk K H ρ w v → WOk K H' ρ' w v
  | .d x, _, h => Rep.keep k x h
  | .o i, _, h => by
    obtain ⟨p, ds, e, ev⟩ := h
    obtain ⟨ds', e'⟩ := oe i p ds e
    exact ⟨p, ds', e', ev⟩
theorem tab_upd {P p : Addr} {q : Str} {vs : List V} {o : HO} (hp : H p = some (.lst vs)) (t : LamX.TabS H P q) : LamX.TabS (upd H p o) P q := by
  obtain ⟨ps, h1, h2, h3⟩ := t
  refine ⟨ps, by rw [upd_ne (fun z => by rw [z, hp] at h1; cases h1)]; exact h1, h2, fun pos cv hc => ?_⟩
  obtain ⟨c, e1, e2⟩ := h3 pos cv hc
  refine ⟨c, e1, ?_⟩
  rw [upd_ne (fun z => by rw [z, hp] at e2; unfold LamX.CodeO at e2; cases e2)]
  exact e2
theorem tab_frm {P p : Addr} {q : Str} {vs : List V} (hp : H p = some (.lst vs)) (fr : Frm [p] H H') (t : LamX.TabS H P q) : LamX.TabS H' P q := by
  obtain ⟨ps, h1, h2, h3⟩ := t
  refine ⟨ps, fr _ _ h1 (.inr (fun z => by rw [List.mem_singleton.mp z, hp] at h1; cases h1)), h2, fun pos cv hc => ?_⟩
  obtain ⟨c, e1, e2⟩ := h3 pos cv hc
  exact ⟨c, e1, fr _ _ e2 (.inr (fun z => by rw [List.mem_singleton.mp z, hp] at e2; unfold LamX.CodeO at e2; cases e2))⟩
theorem SlotOk.keep (k : Keep H H') : ∀ {s : Slot} {o : Option (Option V)}, (∀ p ds, s = .own p ds → ∃ vs, H' p = some (.lst vs) ∧ RepL K H' ds vs) → (∀ P q, s = .tab P q → LamX.TabS H' P q) → SlotOk K H s o → SlotOk K H' s o
  | .un, _, _, _, _ => trivial
  | .tab P q, _, _, w, _ => w P q rfl
  | .v d, _, _, _, h => by
    rcases h with e | ⟨v, e, r⟩
    · exact .inl e
    · exact .inr ⟨v, e, Rep.keep k d r⟩
  | .own p ds, _, w, _, h => ⟨h.1, w p ds rfl⟩
theorem SlotOk.same (k : Same H H') {s : Slot} {o : Option (Option V)} (h : SlotOk K H s o) : SlotOk K H' s o := SlotOk.keep (Keep.of k) (fun p ds e => by
  subst e
  obtain ⟨_, vs, hp, r⟩ := h
  exact ⟨vs, k _ _ hp, RepL.keep (Keep.of k) ds r⟩) (fun P q e => by
  subst e
  exact LamX.TabS.ext h k) h
theorem Sta.same (S : Sta K B M ρ σ H) (k : Same H H') : Sta K B M ρ σ H' where
  frm := S.frm.trans (Frm.of k)
  ok := fun i s e => SlotOk.same k (S.ok i s e)
  dis := S.dis
  new := S.new
  mh := fun p hp => by
    obtain ⟨o, h⟩ := S.mh p hp
    exact ⟨o, k _ _ h⟩
  tbi := S.tbi
/-- the list that slot i owns gets new items -/
theorem Sta.mut {i : Nat} {p : Addr} {ds es : List D} {vs : List V} (S : Sta K B M ρ σ H) (e : ρ[i]? = some (.own p ds)) (hp : H p = some (.lst vs)) {ws : List V} (r : RepL K H es ws) :
    Sta K B M (ρ.set i (.own p es)) σ (upd H p (.lst ws)) := by
  have kp : Keep H (upd H p (.lst ws)) := fun b o h im => by
    have : b ≠ p := fun z => by
      rw [z, hp] at h
      cases h
      exact im
    rw [upd_ne this]
    exact h
  refine ⟨fun b o h im => ?_, fun j s ej => ?_, fun j k q q' fs gs ej ek hjk => ?_, fun j q fs ej => ?_, fun q hq => ?_, fun j P q h => S.tbi j P q (tab_set h fun _ _ z => by cases z)⟩
  · have hb : b ≠ p := fun z => by
      have h2 := S.frm b o h im
      rw [z, hp] at h2
      cases h2
      rcases S.new i p ds e with n | n
      · rw [z, n] at h
        cases h
      · rcases im with im | im
        · exact im
        · exact im (z ▸ n)
    rw [upd_ne hb]
    exact S.frm b o h im
  · by_cases hj : j = i
    · subst hj
      have hlt : j < ρ.length := (List.getElem?_eq_some_iff.mp e).1
      rw [List.getElem?_set_self hlt] at ej
      cases ej
      obtain ⟨h2, _⟩ := S.ok j _ e
      exact ⟨h2, ws, upd_same, RepL.keep kp es r⟩
    · rw [List.getElem?_set_ne (Ne.symm hj)] at ej
      refine SlotOk.keep kp (fun q fs es' => ?_) (fun P q et => by
        subst et
        exact tab_upd hp (S.ok j _ ej)) (S.ok j s ej)
      subst es'
      obtain ⟨_, us, hq, r'⟩ := S.ok j _ ej
      exact ⟨us, by rw [upd_ne (S.dis j i q p fs ds ej e hj)]; exact hq, RepL.keep kp fs r'⟩
  · have look : ∀ {j : Nat} {q fs}, (ρ.set i (Slot.own p es))[j]? = some (Slot.own q fs) → ∃ fs', ρ[j]? = some (Slot.own q fs') := fun {j q fs} h => by
      by_cases hj : j = i
      · subst hj
        have hlt : j < ρ.length := (List.getElem?_eq_some_iff.mp e).1
        rw [List.getElem?_set_self hlt] at h
        cases h
        exact ⟨ds, e⟩
      · rw [List.getElem?_set_ne (Ne.symm hj)] at h
        exact ⟨fs, h⟩
    obtain ⟨a, h1⟩ := look ej
    obtain ⟨b, h2⟩ := look ek
    exact S.dis j k q q' a b h1 h2 hjk
  · by_cases hj : j = i
    · subst hj
      have hlt : j < ρ.length := (List.getElem?_eq_some_iff.mp e).1
      rw [List.getElem?_set_self hlt] at ej
      cases ej
      exact S.new j _ ds e
    · rw [List.getElem?_set_ne (Ne.symm hj)] at ej
      exact S.new j q fs ej
  · by_cases hqp : q = p
    · rw [hqp]
      exact ⟨_, upd_same⟩
    · rw [upd_ne hqp]
      exact S.mh q hq
theorem Sta.keep_mut {i : Nat} {p : Addr} {vs ws : List V} (hp : H p = some (.lst vs)) : Keep H (upd H p (.lst ws)) := fun b o h im => by
  have : b ≠ p := fun z => by
    rw [z, hp] at h
    cases h
    exact im
  rw [upd_ne this]
  exact h
theorem own_mut {i : Nat} {p : Addr} {ds es : List D} (e : ρ[i]? = some (.own p ds)) : OwnEq ρ (ρ.set i (.own p es)) := fun j q fs h => by
  by_cases hj : j = i
  · subst hj
    have hlt : j < ρ.length := (List.getElem?_eq_some_iff.mp e).1
    rw [e] at h
    cases h
    exact ⟨es, List.getElem?_set_self hlt⟩
  · exact ⟨fs, by rw [List.getElem?_set_ne (Ne.symm hj)]; exact h⟩
/-- slot i gets data -/
theorem Sta.put {i : Nat} {d : D} {v : V} (S : Sta K B M ρ σ H) (r : Rep K H d v) : Sta K B M (ρ.set i (.v d)) (σ.set i (some v)) H := by
  refine ⟨S.frm, fun j s ej => ?_, fun j k q q' fs gs ej ek hjk => ?_, fun j q fs ej => ?_, S.mh, fun j P q h => by rw [List.length_set]; exact S.tbi j P q (tab_set h fun _ _ z => by cases z)⟩
  · by_cases hj : j = i
    · subst hj
      have hlt : j < (ρ.set j (.v d)).length := (List.getElem?_eq_some_iff.mp ej).1
      rw [List.length_set] at hlt
      rw [List.getElem?_set_self hlt] at ej
      cases ej
      by_cases h2 : j < σ.length
      · exact .inr ⟨v, List.getElem?_set_self h2, r⟩
      · exact .inl (List.getElem?_eq_none_iff.mpr (by rw [List.length_set]; omega))
    · rw [List.getElem?_set_ne (Ne.symm hj)] at ej
      rw [List.getElem?_set_ne (Ne.symm hj)]
      exact S.ok j s ej
  · have look : ∀ {j : Nat} {q fs}, (ρ.set i (Slot.v d))[j]? = some (Slot.own q fs) → ρ[j]? = some (Slot.own q fs) := fun {j q fs} h => by
      by_cases hj : j = i
      · subst hj
        have hlt : j < (ρ.set j (.v d)).length := (List.getElem?_eq_some_iff.mp h).1
        rw [List.length_set] at hlt
        rw [List.getElem?_set_self hlt] at h
        cases h
      · rw [List.getElem?_set_ne (Ne.symm hj)] at h
        exact h
    exact S.dis j k q q' fs gs (look ej) (look ek) hjk
  · by_cases hj : j = i
    · subst hj
      have hlt : j < (ρ.set j (.v d)).length := (List.getElem?_eq_some_iff.mp ej).1
      rw [List.length_set] at hlt
      rw [List.getElem?_set_self hlt] at ej
      cases ej
    · rw [List.getElem?_set_ne (Ne.symm hj)] at ej
      exact S.new j q fs ej
/-- slot i gets a fresh list of its own -/
theorem Sta.putO {i : Nat} {p : Addr} {ds : List D} {vs : List V} (S : Sta K B M ρ σ H) (hp : H p = some (.lst vs)) (r : RepL K H ds vs) (nB : B p = none) (nO : ∀ (j : Nat) q es, ρ[j]? = some (.own q es) → q ≠ p) :
    Sta K B M (ρ.set i (.own p ds)) (σ.set i (some (.ref p))) H := by
  have look : ∀ {j : Nat} {q fs}, (ρ.set i (Slot.own p ds))[j]? = some (Slot.own q fs) → (j = i ∧ q = p) ∨ (j ≠ i ∧ ρ[j]? = some (Slot.own q fs)) := fun {j q fs} h => by
    by_cases hj : j = i
    · subst hj
      have hlt : j < (ρ.set j (.own p ds)).length := (List.getElem?_eq_some_iff.mp h).1
      rw [List.length_set] at hlt
      rw [List.getElem?_set_self hlt] at h
      cases h
      exact .inl ⟨rfl, rfl⟩
    · rw [List.getElem?_set_ne (Ne.symm hj)] at h
      exact .inr ⟨hj, h⟩
  refine ⟨S.frm, fun j s ej => ?_, fun j k q q' fs gs ej ek hjk => ?_, fun j q fs ej => ?_, S.mh, fun j P q h => by rw [List.length_set]; exact S.tbi j P q (tab_set h fun _ _ z => by cases z)⟩
  · by_cases hj : j = i
    · subst hj
      have hlt : j < (ρ.set j (.own p ds)).length := (List.getElem?_eq_some_iff.mp ej).1
      rw [List.length_set] at hlt
      rw [List.getElem?_set_self hlt] at ej
      cases ej
      by_cases h2 : j < σ.length
      · exact ⟨.inr (List.getElem?_set_self h2), vs, hp, r⟩
      · exact ⟨.inl (List.getElem?_eq_none_iff.mpr (by rw [List.length_set]; omega)), vs, hp, r⟩
    · rw [List.getElem?_set_ne (Ne.symm hj)] at ej
      rw [List.getElem?_set_ne (Ne.symm hj)]
      exact S.ok j s ej
  · rcases look ej with ⟨a, b⟩ | ⟨a, b⟩
    · rcases look ek with ⟨c, d⟩ | ⟨c, d⟩
      · exact absurd (a.trans c.symm) hjk
      · rw [b]
        exact Ne.symm (nO k q' gs d)
    · rcases look ek with ⟨c, d⟩ | ⟨c, d⟩
      · rw [d]
        exact nO j q fs b
      · exact S.dis j k q q' fs gs b d hjk
  · rcases look ej with ⟨a, b⟩ | ⟨a, b⟩
    · rw [b]
      exact .inl nB
    · exact S.new j q fs b
/-- a list at hand for reading -/
theorem Sta.own_at {i : Nat} {p : Addr} {ds : List D} (S : Sta K B M ρ σ H) (e : ρ[i]? = some (.own p ds)) : ∃ vs, H p = some (.lst vs) ∧ RepL K H ds vs := by
  exact (S.ok i _ e).2
theorem Sta.fresh_own (S : Sta K B M ρ σ H) {p : Addr} (n : H p = none) : ∀ (j : Nat) q es, ρ[j]? = some (.own q es) → q ≠ p := fun j q es e z => by
  obtain ⟨vs, hp, _⟩ := S.own_at e
  rw [z, n] at hp
  cases hp
theorem Sta.fresh_B (S : Sta K B M ρ σ H) {p : Addr} (n : H p = none) : B p = none := by
  cases q : B p with
  | none => rfl
  | some o =>
    by_cases hm : p ∈ M
    · obtain ⟨o', h⟩ := S.mh p hm
      rw [n] at h
      cases h
    · have := S.frm p o q (.inr hm)
      rw [n] at this
      cases this
end
end N
/-! NT -/
set_option Elab.async false
set_option linter.all false
set_option maxRecDepth 100000
set_option maxHeartbeats 1000000
/-! NT: new tuples, of which is known that they have no dict. -/
namespace N
open PySem PySem.Spec PyProof.Rows L2
section
variable {X : Cx} {e : Expr} {es : List Expr} {te : TE} {t : TA} {pos : Pos}
/-- what is asked where a new tuple is made -/
def NewT (Q : VK) (H : Hp) (xs : List V) : Prop := ∀ (o : Obj) p, o.dict = none → H p = none → Q (.ref p) (upd H p (.frz o (.tup xs)))
theorem laid_tupN {pins : List (Addr × Obj)} {σ : L2.St} {H : Hp} {s : Shared} {vs : List V} {us : List Value} {Q : VK} {k : Nat} (I : Inv X pins σ H s) (r : Vals vs us) (hz : vs.length ≤ sizeLine) (h : NewT Q H vs) :
    EP X pins σ Q (.ref s.heap.objs.size) { s with toks := k, heap := s.heap.push { cls := .type "tuple", data := .seq us.toArray } } := by
  have hp := I.hok.fresh (Nat.le_refl _)
  exact ⟨.ref s.heap.objs.size, upd H s.heap.objs.size (.frz { cls := .type "tuple", data := .seq us.toArray } (.tup vs)), I.laid (fun b u q => Heap.get?_push_of_some _ q) (Nat.le_refl _) ⟨Heap.get?_push_size _ rfl, hz, us, r, IsTup.new _ _⟩, rfl, h _ _ rfl hp⟩
def tTupN (t : TA) : TE := fun σ H Q => t σ H fun xs H1 => xs.length ≤ sizeLine ∧ NewT Q H1 xs
theorem pe_tupN {x1} (h : PA X es t) : PE X (.Tuple es x1 pos) (tTupN t) := by
  refine ⟨fun pins s σ H Q I hq => ?_⟩
  refine wpAny_Tuple_spliced (thn (h.run pos pins s σ H _ I hq) fun us s1 ⟨xs, H1, I1, r, z, q⟩ => ⟨by rw [← r.length]; exact z, ?_⟩)
  exact laid_tupN (k := s1.toks) I1 r z q
theorem call_tupleN : CallR X (.type "tuple") (fun xs H Q => ∃ p ys, xs = [.ref p] ∧ ((SqL X.K H p ys ∧ NewT Q H ys) ∨ (SqT X.K H p ys ∧ Q (.ref p) H))) := by
  intro pins s σ H xs us Q I r h
  obtain ⟨p, ys, rfl, h⟩ := h
  obtain ⟨u, rfl, rx⟩ := vals1 r
  cases rx
  rcases h with ⟨hq, q⟩ | ⟨hq, q⟩
  · obtain ⟨its, r', pl, hz⟩ := I.list hq
    have hlen := r'.length
    refine call_tuple_list pl.isList (fun h' kp => ?_) (by simp only [List.size_toArray] <;> omega)
    have I1 : Inv X pins σ H { s with heap := h' } := I.kept (t' := s.toks) kp
    exact laid_tupN (k := s.toks) I1 r' hz q
  · obtain ⟨its, r', pl, hz⟩ := I.tuple hq
    exact call_tuple_same pl ⟨.ref p, H, I, rfl, q⟩
/-- t + u, any t, u -/
def rCatN (K : PySem.W.Frag) : R2 := fun x y H Q => ∃ a b xs ys, x = .ref a ∧ y = .ref b ∧ SqT K H a xs ∧ SqT K H b ys ∧ xs.length + ys.length ≤ sizeLine ∧
  (xs = [] → Q (.ref b) H) ∧ (xs ≠ [] → ys = [] → Q (.ref a) H) ∧ (xs ≠ [] → ys ≠ [] → NewT Q H (xs ++ ys))
theorem op_catN : OpR X (binaryOp .Add) (rCatN X.K) := by
  intro pins s σ H x y v u Q I rx ry h
  obtain ⟨a, b, xs, ys, rfl, rfl, ha, hb, hz, q0, q1, q2⟩ := h
  cases rx
  cases ry
  obtain ⟨its, r1, p1, _⟩ := I.tuple ha
  obtain ⟨its2, r2, p2, _⟩ := I.tuple hb
  by_cases hx : xs = []
  · subst hx
    cases r1
    exact cat_tup0 p1 p2 ⟨.ref b, H, I, rfl, q0 rfl⟩
  · refine HT.cat_tup p1 p2 (fun z => hx (r1.nil_iff.mp z)) (fun z => ⟨.ref a, H, I, rfl, q1 hx (r2.nil_iff.mp z)⟩) (fun z => ?_) (by rw [← r1.length, ← r2.length]; exact hz)
    exact laid_tupN (k := s.toks) I (r1.append r2) (by rw [List.length_append]; exact hz) (q2 hx (fun w => z (r2.nil_iff.mpr w)))
/-- t[lo:hi] -/
def rSlN (K : PySem.W.Frag) : V → Option Int → Option Int → Hp → VK → Prop := fun x lo hi H Q => ∃ a xs, x = .ref a ∧ SqT K H a xs ∧
  (HT.sIx xs.length 0 lo = 0 ∧ HT.sIx xs.length xs.length hi = xs.length → Q (.ref a) H) ∧ (¬ (HT.sIx xs.length 0 lo = 0 ∧ HT.sIx xs.length xs.length hi = xs.length) → NewT Q H (cutV xs lo hi))
theorem sl_tupN : SlR X (rSlN X.K) := by
  intro pins s σ H x v vl vu lo hi sl Q I rx hs pl pu h
  obtain ⟨a, xs, rfl, hx, q1, q2⟩ := h
  cases rx
  obtain ⟨its, r, ht, hz⟩ := I.tuple hx
  have hlen : its.toArray.size = xs.length := by rw [List.size_toArray]; exact r.length.symm
  refine ⟨"tuple", _, PyProof.Rows.slot_tuple_getitem.lookup, ht.typeIs, ?_⟩
  by_cases hw : HT.sIx xs.length 0 lo = 0 ∧ HT.sIx xs.length xs.length hi = xs.length
  · exact getItem_tuple_whole ht hs pl pu (by rw [hlen]; exact hw) ⟨.ref a, H, I, rfl, q1 hw⟩
  · refine HT.getItem_tuple_cut ht hs pl pu (by rw [hlen]; exact hw) ?_ (by rw [hlen]; exact hz)
    rw [hlen]
    exact laid_tupN (k := s.toks) I ((r.drop (HT.sIx xs.length 0 lo)).take (HT.sIx xs.length xs.length hi - HT.sIx xs.length 0 lo)) (Nat.le_trans (cutV_length xs lo hi) hz) (q2 hw)
def tTupRgN (te : L2.St → Hp → (Int → Int → Hp → Prop) → Prop) : TE := fun σ H Q => te σ H fun a b H1 => RgOk a b ∧ NewT Q H1 (rgV a b)
theorem pe_tupRgN {te : L2.St → Hp → (Int → Int → Hp → Prop) → Prop} {p pos : Pos} (hc : X.calm = true) (hg : Gl X "tuple") (hm : X.mg "tuple" = none) (he : PRg X e te) (na : starEach [e] X.env = (false, eval e X.env) :: starEach [] X.env := by rfl) : PE X (.Call (.Name "tuple" p) [e] [] pos) (tTupRgN te) := by
  refine ⟨fun pins s σ H Q I h => ?_⟩
  refine Call_ (ld_blt I hg hm PyProof.Rows.boot_tuple (PyProof.Rows.callWith_type1 (PyProof.Rows.args_cons (thn (he pins s σ H _ I h) fun x s1 ⟨r, a, b, t, u, v, H1, ex, hr, I1, ok, q⟩ => PyProof.Rows.args_nil ?_) na) na))
  subst ex
  obtain ⟨b1, b2, b3, b4, b5⟩ := ok
  refine call_tuple_range (n := (b - a).toNat) (I1.ok.hd hc) hr (small_one b1 b2 b3 b4) (rangeSize_nat a b) b5 fun h' tk acc hk hi => ?_
  have I2 : Inv X pins σ H1 { s1 with heap := h', toks := tk } := I1.kept hk
  have := laid_tupN (k := tk) I2 (vals_rg hi) (by rw [rgV_length, sizeLine_eq]; omega) q
  rw [Array.toArray_toList] at this
  exact this
end
end N
/-! N1 -/
set_option Elab.async false
set_option linter.all false
set_option maxRecDepth 100000
set_option maxHeartbeats 1000000
/-! N1: the judgements over data; expressions. -/
namespace N
open PySem PySem.Spec PyProof.Rows L2

/-! ### locking a list -/
section
variable {X : Cx} {pins : List (Addr × Obj)} {σ : L2.St} {H : Hp} {s : Shared}
theorem Inv.freeze {p : Addr} {xs : List V} (I : Inv X pins σ H s) (hp : H p = some (.lst xs)) : ∃ o : Obj, o.cls = .type "list" ∧ Inv X pins σ (upd H p (.frz o (.lst xs))) s := by
  obtain ⟨z, its, n, r, e⟩ := I.hok p _ hp
  have ne : ∀ b u, H b = some u → (∀ ys, u ≠ .lst ys) → b ≠ p := fun b u h nu w => by
    rw [w, hp] at h
    cases h
    exact nu xs rfl
  have nn : ∀ b, H b = none → b ≠ p := fun b h w => by
    rw [w, hp] at h
    cases h
  refine ⟨{ cls := .type "list", data := .seq its.toArray n }, rfl, ⟨I.ok, I.os, I.bare, I.base.trans ⟨fun b o q _ _ _ => q, fun b o q _ _ _ => ⟨o.slots, q⟩, fun b o q n _ => by rw [upd_ne (nn b n)]; exact n, fun b o q _ => ⟨o, q⟩,
    fun b ys q => by rw [upd_ne (ne b _ q (fun _ w => by cases w))]; exact q, fun b o u q => by rw [upd_ne (ne b _ q (fun _ w => by cases w))]; exact q, fun b ps q => ⟨#[], by rw [upd_ne (ne b _ q (fun _ w => by cases w)), q]; simp⟩⟩,
    I.loc, I.cell, by rw [upd_ne (nn _ I.free)]; exact I.free, fun x c h => by rw [upd_ne (nn _ (I.freeC x c h))]; exact I.freeC x c h, fun q hq => ?_, fun b u q => ?_, I.len⟩⟩
  · obtain ⟨h1, h2, h3⟩ := I.pin q hq
    exact ⟨h1, by rw [upd_ne (nn _ h2)]; exact h2, h3⟩
  · by_cases hb : b = p
    · rw [hb, upd_same] at q
      cases q
      rw [hb]
      exact ⟨e, z, its, n, r, e⟩
    · rw [upd_ne hb] at q
      refine (I.hok b u q).stay (fun _ _ _ w => w) (fun c w => by rw [upd_ne (ne c _ w (fun _ w2 => by cases w2))]; exact w) fun c ys w => by rw [upd_ne (ne c _ w (fun _ w2 => by cases w2))]; exact w
/-- the new list that v is, locked -/
def frzQ (Q : VK) : VK := fun v H => ∃ p xs, v = .ref p ∧ H p = some (.lst xs) ∧ ∀ o : Obj, o.cls = .type "list" → Q v (upd H p (.frz o (.lst xs)))
theorem EP.frz {Q : VK} {u : Value} (h : EP X pins σ (frzQ Q) u s) : EP X pins σ Q u s := by
  obtain ⟨v, H', I, r, p, xs, ev, hp, q⟩ := h
  obtain ⟨o, hc, J⟩ := Inv.freeze I hp
  exact ⟨v, _, J, r, q o hc⟩
end
theorem pe_frz {X : Cx} {e : Expr} {t : TE} (h : PE X e t) : PE X e (fun σ H Q => t σ H (frzQ Q)) := ⟨fun pins s σ H Q I w => thn (h.run pins s σ H _ I w) fun _ _ q => EP.frz q⟩
/-- data, or a new list that gets locked -/
def frzC (Q : VK) : VK := fun v H => Q v H ∨ frzQ Q v H
theorem pe_frzC {X : Cx} {e : Expr} {t : TE} (h : PE X e t) : PE X e (fun σ H Q => t σ H (frzC Q)) := ⟨fun pins s σ H Q I w => thn (h.run pins s σ H _ I w) fun _ _ ⟨v, H', I', r, q⟩ => by
  rcases q with q | q
  · exact ⟨v, H', I', r, q⟩
  · exact EP.frz ⟨v, H', I', r, q⟩⟩
theorem pe_imp {X : Cx} {e : Expr} {t t' : TE} (h : PE X e t) (w : ∀ σ H Q, t' σ H Q → t σ H Q) : PE X e t' := ⟨fun pins s σ H Q I q => h.run pins s σ H Q I (w σ H Q q)⟩
theorem pe_impL {X : Cx} {e : Expr} {t t' : TE} (h : PE X e t) (w : ∀ σ H Q, σ.length = X.N.length → t' σ H Q → t σ H Q) : PE X e t' := ⟨fun pins s σ H Q I q => h.run pins s σ H Q I (w σ H Q I.len q)⟩
theorem ps_impL {X : Cx} {e : Stmt} {t t' : TS} (h : PS X e t) (w : ∀ D σ H, σ.length = X.N.length → t' D σ H → t D σ H) : PS X e t' := ⟨fun pins s σ H D I q => h.run pins s σ H D I (w D σ H I.len q)⟩
theorem pt_imp {X : Cx} {e : Expr} {t t' : TT} (h : PT X e t) (w : ∀ σ H Q, t' σ H Q → t σ H Q) : PT X e t' := ⟨fun pins s σ H Q I q => h.run pins s σ H Q I (w σ H Q q)⟩
theorem pw_imp {X : Cx} {e : Expr} {t t' : TT} (h : PW X e t) (w : ∀ σ H Q, t' σ H Q → t σ H Q) : PW X e t' := ⟨fun wh pins s σ H Q I q => h.run wh pins s σ H Q I (w σ H Q q)⟩
theorem pa_imp {X : Cx} {es : List Expr} {t t' : TA} (h : PA X es t) (w : ∀ σ H Q, t' σ H Q → t σ H Q) : PA X es t' := ⟨fun pos pins s σ H Q I q => h.run pos pins s σ H Q I (w σ H Q q)⟩
theorem ps_imp {X : Cx} {e : Stmt} {t t' : TS} (h : PS X e t) (w : ∀ D σ H, t' D σ H → t D σ H) : PS X e t' := ⟨fun pins s σ H D I q => h.run pins s σ H D I (w D σ H q)⟩
theorem pss_imp {X : Cx} {e : List Stmt} {t t' : TS} (h : PSs X e t) (w : ∀ D σ H, t' D σ H → t D σ H) : PSs X e t' := ⟨fun pins s σ H D I q => h.run pins s σ H D I (w D σ H q)⟩

/-! ### readings over data -/
abbrev RE := En → (W → En → Prop) → Prop
abbrev RT := En → (Bool → En → Prop) → Prop
abbrev RA := En → (List W → En → Prop) → Prop
def MonoE (r : RE) : Prop := ∀ ρ (P P' : W → En → Prop), (∀ w ρ', P w ρ' → P' w ρ') → r ρ P → r ρ P'
def MonoT (r : RT) : Prop := ∀ ρ (P P' : Bool → En → Prop), (∀ w ρ', P w ρ' → P' w ρ') → r ρ P → r ρ P'
def MonoA (r : RA) : Prop := ∀ ρ (P P' : List W → En → Prop), (∀ w ρ', P w ρ' → P' w ρ') → r ρ P → r ρ P'
/-- the list of values stands for the list of results -/
def WOks (K : PySem.W.Frag) (H : Hp) (ρ : En) : List W → List V → Prop
  | [], vs => vs = []
  | w :: ws, vs => ∃ v vr, vs = v :: vr ∧ WOk K H ρ w v ∧ WOks K H ρ ws vr
section
variable {K : PySem.W.Frag} {B H H' : Hp} {M : List Addr} {ρ ρ' : En} {σ : L2.St}
theorem WOks.keep (k : Keep H H') (oe : OwnEq ρ ρ') : ∀ {ws : List W} {vs : List V}, WOks K H ρ ws vs → WOks K H' ρ' ws vs
  | [], _, h => h
  | w :: ws, _, h => by
    obtain ⟨v, vr, e, r, rr⟩ := h
    exact ⟨v, vr, e, WOk.keep k oe r, WOks.keep k oe rr⟩
end
def kE (K : PySem.W.Frag) (B : Hp) (M : List Addr) (ρ : En) (σ : L2.St) (H : Hp) (Q : VK) : W → En → Prop := fun w ρ' => ∀ v H', Keep H H' → OwnEq ρ ρ' → Sta K B M ρ' σ H' → WOk K H' ρ' w v → Q v H'
def kT (K : PySem.W.Frag) (B : Hp) (M : List Addr) (ρ : En) (σ : L2.St) (H : Hp) (Q : Bool → Hp → Prop) : Bool → En → Prop := fun b ρ' => ∀ H', Keep H H' → OwnEq ρ ρ' → Sta K B M ρ' σ H' → Q b H'
def kA (K : PySem.W.Frag) (B : Hp) (M : List Addr) (ρ : En) (σ : L2.St) (H : Hp) (Q : List V → Hp → Prop) : List W → En → Prop := fun ws ρ' => ∀ vs H', Keep H H' → OwnEq ρ ρ' → Sta K B M ρ' σ H' → WOks K H' ρ' ws vs → Q vs H'
def tD (K : PySem.W.Frag) (B : Hp) (M : List Addr) (r : RE) : TE := fun σ H Q => ∃ ρ, Sta K B M ρ σ H ∧ r ρ (kE K B M ρ σ H Q)
def tDT (K : PySem.W.Frag) (B : Hp) (M : List Addr) (r : RT) : TT := fun σ H Q => ∃ ρ, Sta K B M ρ σ H ∧ r ρ (kT K B M ρ σ H Q)
def tDA (K : PySem.W.Frag) (B : Hp) (M : List Addr) (r : RA) : TA := fun σ H Q => ∃ ρ, Sta K B M ρ σ H ∧ r ρ (kA K B M ρ σ H Q)
structure DE (X : Cx) (B : Hp) (M : List Addr) (e : Expr) (r : RE) : Prop where
  pe : PE X e (tD X.K B M r)
  mo : MonoE r
structure DT (X : Cx) (B : Hp) (M : List Addr) (e : Expr) (r : RT) : Prop where
  pt : PT X e (tDT X.K B M r)
  mo : MonoT r
structure DW (X : Cx) (B : Hp) (M : List Addr) (e : Expr) (r : RT) : Prop where
  pw : PW X e (tDT X.K B M r)
  mo : MonoT r
structure DA (X : Cx) (B : Hp) (M : List Addr) (es : List Expr) (r : RA) : Prop where
  pa : PA X es (tDA X.K B M r)
  mo : MonoA r
  len : ∀ ρ P, r ρ P → r ρ fun ws ρ' => ws.length = es.length ∧ P ws ρ'
section
variable {X : Cx} {B : Hp} {M : List Addr} {e a b c : Expr} {es : List Expr} {pos : Pos}
/-- the way from a reading of the layer below -/
theorem DE.mk' {t : TE} {r : RE} (h : PE X e t) (mo : MonoE r) (w : ∀ σ H Q ρ, Sta X.K B M ρ σ H → r ρ (kE X.K B M ρ σ H Q) → t σ H Q) : DE X B M e r := ⟨pe_imp h fun σ H Q ⟨ρ, S, q⟩ => w σ H Q ρ S q, mo⟩
theorem DT.mk' {t : TT} {r : RT} (h : PT X e t) (mo : MonoT r) (w : ∀ σ H Q ρ, Sta X.K B M ρ σ H → r ρ (kT X.K B M ρ σ H Q) → t σ H Q) : DT X B M e r := ⟨pt_imp h fun σ H Q ⟨ρ, S, q⟩ => w σ H Q ρ S q, mo⟩
theorem DA.mk' {t : TA} {r : RA} (h : PA X es t) (mo : MonoA r) (ln : ∀ ρ P, r ρ P → r ρ fun ws ρ' => ws.length = es.length ∧ P ws ρ') (w : ∀ σ H Q ρ, Sta X.K B M ρ σ H → r ρ (kA X.K B M ρ σ H Q) → t σ H Q) : DA X B M es r := ⟨pa_imp h fun σ H Q ⟨ρ, S, q⟩ => w σ H Q ρ S q, mo, ln⟩
/-- a part first, then the rest -/
theorem into {ra : RE} (ha : DE X B M a ra) {σ : L2.St} {H : Hp} {ρ : En} (S : Sta X.K B M ρ σ H) {P : W → En → Prop} (h : ra ρ P) {Q : VK} (w : ∀ w1 ρ1 v H1, P w1 ρ1 → Keep H H1 → OwnEq ρ ρ1 → Sta X.K B M ρ1 σ H1 → WOk X.K H1 ρ1 w1 v → Q v H1) : tD X.K B M ra σ H Q :=
  ⟨ρ, S, ha.mo ρ P _ (fun w1 ρ1 p v H1 k o S1 r => w w1 ρ1 v H1 p k o S1 r) h⟩
theorem intoT {ra : RT} (ha : MonoT ra) {K : PySem.W.Frag} {σ : L2.St} {H : Hp} {ρ : En} (S : Sta K B M ρ σ H) {P : Bool → En → Prop} (h : ra ρ P) {Q : Bool → Hp → Prop} (w : ∀ w1 ρ1 H1, P w1 ρ1 → Keep H H1 → OwnEq ρ ρ1 → Sta K B M ρ1 σ H1 → Q w1 H1) : tDT K B M ra σ H Q :=
  ⟨ρ, S, ha ρ P _ (fun w1 ρ1 p H1 k o S1 => w w1 ρ1 H1 p k o S1) h⟩
theorem intoA {ra : RA} (ha : DA X B M es ra) {σ : L2.St} {H : Hp} {ρ : En} (S : Sta X.K B M ρ σ H) {P : List W → En → Prop} (h : ra ρ P) {Q : List V → Hp → Prop} (w : ∀ w1 ρ1 v H1, P w1 ρ1 → Keep H H1 → OwnEq ρ ρ1 → Sta X.K B M ρ1 σ H1 → WOks X.K H1 ρ1 w1 v → Q v H1) : tDA X.K B M ra σ H Q :=
  ⟨ρ, S, ha.mo ρ P _ (fun w1 ρ1 p v H1 k o S1 r => w w1 ρ1 v H1 p k o S1 r) h⟩

/-! ### names, constants -/
def rd (ρ : En) (i : Nat) : Option W := match ρ[i]? with
  | some (.v d) => some (.d d)
  | some (.own _ _) => some (.o i)
  | _ => none
def rVar (i : Nat) : RE := fun ρ Q => match rd ρ i with
  | some w => Q w ρ
  | none => False
theorem rVar.el {i : Nat} {ρ : En} {Q : W → En → Prop} (h : rVar i ρ Q) : ∃ w, rd ρ i = some w ∧ Q w ρ := by
  unfold rVar at h
  cases e : rd ρ i with
  | none => rw [e] at h; exact h.elim
  | some w => rw [e] at h; exact ⟨w, rfl, h⟩
theorem rVar.mk {i : Nat} {ρ : En} {Q : W → En → Prop} {w : W} (e : rd ρ i = some w) (h : Q w ρ) : rVar i ρ Q := by
  unfold rVar
  rw [e]
  exact h
theorem dv (i : Nat) {x : Str} (hN : X.N[i]? = some x := by rfl) (hv : Vis X.env.scope x := by first | exact Or.inl rfl | exact Or.inr (Or.inl rfl) | exact Or.inr (Or.inr rfl)) (hd : (x == ("__debug__" : Str)) = false := by decide)
    (hcd : (x == ("__classdict__" : Str)) = false := by decide) : DE X B M (.Name x pos) (rVar i) := by
  refine ⟨pe_impL (pe_var hN hv hd hcd) fun σ H Q hl ⟨ρ, S, q⟩ => ?_, fun ρ P P' h q => by obtain ⟨w, e, p⟩ := rVar.el q; exact rVar.mk e (h _ _ p)⟩
  have hsi : i < σ.length := by rw [hl]; exact (List.getElem?_eq_some_iff.mp hN).1
  obtain ⟨w, e, q⟩ := rVar.el q
  unfold rd at e
  cases hs : ρ[i]? with
  | none => rw [hs] at e; cases e
  | some sl =>
    rw [hs] at e
    have h2 := S.ok i _ hs
    have hne : σ[i]? ≠ none := fun z => by
      have := List.getElem?_eq_none_iff.mp z
      omega
    cases sl with
    | un => cases e
    | tab P q => cases e
    | v d =>
      cases e
      rcases h2 with z | ⟨v, h1, r⟩
      · exact absurd z hne
      · exact ⟨v, h1, q v H (Keep.refl _) (OwnEq.refl _) S r⟩
    | own p ds =>
      cases e
      obtain ⟨z | h1, _⟩ := h2
      · exact absurd z hne
      exact ⟨_, h1, q _ H (Keep.refl _) (OwnEq.refl _) S ⟨p, ds, hs, rfl⟩⟩
def rC (d : D) : RE := fun ρ Q => Q (.d d) ρ
theorem mo_rC {d : D} : MonoE (rC d) := fun ρ P P' h p => h _ _ p
theorem de_int {i : Int} {j pos} : DE X B M (.Constant (.int i) j pos) (rC (.int i)) := DE.mk' pe_int mo_rC fun σ H Q ρ S q => q _ H (Keep.refl _) (OwnEq.refl _) S rfl
theorem de_bl {b : Bool} {j pos} : DE X B M (.Constant (.bool b) j pos) (rC (.bl b)) := DE.mk' pe_bl mo_rC fun σ H Q ρ S q => q _ H (Keep.refl _) (OwnEq.refl _) S rfl
theorem de_non {j pos} : DE X B M (.Constant .none j pos) (rC .non) := DE.mk' pe_non mo_rC fun σ H Q ρ S q => q _ H (Keep.refl _) (OwnEq.refl _) S rfl
theorem de_str {x : Str} {j pos} : DE X B M (.Constant (.str x) j pos) (rC (.str x)) := DE.mk' pe_str mo_rC fun σ H Q ρ S q => q _ H (Keep.refl _) (OwnEq.refl _) S rfl
/-- a module's constant -/
theorem de_glob {x : Str} {d : D} {v : V} {u : Value} (hg : Gl X x) (hm : X.mg x = some u) (r : RelV v u) (hd' : ∀ H, Rep X.K H d v) (hd : (x == ("__debug__" : Str)) = false := by decide) : DE X B M (.Name x pos) (rC d) :=
  DE.mk' (pe_glob hg hm r hd) mo_rC fun σ H Q ρ S q => q _ H (Keep.refl _) (OwnEq.refl _) S (hd' H)
theorem de_globI {x : Str} {i : Int} (hg : Gl X x) (hm : ∃ t, X.mg x = some (.int i t)) (hd : (x == ("__debug__" : Str)) = false := by decide) : DE X B M (.Name x pos) (rC (.int i)) := by
  obtain ⟨t, h⟩ := hm
  exact de_glob hg h (v := .int i) ⟨t, rfl⟩ (fun _ => rfl) hd

/-! ### operators of two places -/
/-- an operation over data: what it wants and gives -/
abbrev O2 := W → W → En → (D → Prop) → Prop
def MonoO (o : O2) : Prop := ∀ x y ρ (P P' : D → Prop), (∀ d, P d → P' d) → o x y ρ P → o x y ρ P'
def r2 (ra rb : RE) (o : O2) : RE := fun ρ Q => ra ρ fun w1 ρ1 => rb ρ1 fun w2 ρ2 => o w1 w2 ρ2 fun d => Q (.d d) ρ2
theorem mo_r2 {ra rb : RE} {o : O2} (ha : MonoE ra) (hb : MonoE rb) (ho : MonoO o) : MonoE (r2 ra rb o) := fun ρ P P' h p =>
  ha ρ _ _ (fun w1 ρ1 p1 => hb ρ1 _ _ (fun w2 ρ2 p2 => ho _ _ _ _ _ (fun d pd => h _ _ pd) p2) p1) p
/-- o tells what the rule r of values asks -/
def Tells2 (K : PySem.W.Frag) (r : R2) (o : O2) : Prop := ∀ (B : Hp) (M : List Addr) (ρ : En) (σ : L2.St) (H : Hp) (w1 w2 : W) (x y : V) (Q : VK) (P : D → Prop), Sta K B M ρ σ H → WOk K H ρ w1 x → WOk K H ρ w2 y → o w1 w2 ρ P →
  (∀ d v H', P d → Same H H' → Rep K H' d v → Q v H') → r x y H Q
theorem r2_imp {ra rb : RE} {o : O2} {r : R2} (ha : DE X B M a ra) (hb : DE X B M b rb) (ho : MonoO o) (ht : Tells2 X.K r o) {σ : L2.St} {H : Hp} {Q : VK} {ρ : En} (S : Sta X.K B M ρ σ H) (q : r2 ra rb o ρ (kE X.K B M ρ σ H Q)) :
    tOp r (tD X.K B M ra) (tD X.K B M rb) σ H Q := by
  refine into ha S q fun w1 ρ1 v H1 p1 k1 o1 S1 r1 => ?_
  refine into hb S1 p1 fun w2 ρ2 v2 H2 p2 k2 o2 S2 r2 => ?_
  refine ht B M ρ2 σ H2 w1 w2 v v2 Q _ S2 (WOk.keep k2 o2 r1) r2 p2 fun d u H3 pd sm rr => ?_
  exact pd u H3 ((k1.trans k2).trans (Keep.of sm)) (o1.trans o2) (S2.same sm) rr
theorem de_op {op : Operator} {ra rb : RE} {o : O2} {r : R2} (hr : OpR X (binaryOp op) r) (ht : Tells2 X.K r o) (ho : MonoO o) (ha : DE X B M a ra) (hb : DE X B M b rb) : DE X B M (.BinOp a op b pos) (r2 ra rb o) :=
  DE.mk' (pe_op hr ha.pe hb.pe) (mo_r2 ha.mo hb.mo ho) fun σ H Q ρ S q => r2_imp ha hb ho ht S q
/-- ints -/
def oI (C : Int → Int → Prop) (g : Int → Int → D) : O2 := fun w1 w2 _ P => match w1, w2 with
  | .d (.int i), .d (.int j) => C i j ∧ P (g i j)
  | _, _ => False
def oI0 (g : Int → Int → D) : O2 := fun w1 w2 _ P => match w1, w2 with
  | .d (.int i), .d (.int j) => P (g i j)
  | _, _ => False
theorem oI.el {C : Int → Int → Prop} {g : Int → Int → D} {w1 w2 : W} {ρ : En} {P : D → Prop} (h : oI C g w1 w2 ρ P) : ∃ i j, w1 = .d (.int i) ∧ w2 = .d (.int j) ∧ C i j ∧ P (g i j) := by
  unfold oI at h
  split at h
  · exact ⟨_, _, rfl, rfl, h.1, h.2⟩
  · exact h.elim
theorem oI0.el {g : Int → Int → D} {w1 w2 : W} {ρ : En} {P : D → Prop} (h : oI0 g w1 w2 ρ P) : ∃ i j, w1 = .d (.int i) ∧ w2 = .d (.int j) ∧ P (g i j) := by
  unfold oI0 at h
  split at h
  · exact ⟨_, _, rfl, rfl, h⟩
  · exact h.elim
theorem mo_oI {C : Int → Int → Prop} {g : Int → Int → D} : MonoO (oI C g) := fun x y ρ P P' h q => by
  obtain ⟨i, j, rfl, rfl, c, p⟩ := q.el
  exact ⟨c, h _ p⟩
theorem mo_oI0 {g : Int → Int → D} : MonoO (oI0 g) := fun x y ρ P P' h q => by
  obtain ⟨i, j, rfl, rfl, p⟩ := q.el
  exact h _ p
theorem tells_I {K : PySem.W.Frag} {C : Int → Int → Prop} {g : Int → Int → D} {g' : Int → Int → V} (hg : ∀ i j H, Rep K H (g i j) (g' i j)) : Tells2 K (rI C g') (oI C g) := fun B M ρ σ H w1 w2 x y Q P S r1 r2 hh q => by
  obtain ⟨i, j, e1, e2, c, p⟩ := hh.el
  subst e1 e2
  exact ⟨i, j, r1, r2, c, q _ _ H p (Same.refl _) (hg i j H)⟩
theorem tells_I0 {K : PySem.W.Frag} {g : Int → Int → D} {g' : Int → Int → V} (hg : ∀ i j H, Rep K H (g i j) (g' i j)) : Tells2 K (rI0 g') (oI0 g) := fun B M ρ σ H w1 w2 x y Q P S r1 r2 hh q => by
  obtain ⟨i, j, e1, e2, p⟩ := hh.el
  subst e1 e2
  exact ⟨i, j, r1, r2, q _ _ H p (Same.refl _) (hg i j H)⟩
theorem de_add {ra rb : RE} (ha : DE X B M a ra) (hb : DE X B M b rb) : DE X B M (.BinOp a .Add b pos) (r2 ra rb (oI0 fun i j => .int (i + j))) := de_op op_add (tells_I0 fun _ _ _ => rfl) mo_oI0 ha hb
theorem de_sub {ra rb : RE} (ha : DE X B M a ra) (hb : DE X B M b rb) : DE X B M (.BinOp a .Sub b pos) (r2 ra rb (oI0 fun i j => .int (i - j))) := de_op op_sub (tells_I0 fun _ _ _ => rfl) mo_oI0 ha hb
theorem de_mul {ra rb : RE} (ha : DE X B M a ra) (hb : DE X B M b rb) : DE X B M (.BinOp a .Mult b pos) (r2 ra rb (oI CMul fun i j => .int (i * j))) := de_op op_mul (tells_I fun _ _ _ => rfl) mo_oI ha hb
theorem de_mod {ra rb : RE} (ha : DE X B M a ra) (hb : DE X B M b rb) : DE X B M (.BinOp a .Mod b pos) (r2 ra rb (oI (fun _ j => 0 < j) fun i j => .int (i % j))) := de_op op_mod (tells_I fun _ _ _ => rfl) mo_oI ha hb
theorem de_fdiv {ra rb : RE} (ha : DE X B M a ra) (hb : DE X B M b rb) : DE X B M (.BinOp a .FloorDiv b pos) (r2 ra rb (oI CDiv fun i j => .int (i / j))) := de_op op_fdiv (tells_I fun _ _ _ => rfl) mo_oI ha hb
theorem de_pow {ra rb : RE} (ha : DE X B M a ra) (hb : DE X B M b rb) : DE X B M (.BinOp a .Pow b pos) (r2 ra rb (oI CPow fun i j => .int (i ^ j.toNat))) := de_op op_pow (tells_I fun _ _ _ => rfl) mo_oI ha hb
/-! ### comparisons -/
theorem de_cmp {op : CmpOp} {ra rb : RE} {o : O2} {r : R2} (hr : OpR X (compareOp op) r) (ht : Tells2 X.K r o) (ho : MonoO o) (ha : DE X B M a ra) (hb : DE X B M b rb) (hm : behindInMarks op b = false) : DE X B M (.Compare a [op] [b] pos) (r2 ra rb o) :=
  DE.mk' (pe_cmpR hr ha.pe hb.pe hm) (mo_r2 ha.mo hb.mo ho) fun σ H Q ρ S q => r2_imp ha hb ho ht S q
theorem de_lt {ra rb : RE} (ha : DE X B M a ra) (hb : DE X B M b rb) : DE X B M (.Compare a [.Lt] [b] pos) (r2 ra rb (oI0 fun i j => .bl (decide (i < j)))) := de_cmp op_lt (tells_I0 fun _ _ _ => rfl) mo_oI0 ha hb (nomark _)
theorem de_le {ra rb : RE} (ha : DE X B M a ra) (hb : DE X B M b rb) : DE X B M (.Compare a [.LtE] [b] pos) (r2 ra rb (oI0 fun i j => .bl (decide (i ≤ j)))) := de_cmp op_le (tells_I0 fun _ _ _ => rfl) mo_oI0 ha hb (nomark _)
theorem de_gt {ra rb : RE} (ha : DE X B M a ra) (hb : DE X B M b rb) : DE X B M (.Compare a [.Gt] [b] pos) (r2 ra rb (oI0 fun i j => .bl (decide (j < i)))) := de_cmp op_gt (tells_I0 fun _ _ _ => rfl) mo_oI0 ha hb (nomark _)
theorem de_ge {ra rb : RE} (ha : DE X B M a ra) (hb : DE X B M b rb) : DE X B M (.Compare a [.GtE] [b] pos) (r2 ra rb (oI0 fun i j => .bl (decide (j ≤ i)))) := de_cmp op_ge (tells_I0 fun _ _ _ => rfl) mo_oI0 ha hb (nomark _)
/-- two flat things of one kind -/
def eqS : D → D → Option Bool
  | .int i, .int j => some (decide (i = j))
  | .bl i, .bl j => some (decide (i = j))
  | .str i, .str j => some (decide (i = j))
  | _, _ => none
def eqW : W → W → Option Bool
  | .d x, .d y => eqS x y
  | _, _ => none
def oEq : O2 := fun w1 w2 _ P => match eqW w1 w2 with
  | some b => P (.bl b)
  | none => False
def oNe : O2 := fun w1 w2 _ P => match eqW w1 w2 with
  | some b => P (.bl (!b))
  | none => False
theorem eqW_el {w1 w2 : W} {b : Bool} (h : eqW w1 w2 = some b) : ∃ x y, w1 = .d x ∧ w2 = .d y ∧ eqS x y = some b := by
  cases w1 <;> cases w2 <;> first | exact ⟨_, _, rfl, rfl, h⟩ | cases h
theorem oEq.el {w1 w2 : W} {ρ : En} {P : D → Prop} (h : oEq w1 w2 ρ P) : ∃ b, eqW w1 w2 = some b ∧ P (.bl b) := by
  unfold oEq at h
  cases e : eqW w1 w2 with
  | none => rw [e] at h; exact h.elim
  | some b => rw [e] at h; exact ⟨b, rfl, h⟩
theorem oNe.el {w1 w2 : W} {ρ : En} {P : D → Prop} (h : oNe w1 w2 ρ P) : ∃ b, eqW w1 w2 = some b ∧ P (.bl (!b)) := by
  unfold oNe at h
  cases e : eqW w1 w2 with
  | none => rw [e] at h; exact h.elim
  | some b => rw [e] at h; exact ⟨b, rfl, h⟩
theorem mo_oEq : MonoO oEq := fun x y ρ P P' h q => by
  obtain ⟨b, e, p⟩ := q.el
  unfold oEq
  rw [e]
  exact h _ p
theorem mo_oNe : MonoO oNe := fun x y ρ P P' h q => by
  obtain ⟨b, e, p⟩ := q.el
  unfold oNe
  rw [e]
  exact h _ p
theorem eqS_ok {K : PySem.W.Frag} {H : Hp} {d e : D} {b : Bool} {x y : V} (h : eqS d e = some b) (r1 : Rep K H d x) (r2 : Rep K H e y) : scal x y = true ∧ decide (x = y) = b := by
  cases d <;> cases e <;> simp only [eqS, Option.some.injEq, reduceCtorEq] at h <;> first
    | (rename_i i j
       rw [show x = _ from r1, show y = _ from r2, ← h]
       exact ⟨rfl, by simp⟩)
theorem tells_eq {K : PySem.W.Frag} : Tells2 K rEq oEq := fun B M ρ σ H w1 w2 x y Q P S r1 r2 hh q => by
  obtain ⟨b, ee, p⟩ := hh.el
  obtain ⟨d, e, e1, e2, c⟩ := eqW_el ee
  subst e1 e2
  obtain ⟨h1, h2⟩ := eqS_ok c r1 r2
  exact ⟨h1, by rw [h2]; exact q _ _ H p (Same.refl _) rfl⟩
theorem tells_ne {K : PySem.W.Frag} : Tells2 K rNe oNe := fun B M ρ σ H w1 w2 x y Q P S r1 r2 hh q => by
  obtain ⟨b, ee, p⟩ := hh.el
  obtain ⟨d, e, e1, e2, c⟩ := eqW_el ee
  subst e1 e2
  obtain ⟨h1, h2⟩ := eqS_ok c r1 r2
  exact ⟨h1, by rw [h2]; exact q _ _ H p (Same.refl _) rfl⟩
theorem de_eq {ra rb : RE} (ha : DE X B M a ra) (hb : DE X B M b rb) : DE X B M (.Compare a [.Eq] [b] pos) (r2 ra rb oEq) := de_cmp op_eq tells_eq mo_oEq ha hb (nomark _)
theorem de_ne {ra rb : RE} (ha : DE X B M a ra) (hb : DE X B M b rb) : DE X B M (.Compare a [.NotEq] [b] pos) (r2 ra rb oNe) := de_cmp op_ne tells_ne mo_oNe ha hb (nomark _)

/-! ### tests -/
/-- a value that is True or False, as a test -/
def kB (Q : Bool → En → Prop) : W → En → Prop := fun w ρ1 => match w with
  | .d (.bl b) => Q b ρ1
  | _ => False
theorem kB.el {Q : Bool → En → Prop} {w : W} {ρ : En} (h : kB Q w ρ) : ∃ b, w = .d (.bl b) ∧ Q b ρ := by
  unfold kB at h
  split at h
  · exact ⟨_, rfl, h⟩
  · exact h.elim
def rTB (r : RE) : RT := fun ρ Q => r ρ (kB Q)
theorem mo_rTB {r : RE} (h : MonoE r) : MonoT (rTB r) := fun ρ P P' w p => h ρ _ _ (fun w1 ρ1 q => by obtain ⟨b, rfl, q⟩ := q.el; exact w _ _ q) p
theorem tb_imp {ra : RE} (ha : DE X B M a ra) {σ : L2.St} {H : Hp} {Q : Bool → Hp → Prop} {ρ : En} (S : Sta X.K B M ρ σ H) (q : rTB ra ρ (kT X.K B M ρ σ H Q)) : tTest (tD X.K B M ra) σ H Q := by
  refine into ha S q fun w1 ρ1 v H1 hh k1 o1 S1 r1 => ?_
  obtain ⟨k, e, p1⟩ := hh.el
  subst e
  exact ⟨k, r1, p1 H1 k1 o1 S1⟩
theorem dt_val {ra : RE} (ha : DE X B M a ra) (he : ∀ whole, isTrue a X.env whole = (do let v ← whole; standAt a.pos; holding [v] (truthy v)) := by intro _; rfl) : DT X B M a (rTB ra) :=
  DT.mk' (pt_val ha.pe he) (mo_rTB ha.mo) fun σ H Q ρ S q => tb_imp ha S q
theorem dt_cmp {op : CmpOp} {ra rb : RE} {o : O2} {r : R2} (hr : OpR X (compareOp op) r) (ht : Tells2 X.K r o) (ho : MonoO o) (ha : DE X B M a ra) (hb : DE X B M b rb) (hm : behindInMarks op b = false) : DT X B M (.Compare a [op] [b] pos) (rTB (r2 ra rb o)) := by
  refine DT.mk' (pt_cmpR hr ha.pe hb.pe hm) (mo_rTB (mo_r2 ha.mo hb.mo ho)) fun σ H Q ρ S q => ?_
  refine into ha S q fun w1 ρ1 v H1 p1 k1 o1 S1 r1 => ?_
  refine into hb S1 p1 fun w2 ρ2 v2 H2 p2 k2 o2 S2 r2 => ?_
  refine ht B M ρ2 σ H2 w1 w2 v v2 _ _ S2 (WOk.keep k2 o2 r1) r2 p2 fun d u H3 pd sm rr => ?_
  obtain ⟨k, e, pd⟩ := pd.el
  cases e
  exact ⟨k, rr, pd H3 ((k1.trans k2).trans (Keep.of sm)) (o1.trans o2) (S2.same sm)⟩
theorem dt_lt {ra rb : RE} (ha : DE X B M a ra) (hb : DE X B M b rb) : DT X B M (.Compare a [.Lt] [b] pos) (rTB (r2 ra rb (oI0 fun i j => .bl (decide (i < j))))) := dt_cmp op_lt (tells_I0 fun _ _ _ => rfl) mo_oI0 ha hb (nomark _)
theorem dt_le {ra rb : RE} (ha : DE X B M a ra) (hb : DE X B M b rb) : DT X B M (.Compare a [.LtE] [b] pos) (rTB (r2 ra rb (oI0 fun i j => .bl (decide (i ≤ j))))) := dt_cmp op_le (tells_I0 fun _ _ _ => rfl) mo_oI0 ha hb (nomark _)
theorem dt_gt {ra rb : RE} (ha : DE X B M a ra) (hb : DE X B M b rb) : DT X B M (.Compare a [.Gt] [b] pos) (rTB (r2 ra rb (oI0 fun i j => .bl (decide (j < i))))) := dt_cmp op_gt (tells_I0 fun _ _ _ => rfl) mo_oI0 ha hb (nomark _)
theorem dt_ge {ra rb : RE} (ha : DE X B M a ra) (hb : DE X B M b rb) : DT X B M (.Compare a [.GtE] [b] pos) (rTB (r2 ra rb (oI0 fun i j => .bl (decide (j ≤ i))))) := dt_cmp op_ge (tells_I0 fun _ _ _ => rfl) mo_oI0 ha hb (nomark _)
theorem dt_eq {ra rb : RE} (ha : DE X B M a ra) (hb : DE X B M b rb) : DT X B M (.Compare a [.Eq] [b] pos) (rTB (r2 ra rb oEq)) := dt_cmp op_eq tells_eq mo_oEq ha hb (nomark _)
theorem dt_ne {ra rb : RE} (ha : DE X B M a ra) (hb : DE X B M b rb) : DT X B M (.Compare a [.NotEq] [b] pos) (rTB (r2 ra rb oNe)) := dt_cmp op_ne tells_ne mo_oNe ha hb (nomark _)
def rNot (r : RT) : RT := fun ρ Q => r ρ fun b ρ1 => Q (!b) ρ1
theorem dt_not {ra : RT} (ha : DT X B M a ra) : DT X B M (.UnaryOp .Not a pos) (rNot ra) := by
  refine DT.mk' (pt_not ha.pt) (fun ρ P P' w p => ha.mo ρ _ _ (fun _ _ q => w _ _ q) p) fun σ H Q ρ S q => ?_
  exact intoT ha.mo S q fun w1 ρ1 H1 p k o S1 => p H1 k o S1
def rAnd (ra rb : RT) : RT := fun ρ Q => ra ρ fun b ρ1 => if b = true then rb ρ1 Q else Q false ρ1
def rOr (ra rb : RT) : RT := fun ρ Q => ra ρ fun b ρ1 => if b = true then Q true ρ1 else rb ρ1 Q
theorem mo_rAnd {ra rb : RT} (ha : MonoT ra) (hb : MonoT rb) : MonoT (rAnd ra rb) := fun ρ P P' w p => ha ρ _ _ (fun k ρ1 q => by
  cases k with
  | true => exact hb ρ1 _ _ w q
  | false => exact w _ _ q) p
theorem mo_rOr {ra rb : RT} (ha : MonoT ra) (hb : MonoT rb) : MonoT (rOr ra rb) := fun ρ P P' w p => ha ρ _ _ (fun k ρ1 q => by
  cases k with
  | true => exact w _ _ q
  | false => exact hb ρ1 _ _ w q) p
theorem dw_and1 {ra : RT} (ha : DT X B M a ra) : DW X B M (.BoolOp .And [a] pos) ra := ⟨pw_and1 ha.pt, ha.mo⟩
theorem dw_or1 {ra : RT} (ha : DT X B M a ra) : DW X B M (.BoolOp .Or [a] pos) ra := ⟨pw_or1 ha.pt, ha.mo⟩
theorem dw_and {rest : List Expr} {ra rb : RT} (ha : DT X B M a ra) (hb : DW X B M (.BoolOp .And (b :: rest) pos) rb) : DW X B M (.BoolOp .And (a :: b :: rest) pos) (rAnd ra rb) := by
  refine ⟨pw_imp (pw_and ha.pt hb.pw) fun σ H Q ⟨ρ, S, q⟩ => ?_, mo_rAnd ha.mo hb.mo⟩
  refine intoT ha.mo S q fun k ρ1 H1 p kk oo S1 => ?_
  cases k with
  | true => exact intoT hb.mo S1 p fun k2 ρ2 H2 p2 k3 o3 S2 => p2 H2 (kk.trans k3) (oo.trans o3) S2
  | false => exact p H1 kk oo S1
theorem dw_or {rest : List Expr} {ra rb : RT} (ha : DT X B M a ra) (hb : DW X B M (.BoolOp .Or (b :: rest) pos) rb) : DW X B M (.BoolOp .Or (a :: b :: rest) pos) (rOr ra rb) := by
  refine ⟨pw_imp (pw_or ha.pt hb.pw) fun σ H Q ⟨ρ, S, q⟩ => ?_, mo_rOr ha.mo hb.mo⟩
  refine intoT ha.mo S q fun k ρ1 H1 p kk oo S1 => ?_
  cases k with
  | true => exact p H1 kk oo S1
  | false => exact intoT hb.mo S1 p fun k2 ρ2 H2 p2 k3 o3 S2 => p2 H2 (kk.trans k3) (oo.trans o3) S2
theorem DW.dt {ra : RT} (h : DW X B M e ra) : DT X B M e ra := ⟨h.pw.pt, h.mo⟩
/-- and, or, not as values of True, False -/
def rAndV (ra rb : RE) : RE := fun ρ Q => ra ρ (kB fun k ρ1 => if k = true then rb ρ1 Q else Q (.d (.bl false)) ρ1)
def rOrV (ra rb : RE) : RE := fun ρ Q => ra ρ (kB fun k ρ1 => if k = true then Q (.d (.bl true)) ρ1 else rb ρ1 Q)
def rNotV (ra : RE) : RE := fun ρ Q => ra ρ (kB fun k ρ1 => Q (.d (.bl (!k))) ρ1)
theorem de_one {op} {r : RE} (h : DE X B M a r) : DE X B M (.BoolOp op [a] pos) r := ⟨pe_one h.pe, h.mo⟩
theorem kE_to {K : PySem.W.Frag} {ρ ρ1 : En} {σ : L2.St} {H H1 : Hp} {Q : VK} (k : Keep H H1) (o : OwnEq ρ ρ1) : ∀ w ρ', kE K B M ρ σ H Q w ρ' → kE K B M ρ1 σ H1 Q w ρ' := fun w ρ' h v H' k' o' S' r => h v H' (k.trans k') (o.trans o') S' r
theorem mo_rAndV {ra rb : RE} (ha : MonoE ra) (hb : MonoE rb) : MonoE (rAndV ra rb) := fun ρ P P' w p => ha ρ _ _ (fun w1 ρ1 q => by
  obtain ⟨k, rfl, q⟩ := q.el
  cases k with
  | true => exact hb ρ1 _ _ w q
  | false => exact w _ _ q) p
theorem mo_rOrV {ra rb : RE} (ha : MonoE ra) (hb : MonoE rb) : MonoE (rOrV ra rb) := fun ρ P P' w p => ha ρ _ _ (fun w1 ρ1 q => by
  obtain ⟨k, rfl, q⟩ := q.el
  cases k with
  | true => exact w _ _ q
  | false => exact hb ρ1 _ _ w q) p
theorem de_and {rest : List Expr} {ra rb : RE} (ha : DE X B M a ra) (hb : DE X B M (.BoolOp .And (b :: rest) pos) rb) : DE X B M (.BoolOp .And (a :: b :: rest) pos) (rAndV ra rb) := by
  refine DE.mk' (pe_and ha.pe hb.pe) (mo_rAndV ha.mo hb.mo) fun σ H Q ρ S q => ?_
  refine into ha S q fun w1 ρ1 v H1 hh kk oo S1 r1 => ?_
  obtain ⟨k, e, p⟩ := hh.el
  subst e
  refine ⟨k, r1, ?_⟩
  cases k with
  | true => exact ⟨ρ1, S1, hb.mo ρ1 _ _ (kE_to kk oo) p⟩
  | false => exact p _ H1 kk oo S1 rfl
theorem de_or {rest : List Expr} {ra rb : RE} (ha : DE X B M a ra) (hb : DE X B M (.BoolOp .Or (b :: rest) pos) rb) : DE X B M (.BoolOp .Or (a :: b :: rest) pos) (rOrV ra rb) := by
  refine DE.mk' (pe_or ha.pe hb.pe) (mo_rOrV ha.mo hb.mo) fun σ H Q ρ S q => ?_
  refine into ha S q fun w1 ρ1 v H1 hh kk oo S1 r1 => ?_
  obtain ⟨k, e, p⟩ := hh.el
  subst e
  refine ⟨k, r1, ?_⟩
  cases k with
  | true => exact p _ H1 kk oo S1 rfl
  | false => exact ⟨ρ1, S1, hb.mo ρ1 _ _ (kE_to kk oo) p⟩
theorem de_not {ra : RE} (ha : DE X B M a ra) : DE X B M (.UnaryOp .Not a pos) (rNotV ra) := by
  refine DE.mk' (pe_not ha.pe) (fun ρ P P' w p => ha.mo ρ _ _ (fun w1 ρ1 q => by obtain ⟨k, rfl, q⟩ := q.el; exact w _ _ q) p) fun σ H Q ρ S q => ?_
  refine into ha S q fun w1 ρ1 v H1 hh kk oo S1 r1 => ?_
  obtain ⟨k, e, p⟩ := hh.el
  subst e
  exact ⟨k, r1, p _ H1 kk oo S1 rfl⟩
def rIfE (rt : RT) (ra rb : RE) : RE := fun ρ Q => rt ρ fun k ρ1 => if k = true then ra ρ1 Q else rb ρ1 Q
theorem de_if {rt : RT} {ra rb : RE} (hc : DT X B M c rt) (ha : DE X B M a ra) (hb : DE X B M b rb) : DE X B M (.IfExp c a b pos) (rIfE rt ra rb) := by
  refine DE.mk' (pe_ifExp hc.pt ha.pe hb.pe) (fun ρ P P' w p => hc.mo ρ _ _ (fun k ρ1 q => ?_) p) fun σ H Q ρ S q => ?_
  · cases k with
    | true => exact ha.mo ρ1 _ _ w q
    | false => exact hb.mo ρ1 _ _ w q
  · refine intoT hc.mo S q fun k ρ1 H1 p kk oo S1 => ?_
    cases k with
    | true => exact ⟨ρ1, S1, ha.mo ρ1 _ _ (kE_to kk oo) p⟩
    | false => exact ⟨ρ1, S1, hb.mo ρ1 _ _ (kE_to kk oo) p⟩
end
end N
/-! N2 -/
set_option Elab.async false
set_option linter.all false
set_option maxRecDepth 100000
set_option maxHeartbeats 1000000
/-! N2: arguments, displays, new lists, sequences that are read. -/
namespace N
open PySem PySem.Spec PyProof.Rows L2
section
variable {X : Cx} {B : Hp} {M : List Addr} {e a b c : Expr} {es : List Expr} {pos : Pos}
/-! ### arguments -/
def rNil : RA := fun ρ Q => Q [] ρ
def rCons (ra : RE) (rr : RA) : RA := fun ρ Q => ra ρ fun w ρ1 => rr ρ1 fun ws ρ2 => Q (w :: ws) ρ2
theorem da_nil : DA X B M [] rNil := DA.mk' pa_nil (fun ρ P P' h p => h _ _ p) (fun ρ P p => ⟨rfl, p⟩) fun σ H Q ρ S q => q [] H (Keep.refl _) (OwnEq.refl _) S rfl
theorem da_cons {ra : RE} {rr : RA} (ha : DE X B M a ra) (hr : DA X B M es rr) (hs : starEach (a :: es) X.env = (false, eval a X.env) :: starEach es X.env := by rfl) : DA X B M (a :: es) (rCons ra rr) := by
  refine DA.mk' (pa_cons ha.pe hr.pa hs) (fun ρ P P' h p => ha.mo ρ _ _ (fun w1 ρ1 q => hr.mo ρ1 _ _ (fun ws ρ2 q2 => h _ _ q2) q) p)
    (fun ρ P p => ha.mo ρ _ _ (fun w1 ρ1 q => hr.mo ρ1 _ _ (fun ws ρ2 ⟨l, q2⟩ => ⟨congrArg Nat.succ l, q2⟩) (hr.len ρ1 _ q)) p) fun σ H Q ρ S q => ?_
  refine into ha S q fun w1 ρ1 v H1 p1 k1 o1 S1 r1 => ?_
  refine intoA hr S1 p1 fun ws ρ2 vs H2 p2 k2 o2 S2 r2 => ?_
  exact p2 (v :: vs) H2 (k1.trans k2) (o1.trans o2) S2 ⟨v, vs, rfl, WOk.keep k2 o2 r1, r2⟩
/-- results that are all data -/
def dats : List D → List W
  | [] => []
  | d :: ds => .d d :: dats ds
theorem dats_len : ∀ ds : List D, (dats ds).length = ds.length
  | [] => rfl
  | _ :: ds => congrArg Nat.succ (dats_len ds)
theorem dats_ok {K : PySem.W.Frag} {H : Hp} {ρ : En} : ∀ {ds : List D} {vs : List V}, WOks K H ρ (dats ds) vs → RepL K H ds vs
  | [], _, h => h
  | d :: ds, _, h => by
    obtain ⟨v, vr, e, r, rr⟩ := h
    exact ⟨v, vr, e, r, dats_ok rr⟩

/-- the data of results, where all are data -/
def unD : List W → Option (List D)
  | [] => some []
  | .d x :: ws => match unD ws with
    | some ds => some (x :: ds)
    | none => none
  | .o _ :: _ => none
theorem unD_el : ∀ {ws : List W} {ds : List D}, unD ws = some ds → ws = dats ds
  | [], ds, h => by cases h; rfl
  | .d x :: ws, ds, h => by
    have h2 : (match unD ws with
      | some ds => some (x :: ds)
      | none => none) = some ds := h
    cases e : unD ws with
    | none => rw [e] at h2; cases h2
    | some fs =>
      rw [e] at h2
      cases h2
      rw [unD_el e]
      rfl
  | .o _ :: _, ds, h => by cases h
def kDs (Q : List D → En → Prop) : List W → En → Prop := fun ws ρ => match unD ws with
  | some ds => Q ds ρ
  | none => False
theorem kDs.el {Q : List D → En → Prop} {ws : List W} {ρ : En} (h : kDs Q ws ρ) : ∃ ds, unD ws = some ds ∧ Q ds ρ := by
  unfold kDs at h
  cases e : unD ws with
  | none => rw [e] at h; exact h.elim
  | some b => rw [e] at h; exact ⟨b, rfl, h⟩
theorem kDs.mk {Q : List D → En → Prop} {ws : List W} {ρ : En} {ds : List D} (e : unD ws = some ds) (h : Q ds ρ) : kDs Q ws ρ := by
  unfold kDs
  rw [e]
  exact h
theorem kDs.imp {Q Q' : List D → En → Prop} {ws : List W} {ρ : En} (h : kDs Q ws ρ) (w : ∀ ds, Q ds ρ → Q' ds ρ) : kDs Q' ws ρ := by
  obtain ⟨ds, e, q⟩ := h.el
  exact kDs.mk e (w ds q)

/-! ### new lists -/
abbrev RN := En → (List D → En → Prop) → Prop
def MonoN (r : RN) : Prop := ∀ ρ (P P' : List D → En → Prop), (∀ w ρ', P w ρ' → P' w ρ') → r ρ P → r ρ P'
structure NewAt (K : PySem.W.Frag) (B : Hp) (ρ : En) (H : Hp) (p : Addr) (ds : List D) : Prop where
  at_ : ∃ vs, H p = some (.lst vs) ∧ RepL K H ds vs
  nB : B p = none
  nO : ∀ (j : Nat) q es, ρ[j]? = some (.own q es) → q ≠ p
def kN (K : PySem.W.Frag) (B : Hp) (M : List Addr) (ρ : En) (σ : L2.St) (H : Hp) (Q : VK) : List D → En → Prop := fun ds ρ' => ∀ p H', Keep H H' → OwnEq ρ ρ' → Sta K B M ρ' σ H' → NewAt K B ρ' H' p ds → Q (.ref p) H'
def tDN (K : PySem.W.Frag) (B : Hp) (M : List Addr) (r : RN) : TE := fun σ H Q => ∃ ρ, Sta K B M ρ σ H ∧ r ρ (kN K B M ρ σ H Q)
structure DN (X : Cx) (B : Hp) (M : List Addr) (e : Expr) (r : RN) : Prop where
  pe : PE X e (tDN X.K B M r)
  mo : MonoN r
theorem DN.mk' {t : TE} {r : RN} (h : PE X e t) (mo : MonoN r) (w : ∀ σ H Q ρ, Sta X.K B M ρ σ H → r ρ (kN X.K B M ρ σ H Q) → t σ H Q) : DN X B M e r := ⟨pe_imp h fun σ H Q ⟨ρ, S, q⟩ => w σ H Q ρ S q, mo⟩
/-- the list just laid -/
theorem NewAt.laid {K : PySem.W.Frag} {B H : Hp} {M : List Addr} {ρ : En} {σ : L2.St} {p : Addr} {ds : List D} {vs : List V} (S : Sta K B M ρ σ H) (hp : H p = none) (r : RepL K H ds vs) : Sta K B M ρ σ (upd H p (.lst vs)) ∧ NewAt K B ρ (upd H p (.lst vs)) p ds :=
  ⟨S.same (same_upd hp), ⟨vs, upd_same, RepL.keep (Keep.of (same_upd hp)) ds r⟩, S.fresh_B hp, S.fresh_own hp⟩
/-- an unlocked list that is no slot's gets locked -/
theorem Sta.freeze {K : PySem.W.Frag} {B H : Hp} {M : List Addr} {ρ : En} {σ : L2.St} {p : Addr} {vs : List V} {o : Obj} (S : Sta K B M ρ σ H) (hp : H p = some (.lst vs)) (nB : B p = none ∨ p ∈ M) (nO : ∀ (j : Nat) q es, ρ[j]? = some (.own q es) → q ≠ p) :
    Keep H (upd H p (.frz o (.lst vs))) ∧ Sta K B M ρ σ (upd H p (.frz o (.lst vs))) := by
  have kp : Keep H (upd H p (.frz o (.lst vs))) := fun b u h im => by
    have : b ≠ p := fun z => by
      rw [z, hp] at h
      cases h
      exact im
    rw [upd_ne this]
    exact h
  refine ⟨kp, fun b u h im => ?_, fun i s e => ?_, S.dis, S.new, fun q hq => ?_, S.tbi⟩
  · have hb : b ≠ p := fun z => by
      have h2 := S.frm b u h im
      rw [z, hp] at h2
      cases h2
      rcases nB with n | n
      · rw [z, n] at h
        cases h
      · rcases im with im | im
        · exact im
        · exact im (z ▸ n)
    rw [upd_ne hb]
    exact S.frm b u h im
  · refine SlotOk.keep kp (fun q fs es => ?_) (fun P q et => by
      subst et
      exact tab_upd hp (S.ok i _ e)) (S.ok i s e)
    subst es
    obtain ⟨_, us, hq, r⟩ := S.ok i _ e
    exact ⟨us, by rw [upd_ne (nO i q fs e)]; exact hq, RepL.keep kp fs r⟩
  · by_cases hqp : q = p
    · rw [hqp]
      exact ⟨_, upd_same⟩
    · rw [upd_ne hqp]
      exact S.mh q hq
/-- a new list as data -/
def rNew (r : RN) : RE := fun ρ Q => r ρ fun ds ρ' => Q (.d (.lst ds)) ρ'
theorem de_new {r : RN} (h : DN X B M e r) : DE X B M e (rNew r) := by
  refine DE.mk' (pe_frz h.pe) (fun ρ P P' w p => h.mo ρ _ _ (fun ds ρ' q => w _ _ q) p) fun σ H Q ρ S q => ?_
  refine ⟨ρ, S, h.mo ρ _ _ (fun ds ρ' q2 => ?_) q⟩
  intro p H' k o S' n
  obtain ⟨vs, hp, r'⟩ := n.at_
  refine ⟨p, vs, rfl, hp, fun ob hc => ?_⟩
  obtain ⟨k2, S2⟩ := Sta.freeze (o := ob) S' hp (.inl n.nB) n.nO
  exact q2 _ _ (k.trans k2) o S2 ⟨p, vs, rfl, ⟨ob, upd_same⟩, RepL.keep k2 ds r'⟩
/-- [a, b, ..] -/
def rLst (ra : RA) : RN := fun ρ Q => ra ρ (kDs Q)
theorem dn_lst {ra : RA} (ha : DA X B M es ra) (hn : es.length ≤ 16777216 := by decide) : DN X B M (.List es pos) (rLst ra) := by
  refine DN.mk' (pe_lst ha.pa) (fun ρ P P' w p => ha.mo ρ _ _ (fun ws ρ1 q => q.imp fun ds q => w _ _ q) p) fun σ H Q ρ S q => ?_
  refine intoA ha S (ha.len ρ _ q) fun ws ρ1 vs H1 ⟨hl, hh⟩ k1 o1 S1 r1 => ?_
  obtain ⟨ds, eu, q1⟩ := hh.el
  have e1 := unD_el eu
  subst e1
  have e2 : ds.length ≤ sizeLine := by rw [sizeLine_eq, ← dats_len ds, hl]; exact hn
  have rr := dats_ok r1
  refine ⟨by rw [RepL.length rr]; exact e2, fun p hp => ?_⟩
  obtain ⟨S2, n2⟩ := NewAt.laid S1 hp rr
  exact q1 p _ (k1.trans (Keep.of (same_upd hp))) o1 S2 n2
/-- (a, b, ..) -/
def rTup (ra : RA) : RE := fun ρ Q => ra ρ (kDs fun ds ρ1 => Q (.d (.tup ds)) ρ1)
theorem de_tup {ra : RA} {x1} (ha : DA X B M es ra) (hn : es.length ≤ 16777216 := by decide) : DE X B M (.Tuple es x1 pos) (rTup ra) := by
  refine DE.mk' (pe_tupN ha.pa) (fun ρ P P' w p => ha.mo ρ _ _ (fun ws ρ1 q => q.imp fun ds q => w _ _ q) p) fun σ H Q ρ S q => ?_
  refine intoA ha S (ha.len ρ _ q) fun ws ρ1 vs H1 ⟨hl, hh⟩ k1 o1 S1 r1 => ?_
  obtain ⟨ds, eu, q1⟩ := hh.el
  have e1 := unD_el eu
  subst e1
  have e2 : ds.length ≤ sizeLine := by rw [sizeLine_eq, ← dats_len ds, hl]; exact hn
  have rr := dats_ok r1
  refine ⟨by rw [RepL.length rr]; exact e2, fun ob p hd hp => ?_⟩
  exact q1 _ _ (k1.trans (Keep.of (same_upd hp))) o1 (S1.same (same_upd hp)) ⟨p, vs, rfl, .inl ⟨ob, hd, upd_same⟩, RepL.keep (Keep.of (same_upd hp)) ds rr⟩

/-! ### sequences that are read -/
/-- the items of a list (false) or a tuple (true) -/
def sq (ρ : En) : W → Option (Bool × List D)
  | .d (.tup ds) => some (true, ds)
  | .d (.lst ds) => some (false, ds)
  | .o i => match ρ[i]? with
    | some (.own _ ds) => some (false, ds)
    | _ => none
  | _ => none
def SqV (K : PySem.W.Frag) (H : Hp) (t : Bool) (a : Addr) (vs : List V) : Prop := match t with
  | true => TpN K H a vs
  | false => Rd H a (.lst vs)
theorem SqV.sq {K : PySem.W.Frag} {H : Hp} {t : Bool} {a : Addr} {vs : List V} (h : SqV K H t a vs) : SqL K H a vs ∨ SqT K H a vs := by
  cases t with
  | true => exact .inr (TpN.sq h)
  | false => exact .inl (.inl h)
theorem sq_read {K : PySem.W.Frag} {ρ : En} {σ : L2.St} {H : Hp} {w : W} {v : V} {t : Bool} {ds : List D} (S : Sta K B M ρ σ H) (r : WOk K H ρ w v) (h : N.sq ρ w = some (t, ds)) : ∃ a vs, v = .ref a ∧ SqV K H t a vs ∧ RepL K H ds vs := by
  cases w with
  | o i =>
    obtain ⟨p, fs, e, ev⟩ := r
    obtain ⟨vs, hp, rr⟩ := S.own_at e
    have h2 : (match ρ[i]? with
      | some (.own _ ds) => some (false, ds)
      | _ => none) = some (t, ds) := h
    rw [e] at h2
    cases h2
    exact ⟨p, vs, ev, .inl hp, rr⟩
  | d x =>
    cases x with
    | tup es =>
      cases h
      obtain ⟨a, vs, e, s, rr⟩ := r
      exact ⟨a, vs, e, s, rr⟩
    | lst es =>
      cases h
      obtain ⟨a, vs, e, s, rr⟩ := r
      exact ⟨a, vs, e, .inr s, rr⟩
    | _ => cases h
def sq1 (ρ : En) : List W → Option (Bool × List D)
  | [w] => sq ρ w
  | _ => none
theorem sq1_el {ρ : En} {ws : List W} {t : Bool} {ds : List D} (h : sq1 ρ ws = some (t, ds)) : ∃ w, ws = [w] ∧ sq ρ w = some (t, ds) := by
  unfold sq1 at h
  split at h
  · exact ⟨_, rfl, h⟩
  · cases h
def kSq (s : Option (Bool × List D)) (P : List D → Prop) : Prop := match s with
  | some (_, ds) => P ds
  | none => False
theorem kSq.el {s : Option (Bool × List D)} {P : List D → Prop} (h : kSq s P) : ∃ t ds, s = some (t, ds) ∧ P ds := by
  unfold kSq at h
  split at h
  · exact ⟨_, _, rfl, h⟩
  · exact h.elim
theorem kSq.imp {s : Option (Bool × List D)} {P P' : List D → Prop} (h : kSq s P) (w : ∀ ds, P ds → P' ds) : kSq s P' := by
  obtain ⟨t, ds, rfl, p⟩ := h.el
  exact w ds p
/-- a call of a built-in over data -/
abbrev OA := List W → En → (D → Prop) → Prop
def rA (ra : RA) (o : OA) : RE := fun ρ Q => ra ρ fun ws ρ1 => o ws ρ1 fun d => Q (.d d) ρ1
def MonoOA (o : OA) : Prop := ∀ ws ρ (P P' : D → Prop), (∀ d, P d → P' d) → o ws ρ P → o ws ρ P'
def TellsA (K : PySem.W.Frag) (r : List V → Hp → VK → Prop) (o : OA) : Prop := ∀ (B : Hp) (M : List Addr) (ρ : En) (σ : L2.St) (H : Hp) (ws : List W) (xs : List V) (Q : VK) (P : D → Prop), Sta K B M ρ σ H → WOks K H ρ ws xs → o ws ρ P →
  (∀ d v H', P d → Same H H' → Rep K H' d v → Q v H') → r xs H Q
theorem rA_imp {ra : RA} {o : OA} {r : List V → Hp → VK → Prop} (ha : DA X B M es ra) (ht : TellsA X.K r o) {σ : L2.St} {H : Hp} {Q : VK} {ρ : En} (S : Sta X.K B M ρ σ H) (q : rA ra o ρ (kE X.K B M ρ σ H Q)) : tCB r (tDA X.K B M ra) σ H Q := by
  refine intoA ha S q fun ws ρ1 vs H1 p1 k1 o1 S1 r1 => ?_
  exact ht B M ρ1 σ H1 ws vs Q _ S1 r1 p1 fun d v H' pd sm rr => pd v H' (k1.trans (Keep.of sm)) o1 (S1.same sm) rr
theorem de_callB {x : Str} {id : String} {p : Pos} {ra : RA} {o : OA} {r : List V → Hp → VK → Prop} (hc : CallR X (.builtin id) r) (ht : TellsA X.K r o) (ho : MonoOA o) (hg : Gl X x) (hm : X.mg x = none) (hv : bootBuiltins x = some (.builtin id)) (ha : DA X B M (a :: es) ra) (hn : x ≠ "__name__" := by decide) (hdb : (x == ("__debug__" : Str)) = false := by decide)
    (he : starEach (a :: es) X.env = (false, eval a X.env) :: starEach es X.env := by rfl) (hpl : (backTo pos (starEach es X.env)).any (·.1) = false := by rfl) : DE X B M (.Call (.Name x p) (a :: es) [] pos) (rA ra o) :=
  DE.mk' (pe_callB hc hg hm hv ha.pa hn hdb he hpl) (fun ρ P P' w q => ha.mo ρ _ _ (fun ws ρ1 q1 => ho _ _ _ _ (fun d pd => w _ _ pd) q1) q) fun σ H Q ρ S q => rA_imp ha ht S q
theorem de_callTy {x : Str} {id : String} {p : Pos} {ra : RA} {o : OA} {r : List V → Hp → VK → Prop} (hc : CallR X (.type id) r) (ht : TellsA X.K r o) (ho : MonoOA o) (hg : Gl X x) (hm : X.mg x = none) (hv : bootBuiltins x = some (.type id)) (ha : DA X B M (a :: es) ra) (hn : x ≠ "__name__" := by decide) (hdb : (x == ("__debug__" : Str)) = false := by decide)
    (he : starEach (a :: es) X.env = (false, eval a X.env) :: starEach es X.env := by rfl) (hpl : (backTo pos (starEach es X.env)).any (·.1) = false := by rfl) : DE X B M (.Call (.Name x p) (a :: es) [] pos) (rA ra o) :=
  DE.mk' (pe_callTy hc hg hm hv ha.pa hn hdb he hpl) (fun ρ P P' w q => ha.mo ρ _ _ (fun ws ρ1 q1 => ho _ _ _ _ (fun d pd => w _ _ pd) q1) q) fun σ H Q ρ S q => rA_imp ha ht S q
/-- len of a list, a tuple -/
def oLen : OA := fun ws ρ P => kSq (sq1 ρ ws) fun ds => P (.int (ds.length : Nat))
theorem mo_oLen : MonoOA oLen := fun ws ρ P P' h q => q.imp fun ds p => h _ p
theorem tells_len {K : PySem.W.Frag} : TellsA K (fun xs H Q => ∃ p ys, xs = [.ref p] ∧ (SqL K H p ys ∨ SqT K H p ys) ∧ Q (.int ys.length) H) oLen := fun B M ρ σ H ws xs Q P S r hh q => by
  obtain ⟨t, ds, ee, p⟩ := hh.el
  obtain ⟨w, e1, e2⟩ := sq1_el ee
  subst e1
  obtain ⟨v, vr, rfl, r1, r2⟩ := r
  obtain rfl : vr = [] := r2
  obtain ⟨a, vs, rfl, s, rr⟩ := sq_read S r1 e2
  exact ⟨a, vs, rfl, s.sq, q _ _ H p (Same.refl _) (by rw [RepL.length rr]; rfl)⟩
theorem de_len {p : Pos} {ra : RA} (hm : X.mg "len" = none) (ha : DA X B M (a :: es) ra) (hg : Gl X "len" := by rfl)
    (he : starEach (a :: es) X.env = (false, eval a X.env) :: starEach es X.env := by rfl) (hpl : (backTo pos (starEach es X.env)).any (·.1) = false := by rfl) : DE X B M (.Call (.Name "len" p) (a :: es) [] pos) (rA ra oLen) :=
  de_callB call_len_seq tells_len mo_oLen hg hm boot_len ha (by decide) (by decide) he hpl
/-- int(n) of an int -/
def oInt : OA := fun ws ρ P => match ws with
  | [.d (.int i)] => P (.int i)
  | _ => False
theorem oInt.el {ws : List W} {ρ : En} {P : D → Prop} (h : oInt ws ρ P) : ∃ i, ws = [.d (.int i)] ∧ P (.int i) := by
  unfold oInt at h
  split at h
  · exact ⟨_, rfl, h⟩
  · exact h.elim
theorem mo_oInt : MonoOA oInt := fun ws ρ P P' h q => by
  obtain ⟨i, rfl, p⟩ := q.el
  exact h _ p
theorem de_int1 {p : Pos} {ra : RA} (hm : X.mg "int" = none) (ha : DA X B M (a :: es) ra) (hg : Gl X "int" := by rfl)
    (he : starEach (a :: es) X.env = (false, eval a X.env) :: starEach es X.env := by rfl) (hpl : (backTo pos (starEach es X.env)).any (·.1) = false := by rfl) : DE X B M (.Call (.Name "int" p) (a :: es) [] pos) (rA ra oInt) :=
  de_callTy call_int1 (fun B M ρ σ H ws xs Q P S r hh q => by
    obtain ⟨i, e, pp⟩ := hh.el
    subst e
    obtain ⟨v, vr, rfl, r1, r2⟩ := r
    obtain rfl : vr = [] := r2
    obtain rfl : v = V.int i := r1
    exact .inl ⟨i, rfl, q _ _ H pp (Same.refl _) rfl⟩) mo_oInt hg hm boot_int ha (by decide) (by decide) he hpl
/-- min, max of two ints -/
def oII (g : Int → Int → Int) : OA := fun ws ρ P => match ws with
  | [.d (.int i), .d (.int j)] => P (.int (g i j))
  | _ => False
theorem oII.el {g : Int → Int → Int} {ws : List W} {ρ : En} {P : D → Prop} (h : oII g ws ρ P) : ∃ i j, ws = [.d (.int i), .d (.int j)] ∧ P (.int (g i j)) := by
  unfold oII at h
  split at h
  · exact ⟨_, _, rfl, h⟩
  · exact h.elim
theorem mo_oII {g : Int → Int → Int} : MonoOA (oII g) := fun ws ρ P P' h q => by
  obtain ⟨i, j, rfl, p⟩ := q.el
  exact h _ p
theorem tells_II {K : PySem.W.Frag} {g g' : Int → Int → Int} (hg : ∀ i j, g i j = g' i j) : TellsA K (fun xs H Q => ∃ i j, xs = [.int i, .int j] ∧ Q (.int (g' i j)) H) (oII g) := fun B M ρ σ H ws xs Q P S r hh q => by
  obtain ⟨i, j, e, pp⟩ := hh.el
  subst e
  obtain ⟨v, vr, rfl, r1, v2, vr2, rfl, r2, r3⟩ := r
  obtain rfl : vr2 = [] := r3
  obtain rfl : v = V.int i := r1
  obtain rfl : v2 = V.int j := r2
  exact ⟨i, j, rfl, q _ _ H pp (Same.refl _) (by rw [hg]; rfl)⟩
theorem de_min {p : Pos} {ra : RA} (hc : X.calm = true) (hm : X.mg "min" = none) (ha : DA X B M (a :: es) ra) (hg : Gl X "min" := by rfl)
    (he : starEach (a :: es) X.env = (false, eval a X.env) :: starEach es X.env := by rfl) (hpl : (backTo pos (starEach es X.env)).any (·.1) = false := by rfl) : DE X B M (.Call (.Name "min" p) (a :: es) [] pos) (rA ra (oII min)) :=
  de_callB (call_min2 hc) (tells_II fun i j => by by_cases h : j < i <;> simp only [h, if_true, if_false] <;> omega) mo_oII hg hm (by decide +kernel) ha (by decide) (by decide) he hpl
theorem de_max {p : Pos} {ra : RA} (hc : X.calm = true) (hm : X.mg "max" = none) (ha : DA X B M (a :: es) ra) (hg : Gl X "max" := by rfl)
    (he : starEach (a :: es) X.env = (false, eval a X.env) :: starEach es X.env := by rfl) (hpl : (backTo pos (starEach es X.env)).any (·.1) = false := by rfl) : DE X B M (.Call (.Name "max" p) (a :: es) [] pos) (rA ra (oII max)) :=
  de_callB (call_max2 hc) (tells_II fun i j => by by_cases h : j > i <;> simp only [h, if_true, if_false] <;> omega) mo_oII hg hm (by decide +kernel) ha (by decide) (by decide) he hpl
/-- tuple(xs) -/
def oTup : OA := fun ws ρ P => kSq (sq1 ρ ws) fun ds => P (.tup ds)
theorem mo_oTup : MonoOA oTup := fun ws ρ P P' h q => q.imp fun ds p => h _ p
theorem de_tuple {p : Pos} {ra : RA} (hm : X.mg "tuple" = none) (ha : DA X B M (a :: es) ra) (hg : Gl X "tuple" := by rfl)
    (he : starEach (a :: es) X.env = (false, eval a X.env) :: starEach es X.env := by rfl) (hpl : (backTo pos (starEach es X.env)).any (·.1) = false := by rfl) : DE X B M (.Call (.Name "tuple" p) (a :: es) [] pos) (rA ra oTup) :=
  de_callTy call_tupleN (fun B M ρ σ H ws xs Q P S r hh q => by
    obtain ⟨t, ds, ee, pp⟩ := hh.el
    obtain ⟨w, e, e2⟩ := sq1_el ee
    subst e
    obtain ⟨v, vr, rfl, r1, r2⟩ := r
    obtain rfl : vr = [] := r2
    obtain ⟨a, vs, rfl, s, rr⟩ := sq_read S r1 e2
    refine ⟨a, vs, rfl, ?_⟩
    cases t with
    | true => exact .inr ⟨TpN.sq s, q _ _ H pp (Same.refl _) ⟨a, vs, rfl, s, rr⟩⟩
    | false => exact .inl ⟨.inl s, fun ob l hd hl => q _ _ _ pp (same_upd hl) ⟨l, vs, rfl, .inl ⟨ob, hd, upd_same⟩, RepL.keep (Keep.of (same_upd hl)) ds rr⟩⟩) mo_oTup hg hm (by decide +kernel) ha (by decide) (by decide) he hpl
/-- a new list by a call -/
def rAN (ra : RA) (o : List W → En → (List D → Prop) → Prop) : RN := fun ρ Q => ra ρ fun ws ρ1 => o ws ρ1 fun ds => Q ds ρ1
def oList : List W → En → (List D → Prop) → Prop := fun ws ρ P => kSq (sq1 ρ ws) P
theorem dn_list {p : Pos} {ra : RA} (hm : X.mg "list" = none) (ha : DA X B M (a :: es) ra) (hg : Gl X "list" := by rfl)
    (he : starEach (a :: es) X.env = (false, eval a X.env) :: starEach es X.env := by rfl) (hpl : (backTo pos (starEach es X.env)).any (·.1) = false := by rfl) : DN X B M (.Call (.Name "list" p) (a :: es) [] pos) (rAN ra oList) := by
  refine DN.mk' (pe_callTy call_list_of hg hm (by decide +kernel) ha.pa (by decide) (by decide) he hpl) (fun ρ P P' w q => ha.mo ρ _ _ (fun ws ρ1 q => kSq.imp q fun ds p => w _ _ p) q) fun σ H Q ρ S q => ?_
  refine intoA ha S q fun ws ρ1 vs H1 hh k1 o1 S1 r1 => ?_
  obtain ⟨t, ds, ee, p1⟩ := kSq.el hh
  obtain ⟨w1, e1, e2⟩ := sq1_el ee
  subst e1
  obtain ⟨v, vr, rfl, r1, r2⟩ := r1
  obtain rfl : vr = [] := r2
  obtain ⟨a, vs, rfl, s, rr⟩ := sq_read S1 r1 e2
  refine ⟨a, vs, rfl, s.sq, fun l hl => ?_⟩
  obtain ⟨S2, n2⟩ := NewAt.laid S1 hl rr
  exact p1 l _ (k1.trans (Keep.of (same_upd hl))) o1 S2 n2
/-! ### an item -/
theorem atI_rep {K : PySem.W.Frag} {H : Hp} {ds : List D} {vs : List V} {i : Int} {d : D} (r : RepL K H ds vs) (h : atI ds i = some d) : ∃ v, atI vs i = some v ∧ Rep K H d v := by
  unfold atI at h ⊢
  rw [RepL.length r]
  cases e : ixN ds.length i with
  | none => rw [e] at h; cases h
  | some j =>
    rw [e] at h
    exact RepL.get r h
def oIx : O2 := fun w1 w2 ρ P => match sq ρ w1, w2 with
  | some (_, ds), .d (.int i) => ∃ d, atI ds i = some d ∧ P d
  | _, _ => False
theorem oIx.el {w1 w2 : W} {ρ : En} {P : D → Prop} (h : oIx w1 w2 ρ P) : ∃ t ds i d, sq ρ w1 = some (t, ds) ∧ w2 = .d (.int i) ∧ atI ds i = some d ∧ P d := by
  unfold oIx at h
  split at h
  · rename_i e
    obtain ⟨d, e3, p⟩ := h
    exact ⟨_, _, _, d, e, rfl, e3, p⟩
  · exact h.elim
theorem mo_oIx : MonoO oIx := fun x y ρ P P' h q => by
  obtain ⟨t, ds, i, d, e1, rfl, e3, p⟩ := q.el
  unfold oIx
  rw [e1]
  exact ⟨d, e3, h _ p⟩
theorem tells_ix {K : PySem.W.Frag} : Tells2 K (rIx K) oIx := fun B M ρ σ H w1 w2 x y Q P S r1 r2 hh q => by
  obtain ⟨t, ds, i, d, e1, e2, e3, p⟩ := hh.el
  subst e2
  obtain ⟨a, vs, rfl, s, rr⟩ := sq_read S r1 e1
  obtain ⟨v, hv, rv⟩ := atI_rep rr e3
  have z := q d v H p (Same.refl _) rv
  cases t with
  | true => exact .inr (.inl ⟨a, vs, i, v, rfl, r2, TpN.sq s, hv, z⟩)
  | false => exact .inl ⟨a, vs, i, v, rfl, r2, .inl s, hv, z⟩
theorem de_ix {ra rb : RE} (ha : DE X B M a ra) (hb : DE X B M b rb) (hs : PlainIx b := by intro _ _; rfl) : DE X B M (.Subscript a b pos) (r2 ra rb oIx) :=
  DE.mk' (pe_ix ix_seq ha.pe hb.pe hs) (mo_r2 ha.mo hb.mo mo_oIx) fun σ H Q ρ S q => r2_imp ha hb mo_oIx tells_ix S q
/-! ### xs + ys, xs * k, t + u, slices -/
theorem op_catR : OpR X (binaryOp .Add) (fun x y H Q => ∃ l b xs zs, x = .ref l ∧ y = .ref b ∧ Rd H l (.lst xs) ∧ Rd H b (.lst zs) ∧ xs.length + zs.length ≤ sizeLine ∧ ∀ p, H p = none → Q (.ref p) (upd H p (.lst (xs ++ zs)))) := by
  intro pins s σ H x y v u Q I rx ry h
  obtain ⟨l, b, xs, zs, rfl, rfl, hH, hB, hz, q⟩ := h
  cases rx
  cases ry
  obtain ⟨z, its, n, r, e⟩ := hH.ok I.hok
  obtain ⟨z2, its2, n2, r2, e2⟩ := hB.ok I.hok
  have hl := r.length
  have hl2 := r2.length
  refine PySem.P.add_list e e2 ?_ (by rw [List.size_toArray, List.size_toArray]; omega)
  have ea : its.toArray ++ its2.toArray = (its ++ its2).toArray := by simp
  rw [ea]
  exact ⟨.ref _, _, I.lnew (t' := s.toks) (r.append r2) (by rw [List.length_append]; omega), rfl, q _ I.fresh⟩
theorem op_repR : OpR X (binaryOp .Mult) (fun x y H Q => ∃ l k xs, x = .ref l ∧ y = .int k ∧ Rd H l (.lst xs) ∧ -(2 ^ 63) ≤ k ∧ k < 2 ^ 63 ∧ xs.length * k.toNat ≤ sizeLine ∧ ∀ p, H p = none → Q (.ref p) (upd H p (.lst (List.replicate k.toNat xs).flatten))) := by
  intro pins s σ H x y v u Q I rx ry h
  obtain ⟨l, k, xs, rfl, rfl, hH, h1, h2, hz, q⟩ := h
  cases rx
  obtain ⟨t, rfl⟩ := ry
  obtain ⟨z, its, n, r, e⟩ := hH.ok I.hok
  have hl := r.length
  have hlen : its.toArray.size * k.toNat ≤ sizeLine := by rw [List.size_toArray, ← hl]; exact hz
  have hcap : ¬ its.toArray.size * k.toNat > (2 ^ 63 - 1) / 8 := by
    have : (sizeLine : Nat) ≤ (2 ^ 63 - 1) / 8 := by decide
    omega
  have hfit : ¬ (!Builtin.List.listFitsIndex k) = true := by
    rw [fitsIndex_both h1 h2]
    exact Bool.false_ne_true
  have hlong : ¬ Builtin.List.listTooLong (its.toArray.size * k.toNat) = true := by
    rw [notLongL hlen]
    exact Bool.false_ne_true
  have hnew : List.foldl (fun x1 x2 => x1 ++ x2) #[] (List.replicate (if its.toArray.isEmpty = true then 0 else k.toNat) its.toArray) = (List.replicate k.toNat its).flatten.toArray := by
    have f0 : ∀ m : Nat, List.foldl (fun x1 x2 => x1 ++ x2) #[] (List.replicate m its.toArray) = (List.replicate m its).flatten.toArray := fun m => by
      have := foldl_rep its m []
      rw [List.nil_append] at this
      exact this
    rw [f0]
    cases its with
    | nil => simp
    | cons a r' => rw [if_neg (by simp)]
  refine wpAny_binaryOp_repeat_ref (T := "list") (U := "int") (by decide) ⟨_, e, rfl⟩ (fun s' => typeIs_int s' k t) noFill_list_mul F.fills_int_mul F.slot_int_rmul repeat_list F.slot_int_index.lookup
    (call_meets F.slot_int_rmul (typeIs_int s k t) F.entry_int_rmul (F.args_int_rmul_2 _ _) (int___rmul___int_list k t l its.toArray n)
      ⟨e, rfl, ⟨_, e, rfl⟩, call_meets F.slot_list_mul ⟨_, e, rfl⟩ F.entry_list_mul (F.args_list_mul_2 _ _) (AutoListH.list___mul___list_int_3 l its.toArray n k t hfit hcap hlong) ⟨e, ?_⟩⟩)
  rw [hnew]
  exact ⟨.ref _, _, I.lnew (t' := s.toks) (r.rep k.toNat) (by rw [PyProof.Rows.lm_len_rep_flat, Nat.mul_comm]; exact hz), rfl, q _ I.fresh⟩
/-- two operands, a new list -/
def r2N (ra rb : RE) (o : W → W → En → (List D → Prop) → Prop) : RN := fun ρ Q => ra ρ fun w1 ρ1 => rb ρ1 fun w2 ρ2 => o w1 w2 ρ2 fun ds => Q ds ρ2
def oCat : W → W → En → (List D → Prop) → Prop := fun w1 w2 ρ P => match sq ρ w1, sq ρ w2 with
  | some (false, ds), some (false, es) => ds.length + es.length ≤ 16777216 ∧ P (ds ++ es)
  | _, _ => False
theorem oCat.el {w1 w2 : W} {ρ : En} {P : List D → Prop} (h : oCat w1 w2 ρ P) : ∃ ds es, sq ρ w1 = some (false, ds) ∧ sq ρ w2 = some (false, es) ∧ ds.length + es.length ≤ 16777216 ∧ P (ds ++ es) := by
  unfold oCat at h
  split at h
  · rename_i e1 e2
    exact ⟨_, _, e1, e2, h.1, h.2⟩
  · exact h.elim
theorem oCat.mk {w1 w2 : W} {ρ : En} {P : List D → Prop} {ds es : List D} (e1 : sq ρ w1 = some (false, ds)) (e2 : sq ρ w2 = some (false, es)) (h1 : ds.length + es.length ≤ 16777216) (h : P (ds ++ es)) : oCat w1 w2 ρ P := by
  unfold oCat
  rw [e1, e2]
  exact ⟨h1, h⟩
theorem dn_cat {ra rb : RE} (ha : DE X B M a ra) (hb : DE X B M b rb) : DN X B M (.BinOp a .Add b pos) (r2N ra rb oCat) := by
  refine DN.mk' (pe_op op_catR ha.pe hb.pe) (fun ρ P P' w p => ha.mo ρ _ _ (fun w1 ρ1 p1 => hb.mo ρ1 _ _ (fun w2 ρ2 q2 => by obtain ⟨ds, es, e1, e2, e3, p2⟩ := q2.el; exact oCat.mk e1 e2 e3 (w _ _ p2)) p1) p) fun σ H Q ρ S q => ?_
  refine into ha S q fun w1 ρ1 v H1 p1 k1 o1 S1 r1 => ?_
  refine into hb S1 p1 fun w2 ρ2 v2 H2 hh k2 o2 S2 r2 => ?_
  obtain ⟨ds, es, e1, e2, e3, p2⟩ := hh.el
  obtain ⟨a1, vs, rfl, s1, rr1⟩ := sq_read S2 (WOk.keep k2 o2 r1) e1
  obtain ⟨a2, us, rfl, s2, rr2⟩ := sq_read S2 r2 e2
  refine ⟨a1, a2, vs, us, rfl, rfl, s1, s2, ?_, fun p hp => ?_⟩
  · rw [RepL.length rr1, RepL.length rr2, sizeLine_eq]
    exact e3
  · obtain ⟨S3, n3⟩ := NewAt.laid S2 hp (RepL.append rr1 rr2)
    exact p2 p _ ((k1.trans k2).trans (Keep.of (same_upd hp))) (o1.trans o2) S3 n3
theorem RepL.flat {K : PySem.W.Frag} {H : Hp} {ds : List D} {vs : List V} (r : RepL K H ds vs) : ∀ n : Nat, RepL K H (List.replicate n ds).flatten (List.replicate n vs).flatten
  | 0 => rfl
  | n + 1 => by
    rw [List.replicate_succ, List.replicate_succ, List.flatten_cons, List.flatten_cons]
    exact RepL.append r (RepL.flat r n)
def oRep : W → W → En → (List D → Prop) → Prop := fun w1 w2 ρ P => match sq ρ w1, w2 with
  | some (false, ds), .d (.int k) => -(2 ^ 63) ≤ k ∧ k < 2 ^ 63 ∧ ds.length * k.toNat ≤ 16777216 ∧ P (List.replicate k.toNat ds).flatten
  | _, _ => False
theorem oRep.el {w1 w2 : W} {ρ : En} {P : List D → Prop} (h : oRep w1 w2 ρ P) : ∃ ds k, sq ρ w1 = some (false, ds) ∧ w2 = .d (.int k) ∧ -(2 ^ 63) ≤ k ∧ k < 2 ^ 63 ∧ ds.length * k.toNat ≤ 16777216 ∧ P (List.replicate k.toNat ds).flatten := by
  unfold oRep at h
  split at h
  · rename_i e1
    exact ⟨_, _, e1, rfl, h⟩
  · exact h.elim
theorem oRep.mk {w1 : W} {ρ : En} {P : List D → Prop} {ds : List D} {k : Int} (e1 : sq ρ w1 = some (false, ds)) (h : -(2 ^ 63) ≤ k ∧ k < 2 ^ 63 ∧ ds.length * k.toNat ≤ 16777216 ∧ P (List.replicate k.toNat ds).flatten) : oRep w1 (.d (.int k)) ρ P := by
  unfold oRep
  rw [e1]
  exact h
theorem dn_rep {ra rb : RE} (ha : DE X B M a ra) (hb : DE X B M b rb) : DN X B M (.BinOp a .Mult b pos) (r2N ra rb oRep) := by
  refine DN.mk' (pe_op op_repR ha.pe hb.pe) (fun ρ P P' w p => ha.mo ρ _ _ (fun w1 ρ1 p1 => hb.mo ρ1 _ _ (fun w2 ρ2 q2 => by obtain ⟨ds, k, e1, rfl, e3, e4, e5, p2⟩ := q2.el; exact oRep.mk e1 ⟨e3, e4, e5, w _ _ p2⟩) p1) p) fun σ H Q ρ S q => ?_
  refine into ha S q fun w1 ρ1 v H1 p1 k1 o1 S1 r1 => ?_
  refine into hb S1 p1 fun w2 ρ2 v2 H2 hh k2 o2 S2 r2 => ?_
  obtain ⟨ds, k, e1, e2, e3, e4, e5, p2⟩ := hh.el
  subst e2
  obtain ⟨a1, vs, rfl, s1, rr1⟩ := sq_read S2 (WOk.keep k2 o2 r1) e1
  refine ⟨a1, k, vs, rfl, r2, s1, e3, e4, ?_, fun p hp => ?_⟩
  · rw [RepL.length rr1, sizeLine_eq]
    exact e5
  · obtain ⟨S3, n3⟩ := NewAt.laid S2 hp (RepL.flat rr1 k.toNat)
    exact p2 p _ ((k1.trans k2).trans (Keep.of (same_upd hp))) (o1.trans o2) S3 n3
/-- t + u -/
def oCatT : O2 := fun w1 w2 ρ P => match w1, w2 with
  | .d (.tup ds), .d (.tup es) => ds.length + es.length ≤ 16777216 ∧ P (.tup (ds ++ es))
  | _, _ => False
theorem oCatT.el {w1 w2 : W} {ρ : En} {P : D → Prop} (h : oCatT w1 w2 ρ P) : ∃ ds es, w1 = .d (.tup ds) ∧ w2 = .d (.tup es) ∧ ds.length + es.length ≤ 16777216 ∧ P (.tup (ds ++ es)) := by
  unfold oCatT at h
  split at h
  · exact ⟨_, _, rfl, rfl, h⟩
  · exact h.elim
theorem mo_oCatT : MonoO oCatT := fun x y ρ P P' h q => by
  obtain ⟨ds, es, rfl, rfl, e4, p⟩ := q.el
  exact ⟨e4, h _ p⟩
theorem tells_catT {K : PySem.W.Frag} : Tells2 K (rCatN K) oCatT := fun B M ρ σ H w1 w2 x y Q P S r1 r2 hh q => by
  obtain ⟨ds, es, e1, e2, e4, p⟩ := hh.el
  subst e1 e2
  obtain ⟨a1, vs, rfl, s1, rr1⟩ := r1
  obtain ⟨a2, us, rfl, s2, rr2⟩ := r2
  refine ⟨a1, a2, vs, us, rfl, rfl, TpN.sq s1, TpN.sq s2, ?_, fun z => ?_, fun y z => ?_, fun y z ob l hd hl => ?_⟩
  · rw [RepL.length rr1, RepL.length rr2, sizeLine_eq]
    exact e4
  · have := RepL.length rr1
    rw [z] at this
    have ez := List.length_eq_zero_iff.mp this.symm
    refine q _ _ H p (Same.refl _) ⟨a2, us, rfl, s2, ?_⟩
    rw [ez, List.nil_append]
    exact rr2
  · have := RepL.length rr2
    rw [z] at this
    have ez := List.length_eq_zero_iff.mp this.symm
    refine q _ _ H p (Same.refl _) ⟨a1, vs, rfl, s1, ?_⟩
    rw [ez, List.append_nil]
    exact rr1
  · exact q _ _ _ p (same_upd hl) ⟨l, _, rfl, .inl ⟨ob, hd, upd_same⟩, RepL.keep (Keep.of (same_upd hl)) _ (RepL.append rr1 rr2)⟩
theorem de_catT {ra rb : RE} (ha : DE X B M a ra) (hb : DE X B M b rb) : DE X B M (.BinOp a .Add b pos) (r2 ra rb oCatT) := de_op op_catN tells_catT mo_oCatT ha hb
end
end N
/-! N3 -/
set_option Elab.async false
set_option linter.all false
set_option maxRecDepth 100000
set_option maxHeartbeats 1000000
/-! N3: statements, loops, what a def promises, calls. -/
namespace N
open PySem PySem.Spec PyProof.Rows L2
/-- what is wanted behind a statement, over data -/
structure DEnds where
  nx : En → Prop
  rt : D → En → Prop
  bk : En → Prop := fun _ => False
  ct : En → Prop := fun _ => False
  /-- the list of a slot, given back -/
  ro : List D → En → Prop := fun _ _ => False
abbrev RS := DEnds → En → Prop
structure EOk (K : PySem.W.Frag) (B : Hp) (M : List Addr) (H : Hp) (e : DEnds) (D : Ends) : Prop where
  nx : ∀ ρ σ H', Keep H H' → Sta K B M ρ σ H' → e.nx ρ → D.nx σ H'
  rt : ∀ d ρ σ v H', Keep H H' → Sta K B M ρ σ H' → Rep K H' d v → e.rt d ρ → D.rt v H'
  bk : ∀ ρ σ H', Keep H H' → Sta K B M ρ σ H' → e.bk ρ → D.bk σ H'
  ct : ∀ ρ σ H', Keep H H' → Sta K B M ρ σ H' → e.ct ρ → D.ct σ H'
  ro : ∀ (i : Nat) p ds ρ σ H', Keep H H' → Sta K B M ρ σ H' → ρ[i]? = some (.own p ds) → e.ro ds ρ → D.rt (.ref p) H'
theorem EOk.later {K : PySem.W.Frag} {B H H1 : Hp} {M : List Addr} {e : DEnds} {D : Ends} (k : Keep H H1) (h : EOk K B M H e D) : EOk K B M H1 e D :=
  ⟨fun ρ σ H' k' => h.nx ρ σ H' (k.trans k'), fun d ρ σ v H' k' => h.rt d ρ σ v H' (k.trans k'), fun ρ σ H' k' => h.bk ρ σ H' (k.trans k'), fun ρ σ H' k' => h.ct ρ σ H' (k.trans k'), fun i p ds ρ σ H' k' => h.ro i p ds ρ σ H' (k.trans k')⟩
def sD (K : PySem.W.Frag) (B : Hp) (M : List Addr) (r : RS) : TS := fun D σ H => ∃ ρ e, Sta K B M ρ σ H ∧ r e ρ ∧ EOk K B M H e D
structure DS (X : Cx) (B : Hp) (M : List Addr) (st : Stmt) (r : RS) : Prop where
  ps : PS X st (sD X.K B M r)
structure DSs (X : Cx) (B : Hp) (M : List Addr) (st : List Stmt) (r : RS) : Prop where
  pss : PSs X st (sD X.K B M r)
section
variable {X : Cx} {B : Hp} {M : List Addr} {e a b c : Expr} {es : List Expr} {st : Stmt} {sts : List Stmt} {pos : Pos}
theorem DS.mk' {t : TS} {r : RS} (h : PS X st t) (w : ∀ D σ H ρ e, Sta X.K B M ρ σ H → r e ρ → EOk X.K B M H e D → t D σ H) : DS X B M st r := ⟨ps_imp h fun D σ H ⟨ρ, e, S, q, ok⟩ => w D σ H ρ e S q ok⟩
theorem DSs.mk' {t : TS} {r : RS} (h : PSs X sts t) (w : ∀ D σ H ρ e, Sta X.K B M ρ σ H → r e ρ → EOk X.K B M H e D → t D σ H) : DSs X B M sts r := ⟨pss_imp h fun D σ H ⟨ρ, e, S, q, ok⟩ => w D σ H ρ e S q ok⟩
def rNx : RS := fun e ρ => e.nx ρ
theorem ds_nil : DSs X B M [] rNx := DSs.mk' pss_nil fun D σ H ρ e S q ok => ok.nx ρ σ H (Keep.refl _) S q
def rSeq (r1 r2 : RS) : RS := fun e ρ => r1 { e with nx := r2 e } ρ
theorem ds_cons {r1 r2 : RS} (h1 : DS X B M st r1) (h2 : DSs X B M sts r2) : DSs X B M (st :: sts) (rSeq r1 r2) :=
  DSs.mk' (pss_cons h1.ps h2.pss) fun D σ H ρ e S q ok => ⟨ρ, _, S, q, ⟨fun ρ' σ' H' k S' q' => ⟨ρ', e, S', q', ok.later k⟩, ok.rt, ok.bk, ok.ct, ok.ro⟩⟩
/-- behind a statement, by what holds there -/
theorem seq_join {r1 r2 : RS} {e : DEnds} {ρ : En} (J : En → Prop) (h : ∀ ρ', J ρ' → r2 e ρ') (k : ∀ R : En → Prop, (∀ ρ', J ρ' → R ρ') → r1 { e with nx := R } ρ) : rSeq r1 r2 e ρ := k _ h
theorem ds_one {r : RS} (h : DS X B M st r) : DSs X B M [st] r := ⟨pss_one h.ps⟩
theorem ds_pass : DS X B M (.Pass pos) rNx := DS.mk' ps_pass fun D σ H ρ e S q ok => ok.nx ρ σ H (Keep.refl _) S q
theorem ds_break : DS X B M (.Break pos) (fun e ρ => e.bk ρ) := DS.mk' ps_break fun D σ H ρ e S q ok => ok.bk ρ σ H (Keep.refl _) S q
theorem ds_continue : DS X B M (.Continue pos) (fun e ρ => e.ct ρ) := DS.mk' ps_continue fun D σ H ρ e S q ok => ok.ct ρ σ H (Keep.refl _) S q
/-- the list that slot i owns is locked from here on: the slot holds data -/
def lockEn (i : Nat) (ρ : En) : En := match ρ[i]? with
  | some (.own _ ds) => ρ.set i (.v (.lst ds))
  | _ => ρ
def rLock (i : Nat) (r : RS) : RS := fun e ρ => r e (lockEn i ρ)
theorem lock_st {K : PySem.W.Frag} {ρ : En} {σ : L2.St} {H : Hp} {i : Nat} {p : Addr} {ds : List D} {vs : List V} {o : Obj} (S : Sta K B M ρ σ H) (e : ρ[i]? = some (.own p ds)) (hp : H p = some (.lst vs)) (r : RepL K H ds vs) :
    Keep H (upd H p (.frz o (.lst vs))) ∧ Sta K B M (ρ.set i (.v (.lst ds))) σ (upd H p (.frz o (.lst vs))) := by
  have hlt : i < ρ.length := (List.getElem?_eq_some_iff.mp e).1
  have look : ∀ {j : Nat} {q fs}, (ρ.set i (Slot.v (.lst ds)))[j]? = some (Slot.own q fs) → j ≠ i ∧ ρ[j]? = some (Slot.own q fs) := fun {j q fs} h => by
    by_cases hj : j = i
    · subst hj
      rw [List.getElem?_set_self hlt] at h
      cases h
    · rw [List.getElem?_set_ne (Ne.symm hj)] at h
      exact ⟨hj, h⟩
  obtain ⟨hu, _⟩ := S.ok i _ e
  have S1 : Sta K B M (ρ.set i .un) σ H := by
    have look1 : ∀ {j : Nat} {q fs}, (ρ.set i Slot.un)[j]? = some (Slot.own q fs) → j ≠ i ∧ ρ[j]? = some (Slot.own q fs) := fun {j q fs} h => by
      by_cases hj : j = i
      · subst hj
        rw [List.getElem?_set_self hlt] at h
        cases h
      · rw [List.getElem?_set_ne (Ne.symm hj)] at h
        exact ⟨hj, h⟩
    refine ⟨S.frm, fun j s ej => ?_, fun j k q q' fs gs ej ek => S.dis j k q q' fs gs (look1 ej).2 (look1 ek).2, fun j q fs ej => S.new j q fs (look1 ej).2, S.mh, fun j P q h => S.tbi j P q (tab_set h fun _ _ z => by cases z)⟩
    by_cases hj : j = i
    · subst hj
      rw [List.getElem?_set_self hlt] at ej
      cases ej
      exact trivial
    · rw [List.getElem?_set_ne (Ne.symm hj)] at ej
      exact S.ok j s ej
  have nO : ∀ (j : Nat) q es, (ρ.set i Slot.un)[j]? = some (Slot.own q es) → q ≠ p := fun j q es h => by
    by_cases hj : j = i
    · subst hj
      rw [List.getElem?_set_self hlt] at h
      cases h
    · rw [List.getElem?_set_ne (Ne.symm hj)] at h
      exact S.dis j i q p es ds h e hj
  obtain ⟨kp, S2⟩ := Sta.freeze (o := o) S1 hp (S.new i p ds e) nO
  have S3 := Sta.put (i := i) (d := .lst ds) (v := .ref p) S2 ⟨p, vs, rfl, ⟨o, upd_same⟩, RepL.keep kp ds r⟩
  rw [List.set_set] at S3
  have eσ : σ.set i (some (.ref p)) = σ := by
    apply List.ext_getElem?
    intro j
    by_cases hj : j = i
    · subst hj
      rcases hu with z | z
      · have hl2 := List.getElem?_eq_none_iff.mp z
        rw [z]
        exact List.getElem?_eq_none_iff.mpr (by rw [List.length_set]; exact hl2)
      · have hl2 := (List.getElem?_eq_some_iff.mp z).1
        rw [List.getElem?_set_self hl2, z]
    · rw [List.getElem?_set_ne (Ne.symm hj)]
  rw [eσ] at S3
  exact ⟨kp, S3⟩
theorem ds_lock {r : RS} (i : Nat) (h : DSs X B M sts r) : DSs X B M sts (rLock i r) := ⟨⟨fun pins s σ H D I ⟨ρ, e, S, q, ok⟩ => by
  have q : r e (lockEn i ρ) := q
  unfold lockEn at q
  split at q
  · rename_i p ds ep
    obtain ⟨vs, hp, rr⟩ := S.own_at ep
    obtain ⟨o, hc, J⟩ := Inv.freeze I hp
    obtain ⟨kp, S2⟩ := lock_st (o := o) S ep hp rr
    exact h.pss.run pins s σ _ D J ⟨_, e, S2, q, ok.later kp⟩
  · exact h.pss.run pins s σ _ D I ⟨_, e, S, q, ok⟩⟩⟩
/-- x = e -/
def kD (Q : D → En → Prop) : W → En → Prop := fun w ρ => match w with
  | .d x => Q x ρ
  | .o _ => False
theorem kD.el {Q : D → En → Prop} {w : W} {ρ : En} (h : kD Q w ρ) : ∃ x, w = .d x ∧ Q x ρ := by
  cases w with
  | d x => exact ⟨x, rfl, h⟩
  | o i => exact (show False from h).elim
def rAsg (i : Nat) (r : RE) : RS := fun e ρ => r ρ (kD fun x ρ1 => e.nx (ρ1.set i (.v x)))
theorem asg_imp {r : RE} {i : Nat} (he : DE X B M e r) {D : Ends} {σ : L2.St} {H : Hp} {ρ : En} {en : DEnds} (S : Sta X.K B M ρ σ H) (q : rAsg i r en ρ) (ok : EOk X.K B M H en D) : tAsg (tD X.K B M r) (gName i) D σ H := by
  refine into he S q fun w ρ1 v H1 hh k1 o1 S1 r1 => ?_
  obtain ⟨x, e1, q1⟩ := hh.el
  subst e1
  exact ok.nx _ _ H1 k1 (S1.put r1) q1
theorem ds_set {i : Nat} {x : Str} {r : RE} {pos' : Pos} (hN : X.N.Nodup) (he : DE X B M e r) (hi : X.N[i]? = some x := by rfl) (hx : Loc X.env.scope x := by first | exact Or.inl rfl | exact Or.inr rfl) (hs : swapsWith e (some (.Name x pos')) pos.line X.env = pure false := by rfl) (hf : X.fn x = true ∨ X.env.scope.names.lookup x = some .local := by first | exact .inl rfl | exact .inr rfl | assumption) :
    DS X B M (.Assign [.Name x pos'] e pos) (rAsg i r) := DS.mk' (ps_set hN hi hx he.pe hs hf) fun D σ H ρ en S q ok => asg_imp he S q ok
/-- x = a new list, of which x alone knows -/
def rAsgO (i : Nat) (r : RN) : RS := fun e ρ => r ρ fun ds ρ1 => ∀ p, e.nx (ρ1.set i (.own p ds))
theorem asgO_imp {r : RN} {i : Nat} (he : DN X B M e r) {D : Ends} {σ : L2.St} {H : Hp} {ρ : En} {en : DEnds} (S : Sta X.K B M ρ σ H) (q : rAsgO i r en ρ) (ok : EOk X.K B M H en D) : tAsg (tDN X.K B M r) (gName i) D σ H := by
  refine ⟨ρ, S, he.mo ρ _ _ (fun ds ρ1 q1 => ?_) q⟩
  intro p H1 k1 o1 S1 n1
  obtain ⟨vs, hp, rr⟩ := n1.at_
  exact ok.nx _ _ H1 k1 (S1.putO hp rr n1.nB n1.nO) (q1 p)
theorem ds_setO {i : Nat} {x : Str} {r : RN} {pos' : Pos} (hN : X.N.Nodup) (he : DN X B M e r) (hi : X.N[i]? = some x := by rfl) (hx : Loc X.env.scope x := by first | exact Or.inl rfl | exact Or.inr rfl) (hs : swapsWith e (some (.Name x pos')) pos.line X.env = pure false := by rfl) (hf : X.fn x = true ∨ X.env.scope.names.lookup x = some .local := by first | exact .inl rfl | exact .inr rfl | assumption) :
    DS X B M (.Assign [.Name x pos'] e pos) (rAsgO i r) := DS.mk' (ps_set hN hi hx he.pe hs hf) fun D σ H ρ en S q ok => asgO_imp he S q ok
/-- an expression alone; return -/
def rExpr (r : RE) : RS := fun e ρ => r ρ fun _ ρ1 => e.nx ρ1
theorem ds_expr {r : RE} (he : DE X B M e r) (hs : swapsWith e none pos.line X.env = pure false := by rfl) : DS X B M (.Expr e pos) (rExpr r) :=
  DS.mk' (ps_expr he.pe hs) fun D σ H ρ en S q ok => into he S q fun w ρ1 v H1 q1 k1 o1 S1 r1 => ok.nx _ _ H1 k1 S1 q1
def kOwnR (s : Nat) (Q : List D → Prop) (ρ : En) : Prop := match ρ[s]? with
  | some (.own _ ds) => Q ds
  | _ => False
theorem kOwnR.el {s : Nat} {Q : List D → Prop} {ρ : En} (h : kOwnR s Q ρ) : ∃ p ds, ρ[s]? = some (.own p ds) ∧ Q ds := by
  unfold kOwnR at h
  split at h
  · rename_i p ds e
    exact ⟨p, ds, e, h⟩
  · exact h.elim
def rRet (r : RE) : RS := fun e ρ => r ρ (kD fun x ρ1 => e.rt x ρ1)
theorem ds_ret {r : RE} (he : DE X B M e r) : DS X B M (.Return (some e) pos) (rRet r) :=
  DS.mk' (ps_ret he.pe) fun D σ H ρ en S q ok => into he S q fun w ρ1 v H1 hh k1 o1 S1 r1 => by
    obtain ⟨x, e1, q1⟩ := hh.el
    subst e1
    exact ok.rt x _ _ _ H1 k1 S1 r1 q1
def rRetO (i : Nat) : RS := fun e ρ => kOwnR i (fun ds => e.ro ds ρ) ρ
theorem ds_retO {i : Nat} {y : Str} {py : Pos} (hy : DE X B M (.Name y py) (rVar i)) : DS X B M (.Return (some (.Name y py)) pos) (rRetO i) :=
  DS.mk' (ps_ret hy.pe) fun D σ H ρ en S q ok => by
    obtain ⟨p, ds, e0, q⟩ := kOwnR.el q
    exact into hy S (P := fun w ρ' => w = .o i ∧ ρ' = ρ) (rVar.mk (w := .o i) (by unfold rd; rw [e0]) ⟨rfl, rfl⟩) fun w ρ' vo H1 ⟨ew, eρ⟩ k1 o1 S1 r1 => by
      subst ew eρ
      obtain ⟨p', s', e3, ev⟩ := r1
      rw [e0] at e3
      cases e3
      rw [ev]
      exact ok.ro i _ _ _ _ _ k1 S1 e0 q
theorem ds_retN : DS X B M (.Return none pos) (fun e ρ => e.rt .non ρ) := DS.mk' ps_retN fun D σ H ρ en S q ok => ok.rt .non _ _ _ H (Keep.refl _) S rfl q
def rIf (rt : RT) (ra rb : RS) : RS := fun e ρ => rt ρ fun k ρ1 => if k = true then ra e ρ1 else rb e ρ1
theorem ds_if {sa sb : List Stmt} {rt : RT} {ra rb : RS} (hc : DT X B M c rt) (ha : DSs X B M sa ra) (hb : DSs X B M sb rb) : DS X B M (.If c sa sb pos) (rIf rt ra rb) :=
  DS.mk' (ps_if hc.pt ha.pss hb.pss) fun D σ H ρ en S q ok => intoT hc.mo S q fun k ρ1 H1 q1 k1 o1 S1 => by
    cases k with
    | true => exact ⟨ρ1, en, S1, q1, ok.later k1⟩
    | false => exact ⟨ρ1, en, S1, q1, ok.later k1⟩
/-- x += e -/
def rAug (i : Nat) (r : RE) (o : D → W → En → (D → Prop) → Prop) : RS := fun e ρ => match ρ[i]? with
  | some (.v d) => r ρ fun w ρ1 => o d w ρ1 fun z => e.nx (ρ1.set i (.v z))
  | _ => False
theorem rAug.el {i : Nat} {r : RE} {o : D → W → En → (D → Prop) → Prop} {e : DEnds} {ρ : En} (h : rAug i r o e ρ) : ∃ d, ρ[i]? = some (.v d) ∧ r ρ fun w ρ1 => o d w ρ1 fun z => e.nx (ρ1.set i (.v z)) := by
  unfold rAug at h
  split at h
  · rename_i d e
    exact ⟨d, e, h⟩
  · exact h.elim
def oAugI (f : Int → Int → Int) : D → W → En → (D → Prop) → Prop := fun d w _ P => match d, w with
  | .int i, .d (.int j) => P (.int (f i j))
  | _, _ => False
theorem oAugI.el {f : Int → Int → Int} {d : D} {w : W} {ρ : En} {P : D → Prop} (h : oAugI f d w ρ P) : ∃ i j, d = .int i ∧ w = .d (.int j) ∧ P (.int (f i j)) := by
  unfold oAugI at h
  split at h
  · exact ⟨_, _, rfl, rfl, h⟩
  · exact h.elim
theorem ds_augI {i : Nat} {x : Str} {r : RE} {op : Operator} {f : Int → Int → Int} {pos' : Pos} (hN : X.N.Nodup) (ho : PIp X op (ipI f)) (he : DE X B M e r) (hi : X.N[i]? = some x := by rfl) (hx : Loc X.env.scope x := by first | exact Or.inl rfl | exact Or.inr rfl)
    (hf : X.fn x = true ∨ X.env.scope.names.lookup x = some .local := by first | exact .inl rfl | exact .inr rfl | assumption) : DS X B M (.AugAssign (.Name x pos') op e pos) (rAug i r (oAugI f)) :=
  ⟨ps_impL (ps_aug hN hi hx he.pe ho hf) fun D σ H hl ⟨ρ, en, S, hh, ok⟩ => by
    have hsi : i < σ.length := by rw [hl]; exact (List.getElem?_eq_some_iff.mp hi).1
    obtain ⟨d, ed, q⟩ := hh.el
    rcases S.ok i _ ed with z | ⟨v, h1, h3⟩
    · have := List.getElem?_eq_none_iff.mp z
      omega
    refine ⟨v, h1, into he S q fun w ρ1 u H1 hh k1 o1 S1 r1 => ?_⟩
    obtain ⟨i', j', e1, e2, q1⟩ := hh.el
    subst e1 e2
    exact ⟨i', j', h3, r1, ok.nx _ _ H1 k1 (S1.put (d := .int (f i' j')) rfl) q1⟩⟩
/-- x[k] = e, x a list of the def's own -/
def isOwn (s : Nat) (ρ : En) : Prop := match ρ[s]? with
  | some (.own _ _) => True
  | _ => False
theorem isOwn.el {s : Nat} {ρ : En} (h : isOwn s ρ) : ∃ p ds, ρ[s]? = some (.own p ds) := by
  unfold isOwn at h
  split at h
  · rename_i p ds e
    exact ⟨p, ds, e⟩
  · exact h.elim
/-- with the list that slot s owns -/
def kOwn (s : Nat) (Q : Addr → List D → Prop) (ρ : En) : Prop := match ρ[s]? with
  | some (.own p ds) => Q p ds
  | _ => False
theorem kOwn.el {s : Nat} {Q : Addr → List D → Prop} {ρ : En} (h : kOwn s Q ρ) : ∃ p ds, ρ[s]? = some (.own p ds) ∧ Q p ds := by
  unfold kOwn at h
  split at h
  · rename_i p ds e
    exact ⟨p, ds, e, h⟩
  · exact h.elim
theorem kOwn.mk {s : Nat} {Q : Addr → List D → Prop} {ρ : En} {p : Addr} {ds : List D} (e : ρ[s]? = some (.own p ds)) (h : Q p ds) : kOwn s Q ρ := by
  unfold kOwn
  rw [e]
  exact h
theorem kOwn.imp {s : Nat} {Q Q' : Addr → List D → Prop} {ρ : En} (h : kOwn s Q ρ) (w : ∀ p ds, Q p ds → Q' p ds) : kOwn s Q' ρ := by
  obtain ⟨p, ds, e, q⟩ := h.el
  exact kOwn.mk e (w p ds q)
def kInt (Q : Int → En → Prop) : W → En → Prop := fun w ρ => match w with
  | .d (.int i) => Q i ρ
  | _ => False
theorem kInt.el {Q : Int → En → Prop} {w : W} {ρ : En} (h : kInt Q w ρ) : ∃ i, w = .d (.int i) ∧ Q i ρ := by
  unfold kInt at h
  split at h
  · exact ⟨_, rfl, h⟩
  · exact h.elim
def rSetIx (s : Nat) (rv ri : RE) : RS := fun e ρ => rv ρ (kD fun d ρ1 => kOwn s (fun _ _ => ri ρ1 (kInt fun k ρ2 => kOwn s (fun p ds => ∃ j, ixN ds.length k = some j ∧ e.nx (ρ2.set s (.own p (ds.set j d)))) ρ2)) ρ1)
theorem ds_setIx {s : Nat} {x : Str} {i : Expr} {rv ri : RE} {px ps : Pos} (hv : DE X B M e rv) (hx : DE X B M (.Name x px) (rVar s)) (hi : DE X B M i ri) (hs : swapsWithSole [.Subscript (.Name x px) i ps] e pos.line X.env = pure false := by rfl) (hw : swappedStores [.Subscript (.Name x px) i ps] e X.env = pure none := by rfl)
    (h1 : (assignEach [.Subscript (.Name x px) i ps] X.env).map (·.2) = [assign (.Subscript (.Name x px) i ps) X.env] := by rfl)
    (ha : ∀ v, assign (.Subscript (.Name x px) i ps) X.env v = (do
      let ov ← holding [v] (eval (.Name x px) X.env)
      let iv ← holding [v, ov] (eval i X.env)
      standAt ps
      holding [v, ov, iv] (setItem ov iv v)
      release [v, ov, iv] []) := by intro _; rfl) : DS X B M (.Assign [.Subscript (.Name x px) i ps] e pos) (rSetIx s rv ri) :=
  DS.mk' (ps_asg hv.pe (pg_sub hx.pe hi.pe set_list ha) hs hw h1) fun D σ H ρ en S q ok => into hv S q fun wv ρ1 v H1 hh k1 o1 S1 r1 => by
    obtain ⟨d, ed, hh⟩ := hh.el
    obtain ⟨p, ds, ep, q1⟩ := hh.el
    subst ed
    refine into hx S1 (P := fun w ρ' => w = .o s ∧ ρ' = ρ1) (rVar.mk (w := .o s) (by unfold rd; rw [ep]) ⟨rfl, rfl⟩) fun w ρ' vo H2 ⟨ew, eρ⟩ k2 o2 S2 r2 => ?_
    subst ew eρ
    refine into hi S2 q1 fun wi ρ2 vi H3 hh k3 o3 S3 r3 => ?_
    obtain ⟨k, ei, hh⟩ := hh.el
    obtain ⟨p', ds', ep', j, ej, q2⟩ := hh.el
    subst ei
    obtain ⟨p2, ds2, e2, ev2⟩ := WOk.keep k3 o3 r2
    rw [ep'] at e2
    cases e2
    obtain ⟨vs, hp, rr⟩ := S3.own_at ep'
    refine ⟨p', vs, k, j, ev2, r3, hp, by rw [RepL.length rr]; exact ej, ?_⟩
    have r1' := Rep.keep (k2.trans k3) d r1
    exact ok.nx _ _ _ (((k1.trans k2).trans k3).trans (Sta.keep_mut (i := s) hp)) (S3.mut ep' hp (RepL.set j rr r1')) q2
/-- a, b = a tuple -/
def kP (Q : D → D → Prop) : D → Prop := fun d => match d with
  | .tup [x, y] => Q x y
  | _ => False
theorem kP.el {Q : D → D → Prop} {d : D} (h : kP Q d) : ∃ x y, d = .tup [x, y] ∧ Q x y := by
  unfold kP at h
  split at h
  · exact ⟨_, _, rfl, h⟩
  · exact h.elim
theorem kP.imp {Q Q' : D → D → Prop} {d : D} (h : kP Q d) (w : ∀ x y, Q x y → Q' x y) : kP Q' d := by
  obtain ⟨x, y, rfl, q⟩ := h.el
  exact w x y q
def rTupAsg (i j : Nat) (r : RE) : RS := fun e ρ => r ρ (kD fun d ρ1 => kP (fun x y => e.nx ((ρ1.set i (.v x)).set j (.v y))) d)
theorem ds_tup2 {i j : Nat} {x y : Str} {r : RE} {px py pt : Pos} {kt} (hN : X.N.Nodup) (he : DE X B M e r) (hc : X.calm = true := by rfl) (hi : X.N[i]? = some x := by rfl) (hj : X.N[j]? = some y := by rfl) (hx : Loc X.env.scope x := by first | exact Or.inl rfl | exact Or.inr rfl) (hy : Loc X.env.scope y := by first | exact Or.inl rfl | exact Or.inr rfl)
    (hn : (assignEach [.Name x px, .Name y py] X.env).length = 2 := by rfl) (hst : (assignEach [.Name x px, .Name y py] X.env).findIdx? (·.1) = none := by rfl)
    (hs1 : (assignEach [.Name x px, .Name y py] X.env).map (·.2) = assign (.Name x px) X.env :: (assignEach [.Name y py] X.env).map (·.2) := by rfl) (hs2 : (assignEach [.Name y py] X.env).map (·.2) = assign (.Name y py) X.env :: (assignEach [] X.env).map (·.2) := by rfl)
    (hs : swapsWithSole [.Tuple [.Name x px, .Name y py] kt pt] e pos.line X.env = pure false := by rfl) (hw : swappedStores [.Tuple [.Name x px, .Name y py] kt pt] e X.env = pure none := by rfl)
    (h1 : (assignEach [.Tuple [.Name x px, .Name y py] kt pt] X.env).map (·.2) = [assign (.Tuple [.Name x px, .Name y py] kt pt) X.env] := by rfl)
    (hfx : X.fn x = true ∨ X.env.scope.names.lookup x = some .local := by first | exact .inl rfl | exact .inr rfl | assumption) (hfy : X.fn y = true ∨ X.env.scope.names.lookup y = some .local := by first | exact .inl rfl | exact .inr rfl | assumption) :
    DS X B M (.Assign [.Tuple [.Name x px, .Name y py] kt pt] e pos) (rTupAsg i j r) :=
  DS.mk' (ps_asg he.pe (pg_tup hc (pgs_cons (pg_name hN hi hx hfx) (pgs_cons (pg_name hN hj hy hfy) pgs_nil hs2) hs1) hn hst) hs hw h1) fun D σ H ρ en S q ok => into he S q fun w ρ1 v H1 hh k1 o1 S1 r1 => by
    obtain ⟨d, e0, hh⟩ := hh.el
    obtain ⟨x, y, e1, q1⟩ := hh.el
    subst e0 e1
    obtain ⟨a, vs, ev, hs, v1, vr, rfl, r1, v2, vr2, rfl, r2, r3⟩ := r1
    obtain rfl : vr2 = [] := r3
    exact ⟨a, _, ev, TpN.sq hs, rfl, v1, _, rfl, v2, _, rfl, rfl, ok.nx _ _ H1 k1 ((S1.put r1).put r2) q1⟩

/-! ### loops -/
theorem pi_seq {tg l : Expr} {tl : TE} (hl : PE X l tl) : PI X tg l (fun σ H R => tl σ H fun x H1 => ∃ a, x = .ref a ∧ (((∃ xs, SqL X.K H1 a xs) ∧ R (Itl X.K a) H1) ∨ ((∃ xs, SqT X.K H1 a xs) ∧ R (Itt X.K a) H1))) := by
  refine ⟨fun pins s σ H R I h => ?_⟩
  refine thn (hl.run pins s σ H _ I h) fun v s1 ⟨x, H1, I1, r1, q1⟩ => ?_
  obtain ⟨a, e, q⟩ := q1
  subst e
  cases r1
  rcases q with ⟨⟨xs, hq⟩, q⟩ | ⟨⟨xs, hq⟩, q⟩
  · obtain ⟨its, rv, p, hz⟩ := I1.list hq
    refine wpAny_pyIter_list p.isList ?_
    refine ⟨s1.heap.objs.size, [s1.heap.objs.size], _, _, H1, rfl, I1.kept (t' := s1.toks) fun b o e => Heap.get?_push_of_some _ e, turn_list a _, ⟨_, Heap.get?_push_size _ rfl, rfl, rfl⟩, fun b hb => ?_, q⟩
    have e : b = s1.heap.objs.size := by simpa using hb
    subst e
    exact I1.fpOk (Nat.le_refl _) (I1.hok.fresh (Nat.le_refl _))
  · obtain ⟨its, rv, p, hz⟩ := I1.tuple hq
    refine wpAny_pyIter_tuple (show s1.heap.IsTuple a its.toArray from p) ?_
    refine ⟨s1.heap.objs.size, [s1.heap.objs.size], _, _, H1, rfl, I1.kept (t' := s1.toks) fun b o e => Heap.get?_push_of_some _ e, turn_tuple a _, ⟨_, Heap.get?_push_size _ rfl, rfl, rfl⟩, fun b hb => ?_, q⟩
    have e : b = s1.heap.objs.size := by simpa using hb
    subst e
    exact I1.fpOk (Nat.le_refl _) (I1.hok.fresh (Nat.le_refl _))
/-- what is walked: n things, the k-th one of those that it k tells, while ok holds of the slots -/
abbrev RI := En → ((n : Nat) → (it : Nat → D → Prop) → (ok : En → Prop) → En → Prop) → Prop
def MonoI (r : RI) : Prop := ∀ ρ (P P' : (n : Nat) → (it : Nat → D → Prop) → (ok : En → Prop) → En → Prop), (∀ n it ok ρ', P n it ok ρ' → P' n it ok ρ') → r ρ P → r ρ P'
structure Walks (K : PySem.W.Frag) (B : Hp) (M : List Addr) (H1 : Hp) (J : It) (n : Nat) (it : Nat → D → Prop) (ok : En → Prop) : Prop where
  go : ∀ k ρ σ H, Keep H1 H → Sta K B M ρ σ H → ok ρ → k < n → J.go k H
  yld : ∀ k ρ σ H x H', Keep H1 H → Sta K B M ρ σ H → ok ρ → k < n → J.yld k H x H' → Same H H' ∧ ∃ d, it k d ∧ Rep K H' d x
  stop : ∀ ρ σ H, Keep H1 H → Sta K B M ρ σ H → ok ρ → J.stop n H
structure DI (X : Cx) (B : Hp) (M : List Addr) (tg iter : Expr) (ri : RI) : Prop where
  pi : PI X tg iter (fun σ H R => ∃ ρ, Sta X.K B M ρ σ H ∧ ri ρ fun n it ok ρ1 => ∀ J H1, Keep H H1 → OwnEq ρ ρ1 → Sta X.K B M ρ1 σ H1 → Walks X.K B M H1 J n it ok → R J H1)
  mo : MonoI ri
theorem pi_imp {tg iter : Expr} {w w' : TI} (h : PI X tg iter w) (i : ∀ σ H R, w' σ H R → w σ H R) : PI X tg iter w' := ⟨fun pins s σ H R I q => h.run pins s σ H R I (i σ H R q)⟩
def itOf (K : PySem.W.Frag) (t : Bool) (a : Addr) : It := match t with
  | true => Itt K a
  | false => Itl K a
/-- the walked list, where a slot owns it, stands as it was -/
def okW (ρ1 : En) (ds : List D) : W → En → Prop
  | .o i => fun ρ2 => ∃ p, ρ1[i]? = some (.own p ds) ∧ ρ2[i]? = some (.own p ds)
  | .d _ => fun _ => True
/-- over a list or a tuple -/
def iSq (r : RE) : RI := fun ρ P => r ρ fun w ρ1 => kSq (sq ρ1 w) fun ds => P ds.length (fun k d => ds[k]? = some d) (okW ρ1 ds w) ρ1
theorem walks_of {K : PySem.W.Frag} {H1 : Hp} {a : Addr} {n : Nat} {ds : List D} {ok : En → Prop} {t : Bool} (hn : n = ds.length)
    (h : ∀ ρ σ H, Keep H1 H → Sta K B M ρ σ H → ok ρ → ∃ vs, SqV K H t a vs ∧ RepL K H ds vs) : Walks K B M H1 (itOf K t a) n (fun k d => ds[k]? = some d) ok := by
  subst hn
  cases t with
  | true =>
    refine ⟨fun k ρ σ H kk S o lt => ?_, fun k ρ σ H x H' kk S o lt y => ?_, fun ρ σ H kk S o => ?_⟩
    · obtain ⟨vs, hs, rr⟩ := h ρ σ H kk S o
      have : k < vs.length := by rw [RepL.length rr]; exact lt
      exact ⟨vs, vs[k], TpN.sq hs, List.getElem?_eq_getElem this⟩
    · obtain ⟨vs, hs, rr⟩ := h ρ σ H kk S o
      obtain ⟨e, y⟩ := y
      subst e
      have hd : ds[k]? = some ds[k] := List.getElem?_eq_getElem lt
      obtain ⟨v, hv, rv⟩ := RepL.get rr hd
      have := y vs (TpN.sq hs)
      rw [hv] at this
      cases this
      exact ⟨Same.refl _, _, hd, rv⟩
    · obtain ⟨vs, hs, rr⟩ := h ρ σ H kk S o
      exact ⟨vs, TpN.sq hs, by rw [RepL.length rr]; exact Nat.le_refl _⟩
  | false =>
    refine ⟨fun k ρ σ H kk S o lt => ?_, fun k ρ σ H x H' kk S o lt y => ?_, fun ρ σ H kk S o => ?_⟩
    · obtain ⟨vs, hs, rr⟩ := h ρ σ H kk S o
      have : k < vs.length := by rw [RepL.length rr]; exact lt
      exact ⟨vs, vs[k], .inl hs, List.getElem?_eq_getElem this⟩
    · obtain ⟨vs, hs, rr⟩ := h ρ σ H kk S o
      obtain ⟨e, y⟩ := y
      subst e
      have hd : ds[k]? = some ds[k] := List.getElem?_eq_getElem lt
      obtain ⟨v, hv, rv⟩ := RepL.get rr hd
      have := y vs (.inl hs)
      rw [hv] at this
      cases this
      exact ⟨Same.refl _, _, hd, rv⟩
    · obtain ⟨vs, hs, rr⟩ := h ρ σ H kk S o
      exact ⟨vs, .inl hs, by rw [RepL.length rr]; exact Nat.le_refl _⟩
theorem di_seq {tg : Expr} {r : RE} (h : DE X B M e r) : DI X B M tg e (iSq r) := by
  refine ⟨pi_imp (pi_seq h.pe) fun σ H R ⟨ρ, S, q⟩ => ?_, fun ρ P P' w p => h.mo ρ _ _ (fun w1 ρ1 q1 => q1.imp fun ds p1 => w _ _ _ _ p1) p⟩
  refine into h S q fun w ρ1 v H1 hh k1 o1 S1 r1 => ?_
  obtain ⟨t, ds, e1, q1⟩ := hh.el
  obtain ⟨a, vs, rfl, s, rr⟩ := sq_read S1 r1 e1
  have wk := walks_of (K := X.K) (B := B) (M := M) (H1 := H1) (a := a) (n := ds.length) (ds := ds) (t := t) (ok := okW ρ1 ds w) rfl fun ρ2 σ2 H2 kk S2 ok2 => by
      cases w with
      | o i =>
        obtain ⟨p, e2, e3⟩ := ok2
        obtain ⟨p', fs, e4, ev⟩ := r1
        rw [e2] at e4
        cases e4
        cases ev
        have h2 : (match ρ1[i]? with
          | some (.own _ ds) => some (false, ds)
          | _ => none) = some (t, ds) := e1
        rw [e2] at h2
        cases h2
        obtain ⟨us, hu, ru⟩ := S2.own_at e3
        exact ⟨us, .inl hu, ru⟩
      | d x =>
        refine ⟨vs, ?_, RepL.keep kk ds rr⟩
        cases x with
        | tup es =>
          cases e1
          exact TpN.keep kk s
        | lst es =>
          cases e1
          obtain ⟨a', vs', ea, hz, _⟩ := r1
          cases ea
          obtain ⟨o, ho⟩ := hz
          have h1 : Rd H1 a (.lst vs) := s
          rcases h1 with h1 | ⟨o', h1⟩
          · rw [ho] at h1
            cases h1
          · exact .inr ⟨o', kk _ _ h1 trivial⟩
        | _ => cases e1
  refine ⟨a, rfl, ?_⟩
  cases t with
  | true => exact .inr ⟨⟨vs, TpN.sq s⟩, q1 _ H1 k1 o1 S1 wk⟩
  | false => exact .inl ⟨⟨vs, .inl s⟩, q1 _ H1 k1 o1 S1 wk⟩
/-- over range(n), range(a, b) -/
def kRg (s : Option (Int × Int)) (Q : Int → Int → Prop) : Prop := match s with
  | some (lo, hi) => Q lo hi
  | none => False
theorem kRg.el {s : Option (Int × Int)} {Q : Int → Int → Prop} (h : kRg s Q) : ∃ lo hi, s = some (lo, hi) ∧ Q lo hi := by
  unfold kRg at h
  split at h
  · exact ⟨_, _, rfl, h⟩
  · exact h.elim
theorem kRg.imp {s : Option (Int × Int)} {Q Q' : Int → Int → Prop} (h : kRg s Q) (w : ∀ lo hi, Q lo hi → Q' lo hi) : kRg s Q' := by
  obtain ⟨lo, hi, rfl, q⟩ := h.el
  exact w lo hi q
def iRg (ra : RA) (f : List W → Option (Int × Int)) : RI := fun ρ P => ra ρ fun ws ρ1 => kRg (f ws) fun lo hi => -(2 ^ 62) ≤ lo ∧ lo < 2 ^ 62 ∧ -(2 ^ 62) ≤ hi ∧ hi < 2 ^ 62 ∧ P (hi - lo).toNat (fun k d => d = .int (lo + k)) (fun _ => True) ρ1
theorem walks_rg {K : PySem.W.Frag} {H1 : Hp} {lo : Int} {n : Nat} : Walks K B M H1 (Itr lo n) n (fun k d => d = .int (lo + k)) (fun _ => True) :=
  ⟨fun k ρ σ H _ _ _ lt => lt, fun k ρ σ H x H' _ _ _ _ ⟨e1, e2⟩ => by subst e1; exact ⟨Same.refl _, _, rfl, e2⟩, fun ρ σ H _ _ _ => Nat.le_refl _⟩
def rg1 : List W → Option (Int × Int)
  | [.d (.int n)] => some (0, n)
  | _ => none
def rg2 : List W → Option (Int × Int)
  | [.d (.int m), .d (.int n)] => some (m, n)
  | _ => none
theorem di_range1 {tg : Expr} {p : Pos} {ra : RA} (hm : X.mg "range" = none) (ha : DA X B M [a] ra) (hg : Gl X "range" := by rfl) (hs : starEach [a] X.env = [(false, eval a X.env)] := by rfl) : DI X B M tg (.Call (.Name "range" p) [a] [] pos) (iRg ra rg1) := by
  refine ⟨pi_imp (pi_range1 hg hm ha.pa hs) fun σ H R ⟨ρ, S, q⟩ => ?_, fun ρ P P' w p => ha.mo ρ _ _ (fun ws ρ1 q => q.imp fun lo hi ⟨h1, h2, h3, h4, q⟩ => ⟨h1, h2, h3, h4, w _ _ _ _ q⟩) p⟩
  refine intoA ha S q fun ws ρ1 vs H1 hh k1 o1 S1 r1 => ?_
  obtain ⟨lo, hi, e, h1, h2, h3, h4, q1⟩ := hh.el
  unfold rg1 at e
  split at e
  · cases e
    obtain ⟨v, vr, rfl, r1, r2⟩ := r1
    obtain rfl : vr = [] := r2
    obtain rfl : v = _ := r1
    refine ⟨_, rfl, h3, h4, ?_⟩
    have := q1 (Itr 0 (hi - 0).toNat) H1 k1 o1 S1 walks_rg
    rw [Int.sub_zero] at this
    exact this
  · cases e
theorem di_range2 {tg b : Expr} {p : Pos} {ra : RA} (hm : X.mg "range" = none) (ha : DA X B M [a, b] ra) (hg : Gl X "range" := by rfl) (hs : starEach [a, b] X.env = [(false, eval a X.env), (false, eval b X.env)] := by rfl) (hs2 : starEach [b] X.env = [(false, eval b X.env)] := by rfl) : DI X B M tg (.Call (.Name "range" p) [a, b] [] pos) (iRg ra rg2) := by
  refine ⟨pi_imp (pi_range2 hg hm ha.pa hs hs2) fun σ H R ⟨ρ, S, q⟩ => ?_, fun ρ P P' w p => ha.mo ρ _ _ (fun ws ρ1 q => q.imp fun lo hi ⟨h1, h2, h3, h4, q⟩ => ⟨h1, h2, h3, h4, w _ _ _ _ q⟩) p⟩
  refine intoA ha S q fun ws ρ1 vs H1 hh k1 o1 S1 r1 => ?_
  obtain ⟨lo, hi, e, h1, h2, h3, h4, q1⟩ := hh.el
  unfold rg2 at e
  split at e
  · cases e
    obtain ⟨v, vr, rfl, r1, v2, vr2, rfl, r2, r3⟩ := r1
    obtain rfl : vr2 = [] := r3
    obtain rfl : v = _ := r1
    obtain rfl : v2 = _ := r2
    exact ⟨_, _, rfl, ⟨h1, h2, h3, h4⟩, q1 (Itr lo (hi - lo).toNat) H1 k1 o1 S1 walks_rg⟩
  · cases e
/-! ### targets -/
abbrev RG := D → En → (En → Prop) → Prop
structure DG (X : Cx) (B : Hp) (M : List Addr) (tg : Expr) (rg : RG) : Prop where
  pg : PG X tg (fun v σ H Q => ∃ ρ d, Sta X.K B M ρ σ H ∧ Rep X.K H d v ∧ rg d ρ fun ρ' => ∀ σ', σ'.length = σ.length → Sta X.K B M ρ' σ' H → Q σ' H)
theorem pg_imp {tg : Expr} {w w' : TG} (h : PG X tg w) (i : ∀ v σ H Q, w' v σ H Q → w v σ H Q) : PG X tg w' := ⟨fun pins s σ H v u Q I r q => h.run pins s σ H v u Q I r (i v σ H Q q)⟩
def gN (i : Nat) : RG := fun d ρ Q => Q (ρ.set i (.v d))
theorem dg (i : Nat) {x : Str} (hN : X.N.Nodup) (hi : X.N[i]? = some x := by rfl) (hx : Loc X.env.scope x := by first | exact Or.inl rfl | exact Or.inr rfl) (hf : X.fn x = true ∨ X.env.scope.names.lookup x = some .local := by first | exact .inl rfl | exact .inr rfl | assumption) : DG X B M (.Name x pos) (gN i) :=
  ⟨pg_imp (pg_name hN hi hx hf) fun v σ H Q ⟨ρ, d, S, r, q⟩ => q _ (by rw [List.length_set]) (S.put r)⟩
def gN2 (i j : Nat) : RG := fun d ρ Q => kP (fun x y => Q ((ρ.set i (.v x)).set j (.v y))) d
theorem dg2 (i j : Nat) {x y : Str} {px py pt : Pos} {kt} (hN : X.N.Nodup) (hc : X.calm = true := by rfl) (hi : X.N[i]? = some x := by rfl) (hj : X.N[j]? = some y := by rfl) (hx : Loc X.env.scope x := by first | exact Or.inl rfl | exact Or.inr rfl) (hy : Loc X.env.scope y := by first | exact Or.inl rfl | exact Or.inr rfl)
    (hn : (assignEach [.Name x px, .Name y py] X.env).length = 2 := by rfl) (hst : (assignEach [.Name x px, .Name y py] X.env).findIdx? (·.1) = none := by rfl)
    (hs1 : (assignEach [.Name x px, .Name y py] X.env).map (·.2) = assign (.Name x px) X.env :: (assignEach [.Name y py] X.env).map (·.2) := by rfl) (hs2 : (assignEach [.Name y py] X.env).map (·.2) = assign (.Name y py) X.env :: (assignEach [] X.env).map (·.2) := by rfl)
    (hfx : X.fn x = true ∨ X.env.scope.names.lookup x = some .local := by first | exact .inl rfl | exact .inr rfl | assumption) (hfy : X.fn y = true ∨ X.env.scope.names.lookup y = some .local := by first | exact .inl rfl | exact .inr rfl | assumption) :
    DG X B M (.Tuple [.Name x px, .Name y py] kt pt) (gN2 i j) :=
  ⟨pg_imp (pg_tup hc (pgs_cons (pg_name hN hi hx hfx) (pgs_cons (pg_name hN hj hy hfy) pgs_nil hs2) hs1) hn hst) fun v σ H Q ⟨ρ, d, S, r, hh⟩ => by
    obtain ⟨x, y, e, q⟩ := hh.el
    subst e
    obtain ⟨a, vs, ev, hs, v1, vr, rfl, r1, v2, vr2, rfl, r2, r3⟩ := r
    obtain rfl : vr2 = [] := r3
    exact ⟨a, _, ev, TpN.sq hs, rfl, v1, _, rfl, v2, _, rfl, rfl, q _ (by rw [List.length_set, List.length_set]) ((S.put r1).put r2)⟩⟩
/-! ### for, while -/
def rFor (ri : RI) (rg : RG) (rb : RS) : RS := fun e ρ => ri ρ fun n it ok ρ1 => ∃ I : Nat → En → Prop, I 0 ρ1 ∧ (∀ k ρ2, k ≤ n → I k ρ2 → ok ρ2) ∧
  (∀ k d ρ2, k < n → it k d → I k ρ2 → rg d ρ2 fun ρ3 => rb { nx := I (k + 1), rt := e.rt, bk := e.nx, ct := I (k + 1), ro := e.ro } ρ3) ∧ (∀ ρ2, I n ρ2 → e.nx ρ2)
theorem ds_for {tg iter : Expr} {body : List Stmt} {ri : RI} {rg : RG} {rb : RS} (hp : PassesOwn (model X.prog X.w) X.A X.env X.xe) (hi : DI X B M tg iter ri) (hg : DG X B M tg rg) (hb : DSs X B M body rb) (hc : X.calm = true := by rfl)
    (hs : ∀ x, foldedSetIterable iter X.env x = pure x := by intro _; rfl) (rm : ∀ d ρ (P P' : En → Prop), (∀ ρ', P ρ' → P' ρ') → rg d ρ P → rg d ρ P' := by first | (intro _ _ _ _ w p; exact w _ p) | (intro _ _ _ _ w p; exact kP.imp p fun _ _ q => w _ q)) : DS X B M (.For tg iter body [] pos) (rFor ri rg rb) := by
  refine DS.mk' (ps_for hp hc hi.pi hg.pg hb.pss hs) fun D σ H ρ en S q ok => ?_
  refine ⟨ρ, S, hi.mo ρ _ _ (fun n it okk ρ1 ⟨I, i0, iok, istep, iend⟩ => ?_) q⟩
  intro J H1 k1 o1 S1 wk
  refine ⟨fun k m σ' H' => m = n - k ∧ k ≤ n ∧ Keep H1 H' ∧ ∃ ρ2, Sta X.K B M ρ2 σ' H' ∧ I k ρ2, ⟨n, rfl, Nat.zero_le _, Keep.refl _, ρ1, S1, i0⟩, ?_⟩
  rintro k m σ' H' ⟨rfl, hk, kk, ρ2, S2, ik⟩
  have okk2 := iok k ρ2 hk ik
  by_cases hlt : k < n
  · refine .inr ⟨wk.go k ρ2 σ' H' kk S2 okk2 hlt, fun σ3 H3 => k + 1 ≤ n ∧ Keep H1 H3 ∧ ∃ ρ3, Sta X.K B M ρ3 σ3 H3 ∧ I (k + 1) ρ3, fun σ3 H3 ⟨h1, h2, h3⟩ => ⟨n - (k + 1), by omega, rfl, h1, h2, h3⟩, fun x H3 y => ?_⟩
    obtain ⟨sm, d, hit, rd⟩ := wk.yld k ρ2 σ' H' x H3 kk S2 okk2 hlt y
    refine ⟨ρ2, d, S2.same sm, rd, rm d ρ2 _ _ (fun ρ3 q3 => ?_) (istep k d ρ2 hlt hit ik)⟩
    intro σ3 _ S3
    have kk3 := kk.trans (Keep.of sm)
    exact ⟨ρ3, _, S3, q3, ⟨fun ρ4 σ4 H4 k4 S4 q4 => ⟨hlt, kk3.trans k4, ρ4, S4, q4⟩, fun d4 ρ4 σ4 v4 H4 k4 S4 r4 q4 => ok.rt d4 ρ4 σ4 v4 H4 ((k1.trans kk3).trans k4) S4 r4 q4,
      fun ρ4 σ4 H4 k4 S4 q4 => ok.nx ρ4 σ4 H4 ((k1.trans kk3).trans k4) S4 q4, fun ρ4 σ4 H4 k4 S4 q4 => ⟨hlt, kk3.trans k4, ρ4, S4, q4⟩, fun i4 p4 d4 ρ4 σ4 H4 k4 S4 e4 q4 => ok.ro i4 p4 d4 ρ4 σ4 H4 ((k1.trans kk3).trans k4) S4 e4 q4⟩⟩
  · have e : k = n := by omega
    subst e
    exact .inl ⟨wk.stop ρ2 σ' H' kk S2 okk2, ok.nx ρ2 σ' H' (k1.trans kk) S2 (iend ρ2 ik)⟩
def rWhile (rt : RT) (rb : RS) : RS := fun e ρ => ∃ I : Nat → En → Prop, (∃ m, I m ρ) ∧ ∀ m ρ1, I m ρ1 → rt ρ1 fun b ρ2 => if b = true then rb { nx := fun ρ3 => ∃ m', m' < m ∧ I m' ρ3, rt := e.rt, bk := e.nx, ct := fun ρ3 => ∃ m', m' < m ∧ I m' ρ3, ro := e.ro } ρ2 else e.nx ρ2
theorem ds_while {body : List Stmt} {rt : RT} {rb : RS} (hp : PassesOwn (model X.prog X.w) X.A X.env X.xe) (hc : DT X B M c rt) (hb : DSs X B M body rb) : DS X B M (.While c body [] pos) (rWhile rt rb) := by
  refine DS.mk' (ps_while hp hc.pt hb.pss) fun D σ H ρ en S ⟨I, ⟨m0, i0⟩, turn⟩ ok => ?_
  refine ⟨fun m σ' H' => Keep H H' ∧ ∃ ρ1, Sta X.K B M ρ1 σ' H' ∧ I m ρ1, ⟨m0, Keep.refl _, ρ, S, i0⟩, ?_⟩
  rintro m σ1 H1 ⟨k1, ρ1, S1, i1⟩
  refine intoT hc.mo S1 (turn m ρ1 i1) fun b ρ2 H2 q2 k2 o2 S2 => ?_
  cases b with
  | true =>
    refine ⟨fun σ3 H3 => Keep H H3 ∧ ∃ m', m' < m ∧ ∃ ρ3, Sta X.K B M ρ3 σ3 H3 ∧ I m' ρ3, fun σ3 H3 ⟨k3, m', hm, ρ3, S3, i3⟩ => ⟨m', hm, k3, ρ3, S3, i3⟩, ρ2, _, S2, q2, ?_⟩
    have kk := k1.trans k2
    exact ⟨fun ρ4 σ4 H4 k4 S4 ⟨m', hm, i4⟩ => ⟨kk.trans k4, m', hm, ρ4, S4, i4⟩, fun d4 ρ4 σ4 v4 H4 k4 S4 r4 q4 => ok.rt d4 ρ4 σ4 v4 H4 (kk.trans k4) S4 r4 q4,
      fun ρ4 σ4 H4 k4 S4 q4 => ok.nx ρ4 σ4 H4 (kk.trans k4) S4 q4, fun ρ4 σ4 H4 k4 S4 ⟨m', hm, i4⟩ => ⟨kk.trans k4, m', hm, ρ4, S4, i4⟩, fun i4 p4 d4 ρ4 σ4 H4 k4 S4 e4 q4 => ok.ro i4 p4 d4 ρ4 σ4 H4 (kk.trans k4) S4 e4 q4⟩
  | false => exact ok.nx ρ2 σ1 H2 (k1.trans k2) S2 q2
end
end N
/-! N4 -/
set_option Elab.async false
set_option linter.all false
set_option maxRecDepth 100000
set_option maxHeartbeats 1000000
/-! N4: what defs promise, calls, comprehensions. -/
namespace N
open PySem PySem.Spec PyProof.Rows L2
/-- an exception: its class, and where it has one its own field -/
structure Exn where
  C : Addr
  fld : Option (Str × D)
def XRep (K : PySem.W.Frag) (H : Hp) (x : Exn) (cls : Value) (dx : Option Addr) : Prop := cls = .ref x.C ∧ match x.fld with
  | none => dx = none
  | some (f, d) => ∃ a v, dx = some a ∧ H a = some (.xd [(f, v)]) ∧ Rep K H d v
/-- a def's promise: what it is asked (g: any ghost), the arguments, when, what it gives, what it may raise -/
structure FS where
  α : Type
  args : α → List D
  pre : α → Prop
  post : α → D → Prop
  exc : α → Exn → Prop := fun _ _ => False
def spF (K : PySem.W.Frag) (S : FS) : Sp := fun vs H Q E => ∃ g, RepL K H (S.args g) vs ∧ S.pre g ∧ (∀ d v H', S.post g d → Frm [] H H' → Rep K H' d v → Q v H') ∧ (∀ x cls dx H', S.exc g x → Frm [] H H' → XRep K H' x cls dx → E cls dx H')
def notL : D → Bool
  | .lst _ => false
  | _ => true
/-- the same of a def whose first argument is a list that it changes (the law's store), st what holds of it -/
structure SS where
  α : Type
  args : α → List D
  pre : α → Prop
  post : α → D → Prop
  s0 : α → List D → Prop
  s1 : α → List D → Prop
def spS (K : PySem.W.Frag) (S : SS) : Sp := fun vs H Q _ => ∃ g p vs0 s vr, vs = .ref p :: vr ∧ H p = some (.lst vs0) ∧ RepL K H s vs0 ∧ S.s0 g s ∧ RepL K H (S.args g) vr ∧ S.pre g ∧
  (∀ d s' v H' vs', S.post g d → S.s1 g s' → Frm [p] H H' → H' p = some (.lst vs') → RepL K H' s' vs' → Rep K H' d v → Q v H')
/-- a def that gives data, or where it gives a list a new one, which nothing else knows -/
def spO (K : PySem.W.Frag) (S : FS) : Sp := fun vs H Q E => ∃ g, RepL K H (S.args g) vs ∧ S.pre g ∧ (∀ d v H', S.post g d → notL d = true → Frm [] H H' → Rep K H' d v → Q v H') ∧
  (∀ ds p vs' H', S.post g (.lst ds) → Frm [] H H' → H p = none → H' p = some (.lst vs') → RepL K H' ds vs' → Q (.ref p) H')
/-- the def of that name keeps the promise -/
def Has (P : Program) (w : World) (K : PySem.W.Frag) (mg : Str → Option Value) (base : Heap) (x : Str) (k : Nat) (ps : List Str) (sp : Sp) : Prop :=
  ∃ f fd, mg x = some (.ref f) ∧ PySem.W.keepIn K (.ref f) = true ∧ Binds K fd ps [] ∧ FnOk P w K mg base (L2N.CX P w) k f fd ps sp
/-! ### a def's body -/
def ini (n : Nat) (ds : List D) : En := ds.map Slot.v ++ List.replicate (n - ds.length) Slot.un
theorem sta_ini {K : PySem.W.Frag} {H : Hp} {N : List Str} {ds : List D} {vs : List V} (r : RepL K H ds vs) : Sta K H [] (ini N.length ds) (L2.start N vs) H := by
  have hl := RepL.length r
  refine ⟨Frm.refl _ _, fun i s e => ?_, fun i j p q fs gs e => ?_, fun i p fs e => ?_, fun p hp => by simp at hp, fun i P q e => by
    unfold ini at e
    rcases List.mem_append.mp (List.mem_of_getElem? e) with h | h
    · obtain ⟨d, _, z⟩ := List.mem_map.mp h
      cases z
    · cases (List.mem_replicate.mp h).2⟩
  · unfold ini at e
    unfold L2.start
    by_cases hi : i < ds.length
    · rw [List.getElem?_append_left (by rw [List.length_map]; exact hi), List.getElem?_map, List.getElem?_eq_getElem hi] at e
      have e' : Slot.v ds[i] = s := by simpa using e
      subst e'
      obtain ⟨v, hv, rv⟩ := RepL.get r (List.getElem?_eq_getElem hi)
      refine .inr ⟨v, ?_, rv⟩
      rw [List.getElem?_append_left (by rw [List.length_map, hl]; exact hi), List.getElem?_map, hv]
      rfl
    · have hi' : ds.length ≤ i := Nat.le_of_not_lt hi
      rw [List.getElem?_append_right (by rw [List.length_map]; exact hi'), List.length_map, List.getElem?_replicate] at e
      split at e
      · rename_i hlt
        cases e
        exact trivial
      · cases e
  · exact absurd e (by
      unfold ini
      intro e
      rcases List.mem_append.mp (List.mem_of_getElem? e) with h | h
      · obtain ⟨d, _, z⟩ := List.mem_map.mp h
        cases z
      · cases (List.mem_replicate.mp h).2)
  · exact absurd e (by
      unfold ini
      intro e
      rcases List.mem_append.mp (List.mem_of_getElem? e) with h | h
      · obtain ⟨d, _, z⟩ := List.mem_map.mp h
        cases z
      · cases (List.mem_replicate.mp h).2)
def iniS (n : Nat) (p : Addr) (s : List D) (ds : List D) : En := Slot.own p s :: (ds.map Slot.v ++ List.replicate (n - 1 - ds.length) Slot.un)
theorem sta_iniS {K : PySem.W.Frag} {H : Hp} {N : List Str} {p : Addr} {s ds : List D} {vs0 vs : List V} (hN : 0 < N.length) (hp : H p = some (.lst vs0)) (r0 : RepL K H s vs0) (r : RepL K H ds vs) : Sta K H [p] (iniS N.length p s ds) (L2.start N (.ref p :: vs)) H := by
  have hl := RepL.length r
  have own : ∀ (i : Nat) q fs, (iniS N.length p s ds)[i]? = some (Slot.own q fs) → i = 0 ∧ q = p := fun i q fs e => by
    cases i with
    | zero =>
      unfold iniS at e
      rw [List.getElem?_cons_zero] at e
      cases e
      exact ⟨rfl, rfl⟩
    | succ i =>
      unfold iniS at e
      rw [List.getElem?_cons_succ] at e
      rcases List.mem_append.mp (List.mem_of_getElem? e) with h | h
      · obtain ⟨d, _, z⟩ := List.mem_map.mp h
        cases z
      · cases (List.mem_replicate.mp h).2
  refine ⟨Frm.refl _ _, fun i s e => ?_, fun i j q q' fs gs e e' hij => ?_, fun i q fs e => ?_, fun q hq => ?_, fun i P q e => by
    cases i with
    | zero =>
      unfold iniS at e
      rw [List.getElem?_cons_zero] at e
      cases e
    | succ i =>
      unfold iniS at e
      rw [List.getElem?_cons_succ] at e
      rcases List.mem_append.mp (List.mem_of_getElem? e) with h | h
      · obtain ⟨d, _, z⟩ := List.mem_map.mp h
        cases z
      · cases (List.mem_replicate.mp h).2⟩
  · cases i with
    | zero =>
      unfold iniS at e
      rw [List.getElem?_cons_zero] at e
      cases e
      exact ⟨.inr rfl, vs0, hp, r0⟩
    | succ i =>
      unfold iniS at e
      rw [List.getElem?_cons_succ] at e
      unfold L2.start
      rw [List.map_cons, List.cons_append, List.getElem?_cons_succ]
      by_cases hi : i < ds.length
      · rw [List.getElem?_append_left (by rw [List.length_map]; exact hi), List.getElem?_map, List.getElem?_eq_getElem hi] at e
        have e' : Slot.v ds[i] = s := by simpa using e
        subst e'
        obtain ⟨v, hv, rv⟩ := RepL.get r (List.getElem?_eq_getElem hi)
        refine .inr ⟨v, ?_, rv⟩
        rw [List.getElem?_append_left (by rw [List.length_map, hl]; exact hi), List.getElem?_map, hv]
        rfl
      · have hi' : ds.length ≤ i := Nat.le_of_not_lt hi
        rw [List.getElem?_append_right (by rw [List.length_map]; exact hi'), List.length_map, List.getElem?_replicate] at e
        split at e
        · rename_i hlt
          cases e
          exact trivial
        · cases e
  · exact absurd ((own i q fs e).1.trans (own j q' gs e').1.symm) hij
  · exact .inr (by rw [(own i q fs e).2]; exact List.mem_singleton_self p)
  · rw [List.mem_singleton.mp hq]
    exact ⟨_, hp⟩
section
variable {P : Program} {w : World} {K : PySem.W.Frag} {mg : Str → Option Value} {base : Heap} {x qual : Str} {params : Arguments} {body : List Stmt} {scope : Scope} {f : Addr} {fd : FuncData}
/-- the rule for a def -/
theorem fn_ok {dvs : List V} {N ps : List Str} {k : Nat} (F : FunD K x qual params body scope dvs [] f fd) (Sc : FnScope N ps scope) (S : FS) (len : ∀ g, (S.args g).length = ps.length)
    (h : ∀ (cdv : Value) (A : Around) (outer : List Env) (s : Shared) (H : Hp) (E : XK) (g : S.α), Room k (A.deeper (envOfC qual scope s.heap.objs.size f cdv)) → S.pre g → (∀ x cls dx H', S.exc g x → Frm [] H H' → XRep K H' x cls dx → E cls dx H') →
      ∃ r, DSs (cxOf (L2N.CX P w) P w K mg base N qual scope f cdv A outer s H E) H [] body r ∧ r { nx := fun _ => S.post g .non, rt := fun d _ => S.post g d } (ini N.length (S.args g))) :
    FnOk P w K mg base (L2N.CX P w) (k + 1) f fd ps (spF K S) := by
  refine F.ok Sc (fun vs H Q E ⟨g, r, _⟩ => (RepL.length r).trans (len g)) fun cdv A outer s H vs Q E hr ⟨g, r, pre, q, qx⟩ => ?_
  obtain ⟨rs, hd, hm⟩ := h cdv A outer s H E g hr pre qx
  refine ⟨_, hd.pss, ini N.length (S.args g), _, sta_ini r, hm, ⟨fun ρ σ H' _ S' hp => q .non .non H' hp S'.frm rfl, fun d ρ σ v H' _ S' rv hp => q d v H' hp S'.frm rv, fun _ _ _ _ _ z => z, fun _ _ _ _ _ z => z, fun _ _ _ _ _ _ _ _ _ z => z.elim⟩⟩
theorem fnS_ok {dvs : List V} {N ps : List Str} {k : Nat} (F : FunD K x qual params body scope dvs [] f fd) (Sc : FnScope N ps scope) (S : SS) (len : ∀ g, (S.args g).length + 1 = ps.length) (hN : 0 < N.length)
    (h : ∀ (cdv : Value) (A : Around) (outer : List Env) (s : Shared) (H : Hp) (E : XK) (g : S.α) (p : Addr) (ss : List D), Room k (A.deeper (envOfC qual scope s.heap.objs.size f cdv)) → S.pre g → S.s0 g ss →
      ∃ r, DSs (cxOf (L2N.CX P w) P w K mg base N qual scope f cdv A outer s H E) H [p] body r ∧ r { nx := fun ρ => S.post g .non ∧ ∃ s', ρ[0]? = some (.own p s') ∧ S.s1 g s', rt := fun d ρ => S.post g d ∧ ∃ s', ρ[0]? = some (.own p s') ∧ S.s1 g s' } (iniS N.length p ss (S.args g))) :
    FnOk P w K mg base (L2N.CX P w) (k + 1) f fd ps (spS K S) := by
  refine F.ok Sc (fun vs H Q E ⟨g, p, vs0, s, vr, e, _, _, _, r, _⟩ => by rw [e, List.length_cons, RepL.length r]; exact len g) fun cdv A outer s H vs Q E hr ⟨g, p, vs0, ss, vr, e, hp, r0, hs, r, pre, q⟩ => ?_
  subst e
  obtain ⟨rs, hd, hm⟩ := h cdv A outer s H E g p ss hr pre hs
  refine ⟨_, hd.pss, iniS N.length p ss (S.args g), _, sta_iniS hN hp r0 r, hm, ⟨fun ρ σ H' _ S' ⟨hp, s', e0, hs'⟩ => ?_, fun d ρ σ v H' _ S' rv ⟨hp, s', e0, hs'⟩ => ?_, fun _ _ _ _ _ z => z, fun _ _ _ _ _ z => z, fun _ _ _ _ _ _ _ _ _ z => z.elim⟩⟩
  · obtain ⟨vs', hv, rr⟩ := S'.own_at e0
    exact q .non s' .non H' vs' hp hs' S'.frm hv rr rfl
  · obtain ⟨vs', hv, rr⟩ := S'.own_at e0
    exact q d s' v H' vs' hp hs' S'.frm hv rr rv
/-- the rule for a def that gives data or a new list -/
theorem fnO_ok {dvs : List V} {N ps : List Str} {k : Nat} (F : FunD K x qual params body scope dvs [] f fd) (Sc : FnScope N ps scope) (S : FS) (len : ∀ g, (S.args g).length = ps.length)
    (h : ∀ (cdv : Value) (A : Around) (outer : List Env) (s : Shared) (H : Hp) (E : XK) (g : S.α), Room k (A.deeper (envOfC qual scope s.heap.objs.size f cdv)) → S.pre g →
      ∃ r, DSs (cxOf (L2N.CX P w) P w K mg base N qual scope f cdv A outer s H E) H [] body r ∧ r { nx := fun _ => S.post g .non, rt := fun d _ => S.post g d ∧ notL d = true, ro := fun ds _ => S.post g (.lst ds) } (ini N.length (S.args g))) :
    FnOk P w K mg base (L2N.CX P w) (k + 1) f fd ps (spO K S) := by
  refine F.ok Sc (fun vs H Q E ⟨g, r, _⟩ => (RepL.length r).trans (len g)) fun cdv A outer s H vs Q E hr ⟨g, r, pre, q, qn⟩ => ?_
  obtain ⟨rs, hd, hm⟩ := h cdv A outer s H E g hr pre
  refine ⟨_, hd.pss, ini N.length (S.args g), _, sta_ini r, hm, ⟨fun ρ σ H' _ S' hp => q .non .non H' hp rfl S'.frm rfl, fun d ρ σ v H' _ S' rv hp => q d v H' hp.1 hp.2 S'.frm rv, fun _ _ _ _ _ z => z, fun _ _ _ _ _ z => z, fun i p ds ρ σ H' _ S' e hp => ?_⟩⟩
  obtain ⟨vs', hv, rr⟩ := S'.own_at e
  rcases S'.new i p ds e with n | n
  · exact qn ds p vs' H' hp S'.frm n hv rr
  · simp at n
end
theorem passN {X : Cx} : Passes (L2N.CX X.prog X.w) X (fun _ _ _ => False) := fun _ _ _ _ _ _ _ h => by
  obtain ⟨_, _, _, _, _, _, _, _, _, _, _, _, z⟩ := h
  exact z.elim
/-! ### calls -/
section
variable {X : Cx} {B : Hp} {M : List Addr} {e a b c : Expr} {es : List Expr} {pos : Pos}
def rCall (S : FS) (ra : RA) (Xp : Exn → Prop) : RE := fun ρ Q => ra ρ fun ws ρ1 => ∃ g, ws = dats (S.args g) ∧ S.pre g ∧ (∀ d, S.post g d → Q (.d d) ρ1) ∧ ∀ x, S.exc g x → Xp x
theorem mo_rCall {S : FS} {ra : RA} {Xp : Exn → Prop} (ha : MonoA ra) : MonoE (rCall S ra Xp) := fun ρ P P' w q => ha ρ _ _ (fun ws ρ1 ⟨g, e, p, h1, h2⟩ => ⟨g, e, p, fun d hd => w _ _ (h1 d hd), h2⟩) q
theorem de_callX {x : Str} {k : Nat} {ps : List Str} {S : FS} {ra : RA} {p : Pos} {E : XK} {Xp : Exn → Prop} (G : Has X.prog X.w X.K X.mg X.base x k ps (spF X.K S)) (hr : Room k X.A) (hx : Passes (L2N.CX X.prog X.w) X E)
    (hE : ∀ x cls dx H', Xp x → Frm M B H' → XRep X.K H' x cls dx → E cls dx H') (ha : DA X B M (a :: es) ra) (hg : Gl X x := by rfl) (hdb : (x == ("__debug__" : Str)) = false := by decide) (he : starEach (a :: es) X.env = (false, eval a X.env) :: starEach es X.env := by rfl) (hpl : (backTo pos (starEach es X.env)).any (·.1) = false := by rfl) :
    DE X B M (.Call (.Name x p) (a :: es) [] pos) (rCall S ra Xp) := by
  obtain ⟨f, fd, hm, hk, hb, F⟩ := G
  refine DE.mk' (pe_call F hr hg hm hk hb .nil hx ha.pa hdb he hpl) (mo_rCall ha.mo) fun σ H Q ρ Sx q => ?_
  refine intoA ha Sx q fun ws ρ1 vs H1 ⟨g, e1, pre, h1, h2⟩ k1 o1 S1 r1 => ?_
  subst e1
  rw [List.append_nil]
  refine ⟨g, dats_ok r1, pre, fun d v H' hd fr rv => ?_, fun x cls dx H' hx fr rx => ?_⟩
  · exact h1 d hd v H' (k1.trans fr.keep) o1 (S1.same fr.same) rv
  · exact hE x cls dx H' (h2 x hx) (S1.frm.trans (Frm.of fr.same)) rx
/-- a call that raises nothing -/
theorem de_call {x : Str} {k : Nat} {ps : List Str} {S : FS} {ra : RA} {p : Pos} (G : Has X.prog X.w X.K X.mg X.base x k ps (spF X.K S)) (hr : Room k X.A) (ha : DA X B M (a :: es) ra) (hg : Gl X x := by rfl) (hdb : (x == ("__debug__" : Str)) = false := by decide) (he : starEach (a :: es) X.env = (false, eval a X.env) :: starEach es X.env := by rfl) (hpl : (backTo pos (starEach es X.env)).any (·.1) = false := by rfl) :
    DE X B M (.Call (.Name x p) (a :: es) [] pos) (rCall S ra fun _ => False) := de_callX G hr passN (fun _ _ _ _ z => z.elim) ha hg hdb he hpl
/-- the state behind a call that changed the list of slot i -/
theorem Sta.called {K : PySem.W.Frag} {ρ : En} {σ : L2.St} {H H' : Hp} {i : Nat} {p : Addr} {s s' : List D} {vs' : List V} (S : Sta K B M ρ σ H) (e : ρ[i]? = some (.own p s)) (fr : Frm [p] H H') (hp : H' p = some (.lst vs')) (r : RepL K H' s' vs') : Sta K B M (ρ.set i (.own p s')) σ H' := by
  have hlt : i < ρ.length := (List.getElem?_eq_some_iff.mp e).1
  obtain ⟨vs, hpv, _⟩ := S.own_at e
  have look : ∀ {j : Nat} {q fs}, (ρ.set i (Slot.own p s'))[j]? = some (Slot.own q fs) → ∃ fs', ρ[j]? = some (Slot.own q fs') := fun {j q fs} h => by
    by_cases hj : j = i
    · subst hj
      rw [List.getElem?_set_self hlt] at h
      cases h
      exact ⟨s, e⟩
    · rw [List.getElem?_set_ne (Ne.symm hj)] at h
      exact ⟨fs, h⟩
  refine ⟨fun b o hb im => ?_, fun j t ej => ?_, fun j k q q' fs gs ej ek hjk => ?_, fun j q fs ej => ?_, fun q hq => ?_, fun j P q h => S.tbi j P q (tab_set h fun _ _ z => by cases z)⟩
  · by_cases hbp : b = p
    · have h2 := S.frm b o hb im
      rw [hbp, hpv] at h2
      cases h2
      rcases S.new i p s e with n | n
      · rw [hbp, n] at hb
        cases hb
      · rcases im with im | im
        · exact im.elim
        · exact absurd (hbp ▸ n) im
    · exact fr b o (S.frm b o hb im) (.inr (by simpa using hbp))
  · by_cases hj : j = i
    · subst hj
      rw [List.getElem?_set_self hlt] at ej
      cases ej
      obtain ⟨h2, _⟩ := S.ok j _ e
      exact ⟨h2, vs', hp, r⟩
    · rw [List.getElem?_set_ne (Ne.symm hj)] at ej
      refine SlotOk.keep fr.keep (fun q fs es => ?_) (fun P q et => by
        subst et
        exact tab_frm hpv fr (S.ok j _ ej)) (S.ok j t ej)
      subst es
      obtain ⟨_, us, hu, ru⟩ := S.ok j _ ej
      exact ⟨us, fr q _ hu (.inr (by simpa using S.dis j i q p fs s ej e hj)), RepL.keep fr.keep fs ru⟩
  · obtain ⟨a, h1⟩ := look ej
    obtain ⟨b, h2⟩ := look ek
    exact S.dis j k q q' a b h1 h2 hjk
  · obtain ⟨a, h1⟩ := look ej
    exact S.new j q a h1
  · by_cases hqp : q = p
    · exact ⟨_, by rw [hqp]; exact hp⟩
    · obtain ⟨o, ho⟩ := S.mh q hq
      exact ⟨o, fr q o ho (.inr (by simpa using hqp))⟩
def rCallS (S : SS) (i : Nat) (ra : RA) : RE := fun ρ Q => kOwn i (fun _ _ => ra ρ fun ws ρ1 => kOwn i (fun p s => ∃ g, ws = dats (S.args g) ∧ S.s0 g s ∧ S.pre g ∧ ∀ d s', S.post g d → S.s1 g s' → Q (.d d) (ρ1.set i (.own p s'))) ρ1) ρ
theorem de_callS {x : Str} {k : Nat} {ps : List Str} {S : SS} {ra : RA} {p ps' : Pos} {y : Str} {i : Nat} (G : Has X.prog X.w X.K X.mg X.base x k ps (spS X.K S)) (hr : Room k X.A) (hy : DE X B M (.Name y ps') (rVar i)) (ha : DA X B M es ra) (hg : Gl X x := by rfl) (hdb : (x == ("__debug__" : Str)) = false := by decide)
    (he : starEach (.Name y ps' :: es) X.env = (false, eval (.Name y ps') X.env) :: starEach es X.env := by rfl) (hpl : (backTo pos (starEach es X.env)).any (·.1) = false := by rfl) : DE X B M (.Call (.Name x p) (.Name y ps' :: es) [] pos) (rCallS S i ra) := by
  obtain ⟨f, fd, hm, hk, hb, F⟩ := G
  refine DE.mk' (pe_call F hr hg hm hk hb .nil passN (pa_cons hy.pe ha.pa he) hdb he hpl) (fun ρ P P' w q => q.imp fun _ _ q => ha.mo ρ _ _ (fun ws ρ1 q => q.imp fun p s ⟨g, e1, hs, pre, h1⟩ => ⟨g, e1, hs, pre, fun d s' hd hs' => w _ _ (h1 d s' hd hs')⟩) q) fun σ H Q ρ Sx hh => ?_
  obtain ⟨p0, s0, e0, q⟩ := hh.el
  refine into hy Sx (P := fun w ρ' => w = .o i ∧ ρ' = ρ) (rVar.mk (w := .o i) (by unfold rd; rw [e0]) ⟨rfl, rfl⟩) fun w ρ' vo H1 ⟨ew, eρ⟩ k1 o1 S1 r1 => ?_
  subst ew eρ
  refine intoA ha S1 q fun ws ρ1 vs H2 hh k2 o2 S2 r2 => ?_
  obtain ⟨p, s, e2, g, e1, hs, pre, h1⟩ := hh.el
  subst e1
  obtain ⟨p', s', e3, ev⟩ := WOk.keep k2 o2 r1
  rw [e2] at e3
  cases e3
  obtain ⟨vs0, hp, rr⟩ := S2.own_at e2
  refine ⟨g, p, vs0, s, vs, by rw [ev, List.append_nil], hp, rr, hs, dats_ok r2, pre, fun d s2 v H' vs' hd hs2 fr hp' rr' rv => ?_⟩
  exact h1 d s2 hd hs2 v H' ((k1.trans k2).trans fr.keep) ((o1.trans o2).trans (own_mut e2)) (S2.called e2 fr hp' rr') rv
/-- a call that gives data or a new list: as data -/
theorem de_callO {x : Str} {k : Nat} {ps : List Str} {S : FS} {ra : RA} {p : Pos} (G : Has X.prog X.w X.K X.mg X.base x k ps (spO X.K S)) (hr : Room k X.A) (ha : DA X B M (a :: es) ra) (hg : Gl X x := by rfl) (hdb : (x == ("__debug__" : Str)) = false := by decide) (he : starEach (a :: es) X.env = (false, eval a X.env) :: starEach es X.env := by rfl) (hpl : (backTo pos (starEach es X.env)).any (·.1) = false := by rfl) :
    DE X B M (.Call (.Name x p) (a :: es) [] pos) (rCall S ra fun _ => True) := by
  obtain ⟨f, fd, hm, hk, hb, F⟩ := G
  refine DE.mk' (pe_frzC (pe_call F hr hg hm hk hb .nil passN ha.pa hdb he hpl)) (mo_rCall ha.mo) fun σ H Q ρ Sx q => ?_
  refine intoA ha Sx q fun ws ρ1 vs H1 ⟨g, e1, pre, h1, h2⟩ k1 o1 S1 r1 => ?_
  subst e1
  rw [List.append_nil]
  refine ⟨g, dats_ok r1, pre, fun d v H' hd hl fr rv => .inl ?_, fun ds p vs' H' hd fr hn hp rv => .inr ⟨p, vs', rfl, hp, fun ob hc => ?_⟩⟩
  · exact h1 d hd v H' (k1.trans fr.keep) o1 (S1.same fr.same) rv
  · have n : NewAt X.K B ρ1 H' p ds := ⟨⟨vs', hp, rv⟩, S1.fresh_B hn, S1.fresh_own hn⟩
    obtain ⟨k2, S2⟩ := Sta.freeze (o := ob) (S1.same fr.same) hp (.inl n.nB) n.nO
    exact h1 _ hd _ _ ((k1.trans fr.keep).trans k2) o1 S2 ⟨p, vs', rfl, ⟨ob, upd_same⟩, RepL.keep k2 ds rv⟩
/-- x = f(..), such a call: x owns the new list, or holds the data -/
def rAsgC (i : Nat) (S : FS) (ra : RA) : RS := fun e ρ => ra ρ fun ws ρ1 => ∃ g, ws = dats (S.args g) ∧ S.pre g ∧ ∀ d, S.post g d → match d with
  | .lst ds => ∀ p, e.nx (ρ1.set i (.own p ds))
  | d => e.nx (ρ1.set i (.v d))
theorem ds_setC {x : Str} {k : Nat} {ps : List Str} {S : FS} {ra : RA} {p : Pos} {i : Nat} {y : Str} {py pos' : Pos} (hN : X.N.Nodup) (G : Has X.prog X.w X.K X.mg X.base x k ps (spO X.K S)) (hr : Room k X.A) (ha : DA X B M (a :: es) ra) (hi : X.N[i]? = some y := by rfl) (hy : Loc X.env.scope y := by first | exact Or.inl rfl | exact Or.inr rfl)
    (hs : swapsWith (.Call (.Name x p) (a :: es) [] pos) (some (.Name y py)) pos'.line X.env = pure false := by rfl) (hf : X.fn y = true ∨ X.env.scope.names.lookup y = some .local := by first | exact .inl rfl | exact .inr rfl | assumption)
    (hg : Gl X x := by rfl) (hdb : (x == ("__debug__" : Str)) = false := by decide) (he : starEach (a :: es) X.env = (false, eval a X.env) :: starEach es X.env := by rfl) (hpl : (backTo pos (starEach es X.env)).any (·.1) = false := by rfl) :
    DS X B M (.Assign [.Name y py] (.Call (.Name x p) (a :: es) [] pos) pos') (rAsgC i S ra) := by
  obtain ⟨f, fd, hm, hk, hb, F⟩ := G
  refine DS.mk' (ps_set hN hi hy (pe_call F hr hg hm hk hb .nil passN ha.pa hdb he hpl) hs hf) fun D σ H ρ en Sx q ok => ?_
  refine intoA ha Sx q fun ws ρ1 vs H1 ⟨g, e1, pre, h1⟩ k1 o1 S1 r1 => ?_
  subst e1
  rw [List.append_nil]
  refine ⟨g, dats_ok r1, pre, fun d v H' hd hl fr rv => ?_, fun ds p vs' H' hd fr hn hp rv => ?_⟩
  · have h2 := h1 d hd
    have S2 := (S1.same fr.same).put (i := i) rv
    refine ok.nx _ _ H' (k1.trans fr.keep) S2 ?_
    cases d with
    | lst ds => cases hl
    | _ => exact h2
  · exact ok.nx _ _ H' (k1.trans fr.keep) ((S1.same fr.same).putO hp rv (S1.fresh_B hn) (S1.fresh_own hn)) (h1 _ hd p)
/-! ### methods of a list that a slot owns -/
/-- x.append(e) -/
def rApp (i : Nat) (ra : RE) : RE := fun ρ Q => kOwn i (fun _ _ => ra ρ (kD fun x ρ1 => kOwn i (fun p ds => ds.length < 16777216 ∧ Q (.d .non) (ρ1.set i (.own p (ds ++ [x])))) ρ1)) ρ
theorem own_read {y : Str} {i : Nat} {py : Pos} (hy : DE X B M (.Name y py) (rVar i)) {σ : L2.St} {H : Hp} {ρ : En} (S : Sta X.K B M ρ σ H) {p0 : Addr} {s0 : List D} (e0 : ρ[i]? = some (.own p0 s0)) {Q : VK}
    (h : ∀ v H1, Keep H H1 → Sta X.K B M ρ σ H1 → v = .ref p0 → Q v H1) : tD X.K B M (rVar i) σ H Q :=
  into hy S (P := fun w ρ' => w = .o i ∧ ρ' = ρ) (rVar.mk (w := .o i) (by unfold rd; rw [e0]) ⟨rfl, rfl⟩) fun w ρ' vo H1 ⟨ew, eρ⟩ k1 o1 S1 r1 => by
    subst ew eρ
    obtain ⟨p', s', e3, ev⟩ := r1
    rw [e0] at e3
    cases e3
    exact h vo H1 k1 S1 ev
theorem tyV_own {K : PySem.W.Frag} {p : Addr} {H : Hp} {vs : List V} (hp : H p = some (.lst vs)) : tyV K "list" (.ref p) H := .inl ⟨rfl, _, .inl (.inl hp)⟩
theorem de_append {y : Str} {i : Nat} {py apos : Pos} {ra : RE} (hy : DE X B M (.Name y py) (rVar i)) (ha : DE X B M a ra)
    (hbase : attributeBase (.Name y py) "append" X.env (eval (.Name y py) X.env) = eval (.Name y py) X.env := by rfl)
    (hfew : ((backTo pos (starEach [a] X.env)).all (fun x => !x.1) && (backToKw pos (keywordEach [] X.env)).all (fun x => x.1.isSome)
      && decide ([a].length + ([] : List Keyword).length + (if ([] : List Keyword).isEmpty then 0 else 1) < 30)) = true := by rfl)
    (hline : (apos.endLine == pos.line) = true := by rfl) (hs : starEach [a] X.env = (false, eval a X.env) :: starEach [] X.env := by rfl) (hplain : (backTo pos (starEach [] X.env)).any (·.1) = false := by rfl) :
    DE X B M (.Call (.Attribute (.Name y py) "append" apos) [a] [] pos) (rApp i ra) := by
  refine DE.mk' (pe_bm PySem.F.plainAttrs_list PySem.F.slot_list_append PySem.F.type_list_append mt_append hy.pe (pa_cons ha.pe pa_nil hs) hbase hfew hline hs hplain) (fun ρ P P' w q => q.imp fun _ _ q => ha.mo ρ _ _ (fun w1 ρ1 q => by
    obtain ⟨x, rfl, q⟩ := q.el
    exact q.imp fun p ds ⟨hl, q⟩ => ⟨hl, w _ _ q⟩) q) fun σ H Q ρ S hh => ?_
  obtain ⟨p0, s0, e0, q⟩ := hh.el
  refine own_read hy S e0 fun v H1 k1 S1 ev => ?_
  subst ev
  obtain ⟨vs0, hp0, _⟩ := S1.own_at e0
  refine ⟨tyV_own hp0, ?_⟩
  refine into ha S1 q fun w1 ρ1 v H2 hh k2 o2 S2 r2 => ?_
  obtain ⟨x, e1, hh⟩ := hh.el
  obtain ⟨p, ds, e2, hl, q2⟩ := hh.el
  subst e1
  obtain ⟨s', e3⟩ := o2 i p0 s0 e0
  rw [e2] at e3
  cases e3
  obtain ⟨vs, hp, rr⟩ := S2.own_at e2
  refine ⟨p0, vs, v, rfl, rfl, hp, by rw [RepL.length rr, sizeLine_eq]; exact hl, ?_⟩
  exact q2 .non _ ((k1.trans k2).trans (Sta.keep_mut (i := i) hp)) (o2.trans (own_mut e2)) (S2.mut e2 hp (RepL.snoc rr r2)) rfl
/-- x.pop() -/
def rPopL (i : Nat) : RE := fun ρ Q => kOwn i (fun p ds => ∃ d, ds[ds.length - 1]? = some d ∧ Q (.d d) (ρ.set i (.own p ds.dropLast))) ρ
theorem RepL.dropLast {K : PySem.W.Frag} {H : Hp} {ds : List D} {vs : List V} (r : RepL K H ds vs) : RepL K H ds.dropLast vs.dropLast := by
  rw [List.dropLast_eq_take, List.dropLast_eq_take, RepL.length r]
  exact RepL.take _ r
theorem de_pop {y : Str} {i : Nat} {py apos : Pos} (hy : DE X B M (.Name y py) (rVar i)) (hbase : attributeBase (.Name y py) "pop" X.env (eval (.Name y py) X.env) = eval (.Name y py) X.env := by rfl) (hline : (apos.endLine == pos.line) = true := by rfl) :
    DE X B M (.Call (.Attribute (.Name y py) "pop" apos) [] [] pos) (rPopL i) := by
  refine DE.mk' (pe_bm0 PySem.F.plainAttrs_list PySem.F.slot_list_pop PySem.F.type_list_pop mt_pop hy.pe hbase hline) (fun ρ P P' w q => q.imp fun p ds ⟨d, e2, q⟩ => ⟨d, e2, w _ _ q⟩) fun σ H Q ρ S hh => ?_
  obtain ⟨p, ds, e1, d, e2, q⟩ := hh.el
  refine own_read hy S e1 fun v H1 k1 S1 ev => ?_
  subst ev
  obtain ⟨vs, hp, rr⟩ := S1.own_at e1
  obtain ⟨u, hu, ru⟩ := RepL.get rr e2
  refine ⟨tyV_own hp, p, vs, u, rfl, rfl, hp, by rw [RepL.length rr]; exact hu, ?_⟩
  exact q u _ (k1.trans (Sta.keep_mut (i := i) hp)) (own_mut e1) (S1.mut e1 hp (RepL.dropLast rr)) (Rep.keep (Sta.keep_mut (i := i) hp) d ru)
/-- x.pop(e) -/
def rPopI (i : Nat) (ra : RE) : RE := fun ρ Q => kOwn i (fun _ _ => ra ρ (kInt fun z ρ1 => kOwn i (fun p ds => ∃ j d, 0 ≤ z ∧ z = (j : Nat) ∧ ds[j]? = some d ∧ ds.length < 2 ^ 62 ∧ Q (.d d) (ρ1.set i (.own p (ds.eraseIdx j)))) ρ1)) ρ
theorem de_popI {y : Str} {i : Nat} {py apos : Pos} {ra : RE} (hy : DE X B M (.Name y py) (rVar i)) (ha : DE X B M a ra)
    (hbase : attributeBase (.Name y py) "pop" X.env (eval (.Name y py) X.env) = eval (.Name y py) X.env := by rfl)
    (hfew : ((backTo pos (starEach [a] X.env)).all (fun x => !x.1) && (backToKw pos (keywordEach [] X.env)).all (fun x => x.1.isSome)
      && decide ([a].length + ([] : List Keyword).length + (if ([] : List Keyword).isEmpty then 0 else 1) < 30)) = true := by rfl)
    (hline : (apos.endLine == pos.line) = true := by rfl) (hs : starEach [a] X.env = (false, eval a X.env) :: starEach [] X.env := by rfl) (hplain : (backTo pos (starEach [] X.env)).any (·.1) = false := by rfl) :
    DE X B M (.Call (.Attribute (.Name y py) "pop" apos) [a] [] pos) (rPopI i ra) := by
  refine DE.mk' (pe_bm PySem.F.plainAttrs_list PySem.F.slot_list_pop PySem.F.type_list_pop mt_popAt hy.pe (pa_cons ha.pe pa_nil hs) hbase hfew hline hs hplain) (fun ρ P P' w q => q.imp fun _ _ q => ha.mo ρ _ _ (fun w1 ρ1 q => by
    obtain ⟨z, rfl, q⟩ := q.el
    exact q.imp fun p ds ⟨j, d, h0, ez, ej, hl, q⟩ => ⟨j, d, h0, ez, ej, hl, w _ _ q⟩) q) fun σ H Q ρ S hh => ?_
  obtain ⟨p0, s0, e0, q⟩ := hh.el
  refine own_read hy S e0 fun v H1 k1 S1 ev => ?_
  subst ev
  obtain ⟨vs0, hp0, _⟩ := S1.own_at e0
  refine ⟨tyV_own hp0, ?_⟩
  refine into ha S1 q fun w1 ρ1 v H2 hh k2 o2 S2 r2 => ?_
  obtain ⟨z, e1, hh⟩ := hh.el
  obtain ⟨p, ds, e2, j, d, h0, ez, ej, hl, q2⟩ := hh.el
  subst e1
  obtain ⟨s', e3⟩ := o2 i p0 s0 e0
  rw [e2] at e3
  cases e3
  obtain ⟨vs, hp, rr⟩ := S2.own_at e2
  obtain ⟨u, hu, ru⟩ := RepL.get rr ej
  obtain rfl : v = V.int z := r2
  have hj : j < ds.length := (List.getElem?_eq_some_iff.mp ej).1
  have hsq : seqIndex? z vs.length = some j := by
    have hx : ixN vs.length z = some j := by
      unfold ixN
      rw [if_pos h0, RepL.length rr, if_pos (by omega)]
      congr 1
      omega
    exact (ixN_seq hx).1
  refine ⟨p0, vs, z, j, u, rfl, rfl, hp, by omega, by omega, hsq, hu, ?_⟩
  exact q2 u _ ((k1.trans k2).trans (Sta.keep_mut (i := i) hp)) (o2.trans (own_mut e2)) (S2.mut e2 hp (RepL.eraseIdx j rr)) (Rep.keep (Sta.keep_mut (i := i) hp) d ru)
/-! ### comprehensions -/
def rYes : RT := fun ρ Q => Q true ρ
structure DTs (X : Cx) (B : Hp) (M : List Addr) (ifs : List Expr) (r : RT) : Prop where
  pts : PTs X ifs (tDT X.K B M r)
  mo : MonoT r
theorem pts_imp {ifs : List Expr} {t t' : TT} (h : PTs X ifs t) (w : ∀ σ H Q, t' σ H Q → t σ H Q) : PTs X ifs t' := ⟨fun pins s σ H Q I q => h.run pins s σ H Q I (w σ H Q q)⟩
theorem dts_nil : DTs X B M [] rYes := ⟨pts_imp pts_nil fun σ H Q ⟨ρ, S, q⟩ => q H (Keep.refl _) (OwnEq.refl _) S, fun ρ P P' w q => w _ _ q⟩
theorem dts_one {r : RT} (h : DT X B M c r) : DTs X B M [c] r := ⟨pts_one h.pt, h.mo⟩
/-- [e for x in it if t], x in slot i -/
def rLc (i : Nat) (ri : RI) (rt : RT) (re : RE) : RN := fun ρ Q => ri ρ fun n it ok ρ1 => n ≤ 16777216 ∧ ∃ I : Nat → List D → En → Prop, I 0 [] (ρ1.set i .un) ∧ (∀ k acc ρ2, k ≤ n → I k acc ρ2 → ok ρ2) ∧
  (∀ k d acc ρ2, k < n → it k d → I k acc ρ2 → rt (ρ2.set i (.v d)) fun b ρ3 => if b = true then re ρ3 (kD fun x ρ4 => I (k + 1) (acc ++ [x]) (ρ4.set i .un)) else I (k + 1) acc (ρ3.set i .un)) ∧
  (∀ acc ρ2, I n acc ρ2 → Q acc ρ2)
/-- a slot forgotten -/
theorem Sta.forget {K : PySem.W.Frag} {ρ : En} {σ σ' : L2.St} {H : Hp} (S : Sta K B M ρ σ H) (i : Nat) (hl : σ'.length = σ.length) (hσ : ∀ j, j ≠ i → σ'[j]? = σ[j]?) : Sta K B M (ρ.set i .un) σ' H := by
  have look : ∀ {j : Nat} {q fs}, (ρ.set i Slot.un)[j]? = some (Slot.own q fs) → j ≠ i ∧ ρ[j]? = some (Slot.own q fs) := fun {j q fs} h => by
    by_cases hj : j = i
    · subst hj
      have hlt : j < (ρ.set j Slot.un).length := (List.getElem?_eq_some_iff.mp h).1
      rw [List.length_set] at hlt
      rw [List.getElem?_set_self hlt] at h
      cases h
    · rw [List.getElem?_set_ne (Ne.symm hj)] at h
      exact ⟨hj, h⟩
  refine ⟨S.frm, fun j s ej => ?_, fun j k q q' fs gs ej ek => S.dis j k q q' fs gs (look ej).2 (look ek).2, fun j q fs ej => S.new j q fs (look ej).2, S.mh, fun j P q h => by rw [hl]; exact S.tbi j P q (tab_set h fun _ _ z => by cases z)⟩
  by_cases hj : j = i
  · subst hj
    have hlt : j < (ρ.set j Slot.un).length := (List.getElem?_eq_some_iff.mp ej).1
    rw [List.length_set] at hlt
    rw [List.getElem?_set_self hlt] at ej
    cases ej
    exact trivial
  · rw [List.getElem?_set_ne (Ne.symm hj)] at ej
    rw [hσ j hj]
    exact S.ok j s ej
theorem wipe1 (σ : L2.St) (i : Nat) : wipe σ [i] = σ.set i none := rfl
theorem own_forget {ρ ρ' : En} {i : Nat} (h : OwnEq ρ ρ') (hi : ∀ p ds, ρ[i]? ≠ some (.own p ds)) : OwnEq ρ (ρ'.set i .un) := fun j p ds e => by
  have hj : j ≠ i := fun z => hi p ds (z ▸ e)
  obtain ⟨ds', h'⟩ := h j p ds e
  exact ⟨ds', by rw [List.getElem?_set_ne (Ne.symm hj)]; exact h'⟩
end
end N
/-! N5 -/
set_option Elab.async false
set_option linter.all false
set_option maxRecDepth 100000
set_option maxHeartbeats 1000000
/-! N5: comprehensions. -/
namespace N
open PySem PySem.Spec PyProof.Rows L2
/-- the addresses of the lists that slots own -/
def ownL : En → List Addr
  | [] => []
  | .own p _ :: r => p :: ownL r
  | _ :: r => ownL r
theorem mem_ownL : ∀ {ρ : En} {q : Addr}, q ∈ ownL ρ ↔ ∃ (i : Nat) (ds : List D), ρ[i]? = some (Slot.own q ds)
  | [], q => by simp [ownL]
  | s :: r, q => by
    have ih := mem_ownL (ρ := r) (q := q)
    constructor
    · intro h
      cases s with
      | own p ds =>
        rcases List.mem_cons.mp h with e | h
        · exact ⟨0, ds, by rw [e]; rfl⟩
        · obtain ⟨i, fs, e⟩ := ih.mp h
          exact ⟨i + 1, fs, by simpa using e⟩
      | un =>
        obtain ⟨i, fs, e⟩ := ih.mp h
        exact ⟨i + 1, fs, by simpa using e⟩
      | v d =>
        obtain ⟨i, fs, e⟩ := ih.mp h
        exact ⟨i + 1, fs, by simpa using e⟩
      | tab P q =>
        obtain ⟨i, fs, e⟩ := ih.mp h
        exact ⟨i + 1, fs, by simpa using e⟩
    · rintro ⟨i, fs, e⟩
      cases i with
      | zero =>
        have e' : s = .own q fs := by simpa using e
        rw [e']
        exact List.mem_cons_self
      | succ i =>
        have h : q ∈ ownL r := ih.mpr ⟨i, fs, by simpa using e⟩
        cases s with
        | own p ds => exact List.mem_cons_of_mem _ h
        | un => exact h
        | v d => exact h
        | tab P q => exact h
section
variable {K : PySem.W.Frag} {B : Hp} {M : List Addr} {ρ ρ' : En} {σ σ' : L2.St} {H H' : Hp}
/-- the same state, seen from here on -/
theorem Sta.rebase (S : Sta K B M ρ σ H) : Sta K H (ownL ρ ++ M) ρ σ H where
  frm := Frm.refl _ _
  ok := S.ok
  dis := S.dis
  new := fun i p ds e => .inr (List.mem_append_left _ (mem_ownL.mpr ⟨i, ds, e⟩))
  mh := fun p hp => by
    rcases List.mem_append.mp hp with h | h
    · obtain ⟨i, ds, e⟩ := mem_ownL.mp h
      obtain ⟨vs, h, _⟩ := S.own_at e
      exact ⟨_, h⟩
    · exact S.mh p h
  tbi := S.tbi
/-- and back -/
theorem Sta.unbase (S : Sta K B M ρ σ H) (S' : Sta K H (ownL ρ ++ M) ρ' σ' H') : Sta K B M ρ' σ' H' := by
  have own_new : ∀ p, p ∈ ownL ρ → B p = none ∨ p ∈ M := fun p hp => by
    obtain ⟨i, ds, e⟩ := mem_ownL.mp hp
    exact S.new i p ds e
  refine ⟨fun b o hb im => ?_, S'.ok, S'.dis, fun i p ds e => ?_, fun p hp => ?_, S'.tbi⟩
  · have h1 := S.frm b o hb im
    rcases im with im | im
    · exact S'.frm b o h1 (.inl im)
    · by_cases hm : b ∈ ownL ρ ++ M
      · rcases List.mem_append.mp hm with h | h
        · rcases own_new b h with z | z
          · rw [hb] at z
            cases z
          · exact absurd z im
        · exact absurd h im
      · exact S'.frm b o h1 (.inr hm)
  · rcases S'.new i p ds e with h | h
    · exact .inl (S.fresh_B h)
    · rcases List.mem_append.mp h with h | h
      · exact own_new p h
      · exact .inr h
  · exact S'.mh p (List.mem_append_right _ hp)
end
section
variable {X : Cx} {B : Hp} {M : List Addr} {e a b c : Expr} {es : List Expr} {pos : Pos}
theorem lc_imp {i : Nat} {ri : RI} {rt : RT} {re : RE} {te : TE} {tt : TT} (him : MonoI ri) (mt : MonoT rt) (me : MonoE re) (ht : ∀ B' M' σ H Q, tDT X.K B' M' rt σ H Q → tt σ H Q) (he : ∀ B' M' σ H Q, tD X.K B' M' re σ H Q → te σ H Q)
    {σ : L2.St} {H : Hp} {ρ : En} {Q : VK} (S : Sta X.K B M ρ σ H) (hun : ∀ p ds, ρ[i]? ≠ some (.own p ds)) (q : rLc i ri rt re ρ (kN X.K B M ρ σ H Q)) :
    tLc (fun σ H R => ∃ ρ, Sta X.K B M ρ σ H ∧ ri ρ fun n it ok ρ1 => ∀ J H1, Keep H H1 → OwnEq ρ ρ1 → Sta X.K B M ρ1 σ H1 → Walks X.K B M H1 J n it ok → R J H1) (gName i) tt te [i] σ H Q := by
  refine ⟨ρ, S, him ρ _ _ (fun n it okk ρ1 ⟨hn, I, i0, iok, istep, iend⟩ => ?_) q⟩
  intro J H1 k1 o1 S1 wk A nA
  have hσ : ∀ (τ : L2.St) (j : Nat), j ≠ i → (τ.set i none)[j]? = τ[j]? := fun τ j hj => List.getElem?_set_ne (Ne.symm hj)
  have smD : Same H1 (upd H1 A (.lst [])) := same_upd nA
  have nM : A ∉ M := fun h => by
    obtain ⟨o, ho⟩ := S1.mh A h
    rw [nA] at ho
    cases ho
  have nB : B A = none := S1.fresh_B nA
  have unS : ∀ (τ : En), i < τ.length → (τ.set i Slot.un)[i]? = some Slot.un := fun τ h => List.getElem?_set_self h
  have hiσ : ∀ {τ : En} {s : Slot}, (τ.set i s)[i]? = none ∨ i < τ.length := fun {τ s} => by
    by_cases h : i < τ.length
    · exact .inr h
    · exact .inl (List.getElem?_eq_none_iff.mpr (by rw [List.length_set]; omega))
  have end_ : ∀ {acc : List D} {ρ2 : En} {H' : Hp} {vs : List V}, (∀ s, ρ2[i]? = some s → s = .un) → Sta X.K B M ρ2 (wipe σ [i]) H' → Sta X.K B M ρ2 σ H' := fun {acc ρ2 H' vs} eu S2 => by
    refine ⟨S2.frm, fun j s ej => ?_, S2.dis, S2.new, S2.mh, fun j P q e => by have := S2.tbi j P q e; rw [wipe_length] at this; exact this⟩
    have h2 := S2.ok j s ej
    by_cases hj : j = i
    · rw [hj] at ej
      rw [eu s ej]
      exact trivial
    · rw [wipe1, hσ σ j hj] at h2
      exact h2
  let Inv' : Nat → Hp → Prop := fun k H' => k ≤ n ∧ ∃ acc ρ2, I k acc ρ2 ∧ (∀ s, ρ2[i]? = some s → s = .un) ∧ Keep H1 H' ∧ OwnEq ρ ρ2 ∧ Sta X.K B M ρ2 (wipe σ [i]) H' ∧ NewAt X.K B ρ2 H' A acc ∧ acc.length ≤ k
  have unOnly : ∀ (τ : En) s, (τ.set i Slot.un)[i]? = some s → s = .un := fun τ s h => by
    have hlt : i < (τ.set i Slot.un).length := (List.getElem?_eq_some_iff.mp h).1
    rw [List.length_set] at hlt
    rw [List.getElem?_set_self hlt] at h
    cases h
    rfl
  have start0 : Inv' 0 (upd H1 A (.lst [])) := by
    have S2 : Sta X.K B M (ρ1.set i .un) (wipe σ [i]) H1 := S1.forget i (by rw [wipe_length]) (hσ σ)
    obtain ⟨S3, n3⟩ := NewAt.laid S2 nA (ds := []) (vs := []) rfl
    exact ⟨Nat.zero_le _, [], _, i0, unOnly ρ1, Keep.of smD, own_forget o1 hun, S3, n3, Nat.le_refl _⟩
  refine ⟨fun k m H' => m = n - k ∧ Inv' k H', ⟨n, rfl, start0⟩, ?_⟩
  rintro k m H' ⟨rfl, hk, acc, ρ2, ik, eu, kk, oo, S2, nw, hl⟩
  have ok2 := iok k acc ρ2 hk ik
  by_cases hlt : k < n
  · refine .inr ⟨wk.go k ρ2 _ H' kk S2 ok2 hlt, Inv' (k + 1), fun H'' h => ⟨n - (k + 1), by omega, rfl, h⟩, fun x H3 y => ?_⟩
    obtain ⟨sm, d, hit, rd⟩ := wk.yld k ρ2 _ H' x H3 kk S2 ok2 hlt y
    have S3 := (S2.same sm).put (i := i) rd
    refine ⟨by show wipe ((wipe σ [i]).set i (some x)) [i] = wipe σ [i]; rw [wipe1, wipe1, List.set_set, List.set_set], ?_⟩
    have kk3 := kk.trans (Keep.of sm)
    obtain ⟨vs, hD, rD⟩ := nw.at_
    have hD3 : H3 A = some (.lst vs) := sm _ _ hD
    have ow3 : OwnEq ρ (ρ2.set i (.v d)) := fun j p ds h => by
      obtain ⟨ds', h'⟩ := oo j p ds h
      have hj : j ≠ i := fun z => hun p ds (z ▸ h)
      exact ⟨ds', by rw [List.getElem?_set_ne (Ne.symm hj)]; exact h'⟩
    have nown : ∀ {ρ3 : En}, (∀ q ∈ ownL ρ3, q ≠ A) → ∀ (j : Nat) q es, ρ3[j]? = some (Slot.own q es) → q ≠ A := fun {ρ3} h j q es e => h q (mem_ownL.mpr ⟨j, es, e⟩)
    have nD2 : A ∉ ownL (ρ2.set i (Slot.v d)) ++ M := fun h => by
      rcases List.mem_append.mp h with h | h
      · obtain ⟨j, es, e⟩ := mem_ownL.mp h
        by_cases hj : j = i
        · rw [hj] at e
          have hlt : i < (ρ2.set i (Slot.v d)).length := (List.getElem?_eq_some_iff.mp e).1
          rw [List.length_set] at hlt
          rw [List.getElem?_set_self hlt] at e
          cases e
        · rw [List.getElem?_set_ne (Ne.symm hj)] at e
          exact nw.nO j A es e rfl
      · exact nM h
    have S3b := Sta.rebase S3
    -- what a part leaves: the list under construction stands
    have left : ∀ {ρ4 : En} {H4 : Hp}, Sta X.K H3 (ownL (ρ2.set i (Slot.v d)) ++ M) ρ4 ((wipe σ [i]).set i (some x)) H4 → OwnEq (ρ2.set i (.v d)) ρ4 → Keep H3 H4 →
        Sta X.K B M (ρ4.set i .un) (wipe σ [i]) H4 ∧ NewAt X.K B (ρ4.set i .un) H4 A acc ∧ OwnEq ρ (ρ4.set i .un) ∧ H4 A = some (.lst vs) ∧ RepL X.K H4 acc vs := fun {ρ4 H4} S4 o4 k4 => by
      have S5 := Sta.unbase S3 S4
      have S6 : Sta X.K B M (ρ4.set i .un) (wipe σ [i]) H4 := S5.forget i (by rw [List.length_set]) (fun j hj => by rw [List.getElem?_set_ne (Ne.symm hj)])
      have hA4 : H4 A = some (.lst vs) := S4.frm A _ hD3 (.inr nD2)
      have rA4 := RepL.keep ((Keep.of sm).trans k4) acc rD
      refine ⟨S6, ⟨⟨vs, hA4, rA4⟩, nB, fun j q es e z => ?_⟩, own_forget (ow3.trans o4) hun, hA4, rA4⟩
      by_cases hj : j = i
      · rw [hj] at e
        have := unOnly ρ4 _ e
        cases this
      · rw [List.getElem?_set_ne (Ne.symm hj)] at e
        rcases S4.new j q es e with h | h
        · rw [z, hD3] at h
          cases h
        · exact nD2 (z ▸ h)
    refine ht _ _ _ _ _ (intoT mt S3b (istep k d acc ρ2 hlt hit ik) fun b ρ3 H4 q3 k4 o4 S4 => ?_)
    cases b with
    | false =>
      obtain ⟨S6, n6, o6, _, _⟩ := left S4 o4 k4
      exact ⟨hlt, acc, _, q3, unOnly ρ3, kk3.trans k4, o6, S6, n6, by omega⟩
    | true =>
      refine he _ _ _ _ _ ⟨ρ3, S4, me ρ3 _ _ (fun w ρ4 hh => ?_) q3⟩
      obtain ⟨x, ew, i4⟩ := kD.el hh
      subst ew
      intro v H5 k5 o5 S5 r5
      obtain ⟨S6, n6, o6, hA, rA⟩ := left S5 (o4.trans o5) (k4.trans k5)
      refine ⟨vs, hA, ?_, ?_⟩
      · rw [RepL.length rA, sizeLine_eq]
        omega
      · have kA : Keep H5 (upd H5 A (.lst (vs ++ [v]))) := Sta.keep_mut (i := 0) hA
        have S7 : Sta X.K B M (ρ4.set i .un) (wipe σ [i]) (upd H5 A (.lst (vs ++ [v]))) := by
          refine ⟨fun b o hb im => ?_, fun j s ej => ?_, S6.dis, S6.new, fun p hp => ?_, S6.tbi⟩
          · have hb2 : b ≠ A := fun z => by
              rw [z, nB] at hb
              cases hb
            rw [upd_ne hb2]
            exact S6.frm b o hb im
          · refine SlotOk.keep kA (fun q fs es => ?_) (fun P q et => by
              subst et
              exact tab_upd hA (S6.ok j _ ej)) (S6.ok j s ej)
            subst es
            obtain ⟨_, us, hu, ru⟩ := S6.ok j _ ej
            exact ⟨us, by rw [upd_ne (n6.nO j q fs ej)]; exact hu, RepL.keep kA fs ru⟩
          · have hb2 : p ≠ A := fun z => nM (z ▸ hp)
            rw [upd_ne hb2]
            exact S6.mh p hp
        exact ⟨hlt, acc ++ [x], _, i4, unOnly ρ4, ((kk3.trans k4).trans k5).trans kA, o6, S7, ⟨⟨vs ++ [v], upd_same, RepL.keep kA _ (RepL.snoc rA r5)⟩, nB, n6.nO⟩, by rw [List.length_append, List.length_singleton]; omega⟩
  · have e : k = n := by omega
    subst e
    exact .inl ⟨wk.stop ρ2 _ H' kk S2 ok2, iend acc ρ2 ik A H' (k1.trans kk) oo (end_ (acc := acc) (vs := []) eu S2) nw⟩
/-- that slot i owns nothing -/
def free (i : Nat) (ρ : En) : Prop := match ρ[i]? with
  | some (.own _ _) => False
  | _ => True
theorem free_of {i : Nat} {ρ : En} (h : free i ρ) : ∀ p ds, ρ[i]? ≠ some (Slot.own p ds) := fun p ds e => by
  unfold free at h
  rw [e] at h
  exact h
def rLcF (i : Nat) (ri : RI) (rt : RT) (re : RE) : RN := fun ρ Q => free i ρ ∧ rLc i ri rt re ρ Q
theorem mo_rLc {i : Nat} {ri : RI} {rt : RT} {re : RE} (hi : MonoI ri) : MonoN (rLcF i ri rt re) := fun ρ P P' w ⟨z, q⟩ => ⟨z, hi ρ _ _ (fun n it ok ρ1 ⟨hn, I, h0, h1, h2, h3⟩ => ⟨hn, I, h0, h1, h2, fun acc ρ2 h => w _ _ (h3 acc ρ2 h)⟩) q⟩
/-- [e for x in it if t] -/
theorem dn_lc {x : Str} {px : Pos} {elt iter : Expr} {ifs : List Expr} {scope : Scope} {i : Nat} {ri : RI} {rt : RT} {re : RE} (hN : X.N.Nodup) (hi : DI X B M (.Name x px) iter ri) (ok : BlkOk X.N X.env.scope scope [(x, i)])
    (ht : ∀ (B' : Hp) (M' : List Addr) (s : Shared) (H : Hp) (C : Addr) (cl : List (Str × Addr)) (fp : List Addr), DTs (X.blk s H scope (compEnvC scope cl C X.env) fp) B' M' ifs rt)
    (he : ∀ (B' : Hp) (M' : List Addr) (s : Shared) (H : Hp) (C : Addr) (cl : List (Str × Addr)) (fp : List Addr), DE (X.blk s H scope (compEnvC scope cl C X.env) fp) B' M' elt re)
    (hg : ∀ (s : Shared) (H : Hp) (C : Addr) (cl : List (Str × Addr)) (fp : List Addr), PG (X.blk s H scope (compEnvC scope cl C X.env) fp) (.Name x px) (gName i))
    (hc : X.calm = true := by rfl) (hs : ∀ x, foldedSetIterable iter X.env x = pure x := by intro _; rfl) :
    DN X B M (.ListComp elt [⟨.Name x px, iter, ifs, 0⟩] scope pos) (rLcF i ri rt re) := by
  have mt : MonoT rt := (ht B M X.s_0 (fun _ => none) 0 [] []).mo
  have me : MonoE re := (he B M X.s_0 (fun _ => none) 0 [] []).mo
  refine DN.mk' (pe_lc (own := [(x, i)]) (g := gName i) (tt := fun σ H Q => ∃ B' M', tDT X.K B' M' rt σ H Q) (te := fun σ H Q => ∃ B' M', tD X.K B' M' re σ H Q) hc hN hi.pi ok hg
    (fun s H C cl fp => ⟨fun pins s' σ H' Q I ⟨B', M', q⟩ => (ht B' M' s H C cl fp).pts.run pins s' σ H' Q I q⟩) (fun s H C cl fp => ⟨fun pins s' σ H' Q I ⟨B', M', q⟩ => (he B' M' s H C cl fp).pe.run pins s' σ H' Q I q⟩) hs) (mo_rLc hi.mo) fun σ H Q ρ S ⟨z, q⟩ => ?_
  exact lc_imp hi.mo mt me (fun B' M' σ H Q h => ⟨B', M', h⟩) (fun B' M' σ H Q h => ⟨B', M', h⟩) S (free_of z) q
theorem ds_setLcO {j : Nat} {y : Str} {py : Pos} {x : Str} {px : Pos} {elt iter : Expr} {ifs : List Expr} {scope : Scope} {i : Nat} {ri : RI} {rt : RT} {re : RE} {spos : Pos} (hN : X.N.Nodup) (hi : DI X B M (.Name x px) iter ri) (ok : BlkOk X.N X.env.scope scope [(x, i)])
    (ht : ∀ (B' : Hp) (M' : List Addr) (s : Shared) (H : Hp) (C : Addr) (cl : List (Str × Addr)) (fp : List Addr), DTs (X.blk s H scope (compEnvC scope cl C X.env) fp) B' M' ifs rt)
    (he : ∀ (B' : Hp) (M' : List Addr) (s : Shared) (H : Hp) (C : Addr) (cl : List (Str × Addr)) (fp : List Addr), DE (X.blk s H scope (compEnvC scope cl C X.env) fp) B' M' elt re)
    (hg : ∀ (s : Shared) (H : Hp) (C : Addr) (cl : List (Str × Addr)) (fp : List Addr), PG (X.blk s H scope (compEnvC scope cl C X.env) fp) (.Name x px) (gName i))
    (hsw : swapsWith (.ListComp elt [⟨.Name x px, iter, ifs, 0⟩] scope pos) (some (.Name y py)) spos.line X.env = pure true)
    (hy : X.N[j]? = some y := by rfl) (hyl : X.env.scope.names.lookup y = some .local := by rfl) (hc : X.calm = true := by rfl) (hs : ∀ x, foldedSetIterable iter X.env x = pure x := by intro _; rfl) :
    DS X B M (.Assign [.Name y py] (.ListComp elt [⟨.Name x px, iter, ifs, 0⟩] scope pos) spos) (rAsgO j (rLcF i ri rt re)) := by
  have mt : MonoT rt := (ht B M X.s_0 (fun _ => none) 0 [] []).mo
  have me : MonoE re := (he B M X.s_0 (fun _ => none) 0 [] []).mo
  refine DS.mk' (ps_setLc (i := j) (own := [(x, i)]) (g := gName i) (tt := fun σ H Q => ∃ B' M', tDT X.K B' M' rt σ H Q) (te := fun σ H Q => ∃ B' M', tD X.K B' M' re σ H Q) hc hN hy hyl hsw hi.pi ok hg
    (fun s H C cl fp => ⟨fun pins s' σ H' Q I ⟨B', M', q⟩ => (ht B' M' s H C cl fp).pts.run pins s' σ H' Q I q⟩) (fun s H C cl fp => ⟨fun pins s' σ H' Q I ⟨B', M', q⟩ => (he B' M' s H C cl fp).pe.run pins s' σ H' Q I q⟩) hs) fun D σ H ρ en S ⟨z, q⟩ okk => ?_
  refine lc_imp hi.mo mt me (fun B' M' σ H Q h => ⟨B', M', h⟩) (fun B' M' σ H Q h => ⟨B', M', h⟩) S (free_of z) (hi.mo ρ _ _ (fun n it ok ρ1 ⟨hn, I, h0, h1, h2, h3⟩ => ⟨hn, I, h0, h1, h2, fun acc ρ2 h => ?_⟩) q)
  intro p H1 k1 o1 S1 n1
  obtain ⟨vs, hp, rr⟩ := n1.at_
  exact okk.nx _ _ H1 k1 (S1.putO hp rr n1.nB n1.nO) (h3 acc ρ2 h p)
/-- the same, its value data -/
theorem ds_setLc {j : Nat} {y : Str} {py : Pos} {x : Str} {px : Pos} {elt iter : Expr} {ifs : List Expr} {scope : Scope} {i : Nat} {ri : RI} {rt : RT} {re : RE} {spos : Pos} {sts : List Stmt} {r2 : RS}
    (h : DS X B M (.Assign [.Name y py] (.ListComp elt [⟨.Name x px, iter, ifs, 0⟩] scope pos) spos) (rAsgO j (rLcF i ri rt re))) (h2 : DSs X B M sts r2) :
    DSs X B M (.Assign [.Name y py] (.ListComp elt [⟨.Name x px, iter, ifs, 0⟩] scope pos) spos :: sts) (rSeq (rAsgO j (rLcF i ri rt re)) (rLock j r2)) := ds_cons h (ds_lock j h2)
end
end N
/-! N6 -/
set_option Elab.async false
set_option linter.all false
set_option maxRecDepth 100000
set_option maxHeartbeats 1000000
/-! N6: types, identity, membership, equality of lists, slices, further methods, raise. -/
namespace N
open PySem PySem.Spec PyProof.Rows L2
/-! ### types -/
theorem bt_bool : bootBuiltins "bool" = some (.type "bool") := by decide +kernel
theorem bt_str : bootBuiltins "str" = some (.type "str") := by decide +kernel
theorem bt_list : bootBuiltins "list" = some (.type "list") := by decide +kernel
theorem bt_tuple : bootBuiltins "tuple" = some (.type "tuple") := by decide +kernel
theorem bt_dict : bootBuiltins "dict" = some (.type "dict") := by decide +kernel
inductive T7 where
  | non | bl | int | str | tup | lst | dic
  deriving DecidableEq
def T7.nm : T7 → String
  | .non => "NoneType" | .bl => "bool" | .int => "int" | .str => "str" | .tup => "tuple" | .lst => "list" | .dic => "dict"
/-- isinstance over these -/
def isa : T7 → T7 → Bool
  | .bl, .int => true
  | .non, .non | .bl, .bl | .int, .int | .str, .str | .tup, .tup | .lst, .lst | .dic, .dic => true
  | _, _ => false
theorem isa_ok (a b : T7) : kitB a.nm b.nm = some (isa a b) := by
  cases a <;> cases b <;> decide +kernel
def ty7 : D → Option T7
  | .non => some .non | .bl _ => some .bl | .int _ => some .int | .str _ => some .str | .tup _ => some .tup | .lst _ => some .lst | .dic _ => some .dic
  | _ => none
def tyW : W → Option T7
  | .d x => ty7 x
  | .o _ => some .lst
section
variable {K : PySem.W.Frag} {B H : Hp} {M : List Addr} {ρ : En} {σ : L2.St}
theorem tyx_of (S : Sta K B M ρ σ H) {w : W} {v : V} {t : T7} (r : WOk K H ρ w v) (h : tyW w = some t) : TyX K H v (.type t.nm) := by
  cases w with
  | o i =>
    cases h
    obtain ⟨p, ds, e, rfl⟩ := r
    obtain ⟨vs, hp, _⟩ := S.own_at e
    exact .base (.lst hp)
  | d x =>
    cases x with
    | non => cases h; rw [show v = _ from r]; exact .base .non
    | bl b => cases h; rw [show v = _ from r]; exact .base (.bl b)
    | int b => cases h; rw [show v = _ from r]; exact .base (.int b)
    | str b => cases h; rw [show v = _ from r]; exact .base (.str b)
    | tup ds =>
      cases h
      obtain ⟨a, vs, rfl, s, _⟩ := r
      rcases s with ⟨o, _, s⟩ | ⟨o, its, n, _, s, c, _⟩
      · exact .fTuple s
      · exact .kTuple s c
    | lst ds =>
      cases h
      obtain ⟨a, vs, rfl, ⟨o, s⟩, _⟩ := r
      exact .base (.frz s)
    | dic kvs =>
      cases h
      obtain ⟨a, rfl, o, c, s⟩ := r
      exact .fDict s
    | _ => cases h
end
section
variable {X : Cx} {B : Hp} {M : List Addr} {e a b c : Expr} {es : List Expr} {pos : Pos}
/-- a built-in type, named -/
theorem de_ty {x : Str} {n : String} (hm : X.mg x = none) (hv : bootBuiltins x = some (.type n)) (hg : Gl X x := by rfl) (hn : x ≠ "__name__" := by decide) (hd : (x == ("__debug__" : Str)) = false := by decide) : DE X B M (.Name x pos) (rC (.ty n)) :=
  DE.mk' (pe_bltn (v := .ty n) hg hm hv rfl hn hd) mo_rC fun σ H Q ρ S q => q _ H (Keep.refl _) (OwnEq.refl _) S rfl
/-- a class, a def of the module, as a value -/
theorem de_obj {x : Str} {A : Addr} (hm : X.mg x = some (.ref A)) (hg : Gl X x := by rfl) (hd : (x == ("__debug__" : Str)) = false := by decide) : DE X B M (.Name x pos) (rC (.obj A)) :=
  DE.mk' (pe_glob (v := .ref A) hg hm rfl hd) mo_rC fun σ H Q ρ S q => q _ H (Keep.refl _) (OwnEq.refl _) S rfl
def t7 (n : String) : Option T7 := if n = "int" then some .int else if n = "bool" then some .bl else if n = "str" then some .str else if n = "list" then some .lst else if n = "tuple" then some .tup else if n = "dict" then some .dic else none
theorem t7_nm {n : String} {t : T7} (h : t7 n = some t) : t.nm = n := by
  unfold t7 at h
  repeat (split at h; · rename_i e; cases h; exact e.symm)
  cases h
def isiW (ws : List W) : Option Bool := match ws with
  | [w, .d (.ty u)] => (match tyW w, t7 u with
    | some t, some t' => some (isa t t')
    | _, _ => none)
  | _ => none
def oIsi : OA := fun ws ρ P => match isiW ws with
  | some b => P (.bl b)
  | none => False
theorem oIsi.el {ws : List W} {ρ : En} {P : D → Prop} (h : oIsi ws ρ P) : ∃ w t u, ws = [w, .d (.ty u)] ∧ tyW w = some t ∧ (∃ t' : T7, t'.nm = u ∧ P (.bl (isa t t'))) := by
  unfold oIsi at h
  cases e : isiW ws with
  | none => rw [e] at h; exact h.elim
  | some b =>
    rw [e] at h
    unfold isiW at e
    split at e
    · rename_i w u
      split at e
      · rename_i t t' e1 e2
        cases e
        exact ⟨w, t, u, rfl, e1, t', t7_nm e2, h⟩
      · cases e
    · cases e
theorem mo_oIsi : MonoOA oIsi := fun ws ρ P P' h q => by
  unfold oIsi at q ⊢
  cases e : isiW ws with
  | none => rw [e] at q; exact q.elim
  | some b => rw [e] at q; exact h _ q
theorem de_isi {p : Pos} {ra : RA} (hm : X.mg "isinstance" = none) (ha : DA X B M (a :: es) ra) (hg : Gl X "isinstance" := by rfl)
    (he : starEach (a :: es) X.env = (false, eval a X.env) :: starEach es X.env := by rfl) (hpl : (backTo pos (starEach es X.env)).any (·.1) = false := by rfl) : DE X B M (.Call (.Name "isinstance" p) (a :: es) [] pos) (rA ra oIsi) :=
  de_callB call_isi (fun B M ρ σ H ws xs Q P S r hh q => by
    obtain ⟨w, t, u, e1, e2, t', e3, pp⟩ := hh.el
    subst e1 e3
    obtain ⟨v, vr, rfl, r1, v2, vr2, rfl, r2, r3⟩ := r
    obtain rfl : vr2 = [] := r3
    obtain rfl : v2 = V.ty t'.nm := r2
    exact ⟨v, .ty t'.nm, _, _, _, rfl, .ty _, tyx_of S r1 e2, kit_ty (isa_ok t t'), q _ _ H pp (Same.refl _) rfl⟩) mo_oIsi hg hm (by decide +kernel) ha (by decide) (by decide) he hpl
theorem call_isiT' : CallR X (.builtin "isinstance") (fun xs H Q => ∃ (x : V) (tp : Addr) (cs : List V) (t : Value) (us : List Value) (b : Bool), xs = [x, .ref tp] ∧ SqT X.K H tp cs ∧ Paired ClsV cs us ∧ TyX X.K H x t ∧ PySem.W.kitAny X.K t us = some b ∧ Q (.bl b) H) := by
  intro pins s σ H xs us Q I r h
  obtain ⟨x, tp, cs, t, ws, b, rfl, hT, k, ty, e, q⟩ := h
  obtain ⟨u1, u2, rfl, r1, r2⟩ := vals2 r
  cases (show u2 = Value.ref tp from r2)
  obtain ⟨P, Z, p, hx⟩ := kit_of I r1 ty
  obtain ⟨its, rv, ⟨o, h1, h2, n, h3⟩, _⟩ := I.tuple hT
  have e3 := ClsV.all k rv
  subst e3
  obtain ⟨oc, od, dt, sl⟩ := o
  simp only at h2 h3
  subst h2 h3
  exact PySem.W.kia_tup Z I.kIn p h1 e hx fun tk => ⟨.bl b, H, I.tok tk, rfl, q⟩
def isiW2 (ws : List W) : Option Bool := match ws with
  | [w, .d (.tup [.ty u1, .ty u2])] => (match tyW w, t7 u1, t7 u2 with
    | some t, some t1, some t2 => some (isa t t1 || isa t t2)
    | _, _, _ => none)
  | _ => none
def oIsi2 : OA := fun ws ρ P => match isiW2 ws with
  | some b => P (.bl b)
  | none => False
theorem oIsi2.el {ws : List W} {ρ : En} {P : D → Prop} (h : oIsi2 ws ρ P) : ∃ w t u1 u2, ws = [w, .d (.tup [.ty u1, .ty u2])] ∧ tyW w = some t ∧ (∃ t1 t2 : T7, t1.nm = u1 ∧ t2.nm = u2 ∧ P (.bl (isa t t1 || isa t t2))) := by
  unfold oIsi2 at h
  cases e : isiW2 ws with
  | none => rw [e] at h; exact h.elim
  | some b =>
    rw [e] at h
    unfold isiW2 at e
    split at e
    · rename_i w u1 u2
      split at e
      · rename_i t t1 t2 e1 e2 e3
        cases e
        exact ⟨w, t, u1, u2, rfl, e1, t1, t2, t7_nm e2, t7_nm e3, h⟩
      · cases e
    · cases e
theorem mo_oIsi2 : MonoOA oIsi2 := fun ws ρ P P' h q => by
  unfold oIsi2 at q ⊢
  cases e : isiW2 ws with
  | none => rw [e] at q; exact q.elim
  | some b => rw [e] at q; exact h _ q
theorem de_isi2 {p : Pos} {ra : RA} (hm : X.mg "isinstance" = none) (ha : DA X B M (a :: es) ra) (hg : Gl X "isinstance" := by rfl)
    (he : starEach (a :: es) X.env = (false, eval a X.env) :: starEach es X.env := by rfl) (hpl : (backTo pos (starEach es X.env)).any (·.1) = false := by rfl) : DE X B M (.Call (.Name "isinstance" p) (a :: es) [] pos) (rA ra oIsi2) :=
  de_callB call_isiT' (fun B M ρ σ H ws xs Q P S r hh q => by
    obtain ⟨w, t, u1, u2, e1, e2, t1, t2, e3, e4, pp⟩ := hh.el
    subst e1 e3 e4
    obtain ⟨v, vr, rfl, r1, v2, vr2, rfl, r2, r3⟩ := r
    obtain rfl : vr2 = [] := r3
    obtain ⟨a, vs, rfl, hT, c1, cr, rfl, s1, c2, cr2, rfl, s2, s3⟩ := r2
    obtain rfl : cr2 = [] := s3
    obtain rfl : c1 = V.ty t1.nm := s1
    obtain rfl : c2 = V.ty t2.nm := s2
    refine ⟨v, a, _, _, [.type t1.nm, .type t2.nm], _, rfl, TpN.sq hT, .cons (.ty _) (.cons (.ty _) .nil), tyx_of S r1 e2, kitAny_cons (kit_ty (isa_ok t t1)) (fun h => kitAny_cons (kit_ty (isa_ok t t2)) (fun h2 => ?_) (fun h2 => ?_)) (fun h => ?_), q _ _ H pp (Same.refl _) rfl⟩
    · rw [h, h2]; rfl
    · rw [h, h2]; rfl
    · rw [h]; rfl) mo_oIsi2 hg hm (by decide +kernel) ha (by decide) (by decide) he hpl
/-! ### is None, is True -/
def nonW : W → Bool
  | .d .non => true
  | _ => false
theorem nonW_ok {K : PySem.W.Frag} {H : Hp} {ρ : En} {w : W} {v : V} (r : WOk K H ρ w v) : decide (v = V.non) = nonW w := by
  cases w with
  | o i =>
    obtain ⟨p, ds, e, rfl⟩ := r
    rfl
  | d x =>
    cases x with
    | tup ds => obtain ⟨a, vs, rfl, _⟩ := r; rfl
    | lst ds => obtain ⟨a, vs, rfl, _⟩ := r; rfl
    | dic ds => obtain ⟨a, rfl, _⟩ := r; rfl
    | ins C n ds => obtain ⟨a, dx, fs, rfl, _⟩ := r; rfl
    | _ => rw [show v = _ from r]; rfl
def r1 (ra : RE) (o : W → D) : RE := fun ρ Q => ra ρ fun w ρ1 => Q (.d (o w)) ρ1
theorem mo_r1 {ra : RE} {o : W → D} (ha : MonoE ra) : MonoE (r1 ra o) := fun ρ P P' w q => ha ρ _ _ (fun _ _ q => w _ _ q) q
theorem de_isN {j pos'} {ra : RE} (ha : DE X B M a ra) : DE X B M (.Compare a [.Is] [.Constant .none j pos'] pos) (r1 ra fun w => .bl (nonW w)) :=
  DE.mk' (pe_cmp (pc_isN ha.pe)) (mo_r1 ha.mo) fun σ H Q ρ S q => into ha S q fun w ρ1 v H1 p k o S1 r => p _ H1 k o S1 (by rw [nonW_ok r]; rfl)
theorem de_notN {j pos'} {ra : RE} (ha : DE X B M a ra) : DE X B M (.Compare a [.IsNot] [.Constant .none j pos'] pos) (r1 ra fun w => .bl (!nonW w)) :=
  DE.mk' (pe_cmp (pc_notN ha.pe)) (mo_r1 ha.mo) fun σ H Q ρ S q => into ha S q fun w ρ1 v H1 p k o S1 r => p _ H1 k o S1 (by rw [nonW_ok r]; rfl)
theorem dt_cmpv {op : CmpOp} {ra : RE} (h : DE X B M (.Compare a [op] [b] pos) ra) (pc : PC X op a b (tD X.K B M ra)) (h1 : behindInMarks op b = false := by first | exact nobehind _ (by decide) (by decide) | rfl) : DT X B M (.Compare a [op] [b] pos) (rTB ra) :=
  DT.mk' (pt_cmp pc h1) (mo_rTB h.mo) fun σ H Q ρ S q => tb_imp h S q
theorem dt_isN {j pos'} {ra : RE} (ha : DE X B M a ra) : DT X B M (.Compare a [.Is] [.Constant .none j pos'] pos) (rTB (r1 ra fun w => .bl (nonW w))) :=
  DT.mk' (pt_cmp (pc_isN ha.pe)) (mo_rTB (mo_r1 ha.mo)) fun σ H Q ρ S q => into ha S q fun w ρ1 v H1 hh kk o S1 r => by
    obtain ⟨k, e, p⟩ := hh.el
    cases e
    exact ⟨_, by rw [nonW_ok r], p H1 kk o S1⟩
theorem dt_notN {j pos'} {ra : RE} (ha : DE X B M a ra) : DT X B M (.Compare a [.IsNot] [.Constant .none j pos'] pos) (rTB (r1 ra fun w => .bl (!nonW w))) :=
  DT.mk' (pt_cmp (pc_notN ha.pe)) (mo_rTB (mo_r1 ha.mo)) fun σ H Q ρ S q => into ha S q fun w ρ1 v H1 hh kk o S1 r => by
    obtain ⟨k, e, p⟩ := hh.el
    cases e
    exact ⟨_, by rw [nonW_ok r], p H1 kk o S1⟩
def blW (b : Bool) : W → Bool
  | .d (.bl c) => c == b
  | _ => false
theorem is_boolG {M : Model} {A : Around} {E : Value → Shared → Prop} {s : Shared} {v : Value} {b : Bool} {Q : Value → Shared → Prop} (hv : ∀ id, v ≠ .builtin id) (h : Q (.bool (v == .bool b)) s) : wpAny M A (compareOp .Is v (.bool b)) Q E s := by
  cases v with
  | builtin id => exact absurd rfl (hv id)
  | _ => exact wpAny_pure h
theorem rel_nobuiltin {v : V} {u : Value} (r : RelV v u) (id : String) : u ≠ .builtin id := fun e => by
  subst e
  cases v with
  | int i => obtain ⟨t, h⟩ := r; cases h
  | str i => obtain ⟨t, h⟩ := r; cases h
  | byt i => obtain ⟨t, h⟩ := r; cases h
  | flt i => obtain ⟨t, h⟩ := r; cases h
  | _ => cases r
theorem blW_ok {K : PySem.W.Frag} {H : Hp} {ρ : En} {w : W} {v : V} {u : Value} {b : Bool} (r : WOk K H ρ w v) (ru : RelV v u) : (u == Value.bool b) = blW b w := by
  cases w with
  | o i =>
    obtain ⟨p, ds, e, rfl⟩ := r
    cases ru
    rfl
  | d x =>
    cases x with
    | tup ds => obtain ⟨a, vs, rfl, _⟩ := r; cases ru; rfl
    | lst ds => obtain ⟨a, vs, rfl, _⟩ := r; cases ru; rfl
    | dic ds => obtain ⟨a, rfl, _⟩ := r; cases ru; rfl
    | ins C n ds => obtain ⟨a, dx, fs, rfl, _⟩ := r; cases ru; rfl
    | obj q => rw [show v = _ from r] at ru; cases ru; rfl
    | non => rw [show v = _ from r] at ru; cases ru; rfl
    | bl c => rw [show v = _ from r] at ru; cases ru; cases c <;> cases b <;> rfl
    | int i => rw [show v = _ from r] at ru; obtain ⟨t, rfl⟩ := ru; rfl
    | str i => rw [show v = _ from r] at ru; obtain ⟨t, rfl⟩ := ru; rfl
    | ty n => rw [show v = _ from r] at ru; cases ru; rfl
theorem pc_isB {ra : RE} {b : Bool} {j pos'} (ha : DE X B M a ra) : PC X .Is a (.Constant (.bool b) j pos') (tD X.K B M (r1 ra fun w => .bl (blW b w))) := by
  refine ⟨fun pins s σ H Q I ⟨ρ, S, h⟩ => ?_⟩
  refine thn (ha.pe.run pins s σ H (fun v H1 => ∀ u, RelV v u → Q (.bl (u == Value.bool b)) H1) I (into ha S h fun w ρ1 v H1 p k o S1 r u ru => by rw [blW_ok r ru]; exact p _ H1 k o S1 rfl)) fun v s1 ⟨x, H1, I1, r1, q1⟩ => ?_
  exact Constant_bool (is_boolG (rel_nobuiltin r1) ⟨.bl _, H1, I1, rfl, q1 v r1⟩)
theorem de_isB {ra : RE} {b : Bool} {j pos'} (ha : DE X B M a ra) : DE X B M (.Compare a [.Is] [.Constant (.bool b) j pos'] pos) (r1 ra fun w => .bl (blW b w)) := ⟨pe_cmp (pc_isB ha), mo_r1 ha.mo⟩
theorem dt_isB {ra : RE} {b : Bool} {j pos'} (ha : DE X B M a ra) : DT X B M (.Compare a [.Is] [.Constant (.bool b) j pos'] pos) (rTB (r1 ra fun w => .bl (blW b w))) := dt_cmpv (de_isB ha) (pc_isB ha)
/-! ### in -/
theorem inV_ints {n : Int} : ∀ {ns : List Int}, inV (.int n) (ns.map V.int) = decide (n ∈ ns)
  | [] => by simp [inV]
  | m :: ns => by
    have ih := inV_ints (n := n) (ns := ns)
    unfold inV at ih ⊢
    rw [List.map_cons, List.any_cons, ih]
    show ((m == n) || decide (n ∈ ns)) = decide (n ∈ m :: ns)
    by_cases h : m = n
    · subst h; simp
    · have : (m == n) = false := by simpa using h
      rw [this, Bool.false_or]
      simp [List.mem_cons, Ne.symm h]
theorem flat_ints : ∀ (ns : List Int), (ns.map V.int).all flatV = true
  | [] => rfl
  | _ :: ns => flat_ints ns
def oIn (neg : Bool) : O2 := fun w1 w2 ρ P => ∃ (n : Int) (t : Bool) (ns : List Int), w1 = .d (.int n) ∧ sq ρ w2 = some (t, ns.map D.int) ∧ P (.bl (if neg then !decide (n ∈ ns) else decide (n ∈ ns)))
theorem mo_oIn {neg : Bool} : MonoO (oIn neg) := fun x y ρ P P' h ⟨n, t, ns, e1, e2, p⟩ => ⟨n, t, ns, e1, e2, h _ p⟩
theorem tells_in {K : PySem.W.Frag} {neg : Bool} : Tells2 K (rIn K neg) (oIn neg) := fun B M ρ σ H w1 w2 x y Q P S r1 r2 ⟨n, t, ns, e1, e2, p⟩ q => by
  subst e1
  obtain rfl : x = V.int n := r1
  obtain ⟨a, vs, rfl, s, rr⟩ := sq_read S r2 e2
  have ev := RepL.ints rr
  subst ev
  exact ⟨a, _, rfl, s.sq, rfl, flat_ints ns, by rw [inV_ints]; exact q _ _ H p (Same.refl _) rfl⟩
theorem de_in {ra rb : RE} (ha : DE X B M a ra) (hb : DE X B M b rb) (hm : behindInMarks .In b = false := by rfl) : DE X B M (.Compare a [.In] [b] pos) (r2 ra rb (oIn false)) := de_cmp op_in_seq tells_in mo_oIn ha hb hm
theorem dt_in {ra rb : RE} (ha : DE X B M a ra) (hb : DE X B M b rb) (hm : behindInMarks .In b = false := by rfl) : DT X B M (.Compare a [.In] [b] pos) (rTB (r2 ra rb (oIn false))) := dt_cmp op_in_seq tells_in mo_oIn ha hb hm
theorem dt_notin {ra rb : RE} (ha : DE X B M a ra) (hb : DE X B M b rb) (hm : behindInMarks .NotIn b = false := by rfl) : DT X B M (.Compare a [.NotIn] [b] pos) (rTB (r2 ra rb (oIn true))) := dt_cmp op_notIn_seq tells_in mo_oIn ha hb hm
/-! ### chains of two comparisons of ints: a <= b < c -/
def rChain (ra rb rc : RE) (f g : Int → Int → Bool) : RE := fun ρ Q => ra ρ fun w1 ρ1 => rb ρ1 fun w2 ρ2 => kInt (fun i _ => kInt (fun j _ => if f i j = true then rc ρ2 (kInt fun k ρ3 => Q (.d (.bl (g j k))) ρ3) else Q (.d (.bl false)) ρ2) w2 ρ2) w1 ρ2
theorem mo_rChain {ra rb rc : RE} {f g : Int → Int → Bool} (ha : MonoE ra) (hb : MonoE rb) (hc : MonoE rc) : MonoE (rChain ra rb rc f g) := fun ρ P P' w q => ha ρ _ _ (fun w1 ρ1 q1 => hb ρ1 _ _ (fun w2 ρ2 q2 => by
  obtain ⟨i, ei, qa⟩ := kInt.el q2
  obtain ⟨j, ej, qb⟩ := kInt.el qa
  rw [ei, ej]
  show if f i j = true then _ else _
  by_cases h : f i j = true
  · rw [if_pos h] at qb ⊢
    exact hc ρ2 _ _ (fun w3 ρ3 q3 => by obtain ⟨k, ek, q4⟩ := kInt.el q3; rw [ek]; exact w _ _ q4) qb
  · rw [if_neg h] at qb ⊢
    exact w _ _ qb) q1) q
theorem de_chain {op op' : CmpOp} {ra rb rc : RE} {f g : Int → Int → Bool} (ho : OpR X (compareOp op) (rI0 fun i j => .bl (f i j))) (ho' : OpR X (compareOp op') (rI0 fun i j => .bl (g i j))) (ha : DE X B M a ra) (hb : DE X B M b rb) (hc : DE X B M c rc)
    (h1 : lastMarks [op, op'] [b, c] = false := by rfl) : DE X B M (.Compare a [op, op'] [b, c] pos) (rChain ra rb rc f g) := by
  refine DE.mk' (pe_chain ho ho' ha.pe hb.pe hc.pe h1) (mo_rChain ha.mo hb.mo hc.mo) fun σ H Q ρ S q => ?_
  refine into ha S q fun w1 ρ1 v1 H1 q1 k1 o1 S1 r1 => ?_
  refine into hb S1 q1 fun w2 ρ2 v2 H2 hh k2 o2 S2 r2 => ?_
  obtain ⟨i, e1, hh⟩ := hh.el
  obtain ⟨j, e2, q2⟩ := hh.el
  subst e1 e2
  refine ⟨i, j, r1, r2, f i j, rfl, ?_⟩
  by_cases h : f i j = true
  · rw [if_pos h] at q2 ⊢
    refine into hc S2 q2 fun w3 ρ3 v3 H3 hh k3 o3 S3 r3 => ?_
    obtain ⟨k, e3, q3⟩ := hh.el
    subst e3
    exact ⟨j, k, r2, r3, q3 _ H3 ((k1.trans k2).trans k3) ((o1.trans o2).trans o3) S3 rfl⟩
  · rw [if_neg h] at q2 ⊢
    exact q2 _ H2 (k1.trans k2) (o1.trans o2) S2 rfl
/-! ### raise -/
theorem ds_raise {x m : Str} {C : Addr} {E : XK} {Xp : Exn → Prop} {j : Nat} {p p2 pos2 : Pos} {bmB : List Value} {newId initId Bn : String} (tk : L2N.Takes X (fun cls d _ H => E cls d H)) (hE : ∀ x cls dx H', Xp x → Frm M B H' → XRep X.K H' x cls dx → E cls dx H') (F : ExcBaseFacts Bn newId initId bmB) (q : PySem.W.excIn X.K C bmB newId = true)
    (gC : X.mg x = some (.ref C)) (kC : PySem.W.keepIn X.K (.ref C) = true) (r : Raises X (.ref C)) (hc : X.calm = true := by rfl) (hg : Gl X x := by rfl) (hdb : (x == ("__debug__" : Str)) = false := by decide) :
    DS X B M (.Raise (some (.Call (.Name x p) [.Constant (.str m) j p2] [] pos2)) none pos) (fun e ρ => Xp ⟨C, none⟩) :=
  DS.mk' (L2N.ps_raise hc tk (L2N.pmk_own F q gC kC r hg hdb)) fun D σ H ρ e S hx ok => hE ⟨C, none⟩ _ _ H hx S.frm ⟨rfl, rfl⟩
end
end N
/-! N7 -/
set_option Elab.async false
set_option linter.all false
set_option maxRecDepth 100000
set_option maxHeartbeats 1000000
/-! N7: further rules: great ints, slices, dicts, counting, deep equality, defaults. -/
namespace N
open PySem PySem.Spec PyProof.Rows L2
section
variable {X : Cx} {B : Hp} {M : List Addr} {e a b c : Expr} {es : List Expr} {pos : Pos}
/-! ### ints -/
def rNeg (ra : RE) : RE := fun ρ Q => ra ρ (kInt fun i ρ1 => Q (.d (.int (-i))) ρ1)
theorem de_neg {ra : RE} (ha : DE X B M a ra) : DE X B M (.UnaryOp .USub a pos) (rNeg ra) :=
  DE.mk' (pe_un un_neg ha.pe) (fun ρ P P' w p => ha.mo ρ _ _ (fun w1 ρ1 q => by obtain ⟨i, rfl, q⟩ := q.el; exact w _ _ q) p) fun σ H Q ρ S q => into ha S q fun w ρ1 v H1 hh k o S1 r => by
    obtain ⟨i, e1, p⟩ := hh.el
    subst e1
    exact ⟨i, r, p _ H1 k o S1 rfl⟩
theorem de_mulW {ra rb : RE} (ha : DE X B M a ra) (hb : DE X B M b rb) : DE X B M (.BinOp a .Mult b pos) (r2 ra rb (oI CMulW fun i j => .int (i * j))) := de_op op_mulW (tells_I fun _ _ _ => rfl) mo_oI ha hb
theorem de_fdivW {ra rb : RE} (ha : DE X B M a ra) (hb : DE X B M b rb) : DE X B M (.BinOp a .FloorDiv b pos) (r2 ra rb (oI CDivW fun i j => .int (i / j))) := de_op op_fdivW (tells_I fun _ _ _ => rfl) mo_oI ha hb
def CPowW (i j : Int) : Prop := 0 ≤ j ∧ (Builtin.Int.intBits i : Int) * j ≤ 2 ^ 27
theorem op_powW : OpR X (binaryOp .Pow) (rI CPowW fun i j => .int (i ^ j.toNat)) := opI fun _ _ _ _ _ _ _ hc q => pow_int hc.1 hc.2 q
theorem de_powW {ra rb : RE} (ha : DE X B M a ra) (hb : DE X B M b rb) : DE X B M (.BinOp a .Pow b pos) (r2 ra rb (oI CPowW fun i j => .int (i ^ j.toNat))) := de_op op_powW (tells_I fun _ _ _ => rfl) mo_oI ha hb
/-- by the kind of slot i -/
def rCase (i : Nat) (r1 r2 : RE) : RE := fun ρ Q => match ρ[i]? with
  | some (.own _ _) => r1 ρ Q
  | _ => r2 ρ Q
theorem de_case (i : Nat) {ra rb : RE} (h1 : DE X B M e ra) (h2 : DE X B M e rb) : DE X B M e (rCase i ra rb) := by
  refine ⟨⟨fun pins s σ H Q I ⟨ρ, S, q⟩ => ?_⟩, fun ρ P P' w q => ?_⟩
  · unfold rCase at q
    split at q
    · exact h1.pe.run pins s σ H Q I ⟨ρ, S, q⟩
    · exact h2.pe.run pins s σ H Q I ⟨ρ, S, q⟩
  · unfold rCase at q ⊢
    split at q
    · exact h1.mo _ _ _ w q
    · exact h2.mo _ _ _ w q
/-- the same of statements -/
def rCaseS (i : Nat) (r1 r2 : RS) : RS := fun e ρ => match ρ[i]? with
  | some (.own _ _) => r1 e ρ
  | _ => r2 e ρ
theorem ds_case (i : Nat) {st : List Stmt} {ra rb : RS} (h1 : DSs X B M st ra) (h2 : DSs X B M st rb) : DSs X B M st (rCaseS i ra rb) := by
  refine ⟨⟨fun pins s σ H D I ⟨ρ, e, S, q, ok⟩ => ?_⟩⟩
  have q : rCaseS i ra rb e ρ := q
  unfold rCaseS at q
  split at q
  · exact h1.pss.run pins s σ H D I ⟨ρ, e, S, q, ok⟩
  · exact h2.pss.run pins s σ H D I ⟨ρ, e, S, q, ok⟩
/-! ### slices -/
abbrev RO := En → (Option Int → En → Prop) → Prop
def kO (K : PySem.W.Frag) (B : Hp) (M : List Addr) (ρ : En) (σ : L2.St) (H : Hp) (Q : Option Int → Hp → Prop) : Option Int → En → Prop := fun i ρ' => ∀ H', Keep H H' → OwnEq ρ ρ' → Sta K B M ρ' σ H' → Q i H'
def tDO (K : PySem.W.Frag) (B : Hp) (M : List Addr) (r : RO) : TO := fun σ H Q => ∃ ρ, Sta K B M ρ σ H ∧ r ρ (kO K B M ρ σ H Q)
def MonoO1 (r : RO) : Prop := ∀ ρ (P P' : Option Int → En → Prop), (∀ w ρ', P w ρ' → P' w ρ') → r ρ P → r ρ P'
structure DO (X : Cx) (B : Hp) (M : List Addr) (e : Option Expr) (r : RO) : Prop where
  po : PO X e (tDO X.K B M r)
  mo : MonoO1 r
theorem po_imp {e : Option Expr} {t t' : TO} (h : PO X e t) (w : ∀ σ H Q, t' σ H Q → t σ H Q) : PO X e t' := ⟨fun pins s σ H Q I q => h.run pins s σ H Q I (w σ H Q q)⟩
theorem do_none : DO X B M none (fun ρ Q => Q none ρ) := ⟨po_imp po_none fun σ H Q ⟨ρ, S, q⟩ => q H (Keep.refl _) (OwnEq.refl _) S, fun ρ P P' w q => w _ _ q⟩
def rOS (ra : RE) : RO := fun ρ Q => ra ρ (kInt fun i ρ1 => Q (some i) ρ1)
theorem do_some {ra : RE} (ha : DE X B M a ra) : DO X B M (some a) (rOS ra) :=
  ⟨po_imp (po_some ha.pe) fun σ H Q ⟨ρ, S, q⟩ => into ha S q fun w ρ1 v H1 hh k o S1 r => by
    obtain ⟨i, e1, p⟩ := hh.el
    subst e1
    exact ⟨i, r, p H1 k o S1⟩, fun ρ P P' w p => ha.mo ρ _ _ (fun w1 ρ1 q => by obtain ⟨i, rfl, q⟩ := q.el; exact w _ _ q) p⟩
theorem intoO {eo : Option Expr} {ra : RO} (ha : DO X B M eo ra) {σ : L2.St} {H : Hp} {ρ : En} (S : Sta X.K B M ρ σ H) {P : Option Int → En → Prop} (h : ra ρ P) {Q : Option Int → Hp → Prop} (w : ∀ w1 ρ1 H1, P w1 ρ1 → Keep H H1 → OwnEq ρ ρ1 → Sta X.K B M ρ1 σ H1 → Q w1 H1) : tDO X.K B M ra σ H Q :=
  ⟨ρ, S, ha.mo ρ P _ (fun w1 ρ1 p H1 k o S1 => w w1 ρ1 H1 p k o S1) h⟩
def cutD (ds : List D) (lo hi : Option Int) : List D := (ds.drop (HT.sIx ds.length 0 lo)).take (HT.sIx ds.length ds.length hi - HT.sIx ds.length 0 lo)
theorem RepL.cut {K : PySem.W.Frag} {H : Hp} {ds : List D} {vs : List V} (r : RepL K H ds vs) (lo hi : Option Int) : RepL K H (cutD ds lo hi) (cutV vs lo hi) := by
  unfold cutD cutV
  rw [RepL.length r]
  exact RepL.take _ (RepL.drop _ r)
def rSlice (ra : RE) (rl rh : RO) : RN := fun ρ Q => ra ρ fun w ρ1 => rl ρ1 fun l ρ2 => rh ρ2 fun h ρ3 => ∃ ds, sq ρ3 w = some (false, ds) ∧ Q (cutD ds l h) ρ3
theorem dn_slice {lo hi : Option Expr} {ra : RE} {rl rh : RO} {p2 : Pos} (ha : DE X B M a ra) (hl : DO X B M lo rl) (hh : DO X B M hi rh) : DN X B M (.Subscript a (.Slice lo hi none p2) pos) (rSlice ra rl rh) := by
  refine DN.mk' (pe_slice sl_list ha.pe hl.po hh.po) (fun ρ P P' w q => ha.mo ρ _ _ (fun w1 ρ1 q => hl.mo ρ1 _ _ (fun l ρ2 q => hh.mo ρ2 _ _ (fun h ρ3 ⟨ds, e, q⟩ => ⟨ds, e, w _ _ q⟩) q) q) q) fun σ H Q ρ S q => ?_
  refine into ha S q fun w1 ρ1 v H1 q k1 o1 S1 r1 => intoO hl S1 q fun l ρ2 H2 q k2 o2 S2 => intoO hh S2 q fun h ρ3 H3 q k3 o3 S3 => ?_
  obtain ⟨ds, e, q⟩ := q
  obtain ⟨p, vs, rfl, s, rr⟩ := sq_read S3 (WOk.keep (k2.trans k3) (o2.trans o3) r1) e
  refine ⟨p, vs, rfl, .inl s, fun l' hl' => ?_⟩
  obtain ⟨S4, n4⟩ := NewAt.laid S3 hl' (RepL.cut rr l h)
  exact q l' _ (((k1.trans k2).trans k3).trans (Keep.of (same_upd hl'))) ((o1.trans o2).trans o3) S4 n4
def rSliceT (ra : RE) (rl rh : RO) : RE := fun ρ Q => ra ρ fun w ρ1 => rl ρ1 fun l ρ2 => rh ρ2 fun h ρ3 => ∃ ds, sq ρ3 w = some (true, ds) ∧ Q (.d (.tup (cutD ds l h))) ρ3
theorem de_sliceT {lo hi : Option Expr} {ra : RE} {rl rh : RO} {p2 : Pos} (ha : DE X B M a ra) (hl : DO X B M lo rl) (hh : DO X B M hi rh) : DE X B M (.Subscript a (.Slice lo hi none p2) pos) (rSliceT ra rl rh) := by
  refine DE.mk' (pe_slice sl_tupN ha.pe hl.po hh.po) (fun ρ P P' w q => ha.mo ρ _ _ (fun w1 ρ1 q => hl.mo ρ1 _ _ (fun l ρ2 q => hh.mo ρ2 _ _ (fun h ρ3 ⟨ds, e, q⟩ => ⟨ds, e, w _ _ q⟩) q) q) q) fun σ H Q ρ S q => ?_
  refine into ha S q fun w1 ρ1 v H1 q k1 o1 S1 r1 => intoO hl S1 q fun l ρ2 H2 q k2 o2 S2 => intoO hh S2 q fun h ρ3 H3 q k3 o3 S3 => ?_
  obtain ⟨ds, e, q⟩ := q
  obtain ⟨p, vs, rfl, s, rr⟩ := sq_read S3 (WOk.keep (k2.trans k3) (o2.trans o3) r1) e
  have s : TpN X.K H3 p vs := s
  have kk := (k1.trans k2).trans k3
  have oo := (o1.trans o2).trans o3
  refine ⟨p, vs, rfl, TpN.sq s, fun z => ?_, fun z ob l' hd hl' => ?_⟩
  · refine q _ H3 kk oo S3 ⟨p, _, rfl, s, ?_⟩
    have : cutD ds l h = ds := by
      rw [RepL.length rr] at z
      unfold cutD
      rw [z.1, z.2, List.drop_zero, Nat.sub_zero, List.take_length]
    rw [this]
    exact rr
  · exact q _ _ (kk.trans (Keep.of (same_upd hl'))) oo (S3.same (same_upd hl')) ⟨l', _, rfl, .inl ⟨ob, hd, upd_same⟩, RepL.keep (Keep.of (same_upd hl')) _ (RepL.cut rr l h)⟩
def rRev (ra : RE) : RN := fun ρ Q => ra ρ fun w ρ1 => ∃ ds, sq ρ1 w = some (false, ds) ∧ Q ds.reverse ρ1
theorem dn_rev {ra : RE} {k : Nat} {p1 p2 p3 : Pos} (ha : DE X B M a ra) : DN X B M (.Subscript a (.Slice none none (some (.UnaryOp .USub (.Constant (.int 1) k p1) p2)) p3) pos) (rRev ra) := by
  refine DN.mk' (pe_revL ha.pe) (fun ρ P P' w q => ha.mo ρ _ _ (fun w1 ρ1 ⟨ds, e, q⟩ => ⟨ds, e, w _ _ q⟩) q) fun σ H Q ρ S q => ?_
  refine into ha S q fun w1 ρ1 v H1 ⟨ds, e, q⟩ k1 o1 S1 r1 => ?_
  obtain ⟨p, vs, rfl, s, rr⟩ := sq_read S1 r1 e
  refine ⟨p, vs, rfl, .inl s, fun l' hl' => ?_⟩
  obtain ⟨S4, n4⟩ := NewAt.laid S1 hl' (RepL.reverse rr)
  exact q l' _ (k1.trans (Keep.of (same_upd hl'))) o1 S4 n4
/-! ### tuple(range(n)), list(range(n)) -/
def rgD (lo hi : Int) : List D := (List.range (hi - lo).toNat).map fun i => D.int (lo + (i : Nat))
theorem rep_rg {K : PySem.W.Frag} {H : Hp} {lo hi : Int} : RepL K H (rgD lo hi) (rgV lo hi) := by
  unfold rgD rgV
  generalize List.range (hi - lo).toNat = l
  induction l with
  | nil => exact rfl
  | cons a r ih => exact ⟨_, _, rfl, rfl, ih⟩
def rRgT (ra : RE) : RE := fun ρ Q => ra ρ (kInt fun n ρ1 => RgOk 0 n ∧ Q (.d (.tup (rgD 0 n))) ρ1)
theorem de_tuprange {ra : RE} {p p' pos' : Pos} (hm : X.mg "tuple" = none) (hm2 : X.mg "range" = none) (ha : DE X B M a ra) (hc : X.calm = true := by rfl) (hg : Gl X "tuple" := by rfl) (hg2 : Gl X "range" := by rfl)
    (na : starEach [a] X.env = (false, eval a X.env) :: starEach [] X.env := by rfl) (nb : starEach [Expr.Call (.Name "range" p) [a] [] pos'] X.env = (false, eval (Expr.Call (.Name "range" p) [a] [] pos') X.env) :: starEach [] X.env := by rfl) :
    DE X B M (.Call (.Name "tuple" p') [.Call (.Name "range" p) [a] [] pos'] [] pos) (rRgT ra) :=
  DE.mk' (pe_tupRgN hc hg hm (prg_1 hg2 hm2 ha.pe na) nb) (fun ρ P P' w p => ha.mo ρ _ _ (fun w1 ρ1 q => by obtain ⟨i, rfl, r, q⟩ := q.el; exact ⟨r, w _ _ q⟩) p) fun σ H Q ρ S q => into ha S q fun w ρ1 v H1 hh k o S1 r => by
    obtain ⟨n, e1, rg, p⟩ := hh.el
    subst e1
    exact ⟨n, r, rg, fun ob l hd hl => p _ _ (k.trans (Keep.of (same_upd hl))) o (S1.same (same_upd hl)) ⟨l, _, rfl, .inl ⟨ob, hd, upd_same⟩, rep_rg⟩⟩
def rRgL (ra : RE) : RN := fun ρ Q => ra ρ (kInt fun n ρ1 => RgOk 0 n ∧ Q (rgD 0 n) ρ1)
theorem dn_listrange {ra : RE} {p p' pos' : Pos} (hm : X.mg "list" = none) (hm2 : X.mg "range" = none) (ha : DE X B M a ra) (hc : X.calm = true := by rfl) (hg : Gl X "list" := by rfl) (hg2 : Gl X "range" := by rfl)
    (na : starEach [a] X.env = (false, eval a X.env) :: starEach [] X.env := by rfl) (nb : starEach [Expr.Call (.Name "range" p) [a] [] pos'] X.env = (false, eval (Expr.Call (.Name "range" p) [a] [] pos') X.env) :: starEach [] X.env := by rfl) :
    DN X B M (.Call (.Name "list" p') [.Call (.Name "range" p) [a] [] pos'] [] pos) (rRgL ra) :=
  DN.mk' (pe_listRg hc hg hm (prg_1 hg2 hm2 ha.pe na) nb) (fun ρ P P' w p => ha.mo ρ _ _ (fun w1 ρ1 q => by obtain ⟨i, rfl, r, q⟩ := q.el; exact ⟨r, w _ _ q⟩) p) fun σ H Q ρ S q => into ha S q fun w ρ1 v H1 hh k o S1 r => by
    obtain ⟨n, e1, rg, p⟩ := hh.el
    subst e1
    refine ⟨n, r, rg, fun l hl => ?_⟩
    obtain ⟨S2, n2⟩ := NewAt.laid S1 hl (rep_rg (lo := 0) (hi := n))
    exact p l _ (k.trans (Keep.of (same_upd hl))) o S2 n2
/-! ### insert, count -/
def rIns (i : Nat) (ra rb : RE) : RE := fun ρ Q => kOwn i (fun _ _ => ra ρ (kInt fun z ρ1 => rb ρ1 (kD fun x ρ2 => kOwn i (fun p ds => 0 ≤ z ∧ z < 2 ^ 63 ∧ ds.length < 16777216 ∧ Q (.d .non) (ρ2.set i (.own p (ds.take z.toNat ++ [x] ++ ds.drop z.toNat)))) ρ2))) ρ
theorem de_insert {y : Str} {i : Nat} {py apos : Pos} {ra rb : RE} (hy : DE X B M (.Name y py) (rVar i)) (ha : DE X B M a ra) (hb : DE X B M b rb)
    (hbase : attributeBase (.Name y py) "insert" X.env (eval (.Name y py) X.env) = eval (.Name y py) X.env := by rfl)
    (hfew : ((backTo pos (starEach [a, b] X.env)).all (fun x => !x.1) && (backToKw pos (keywordEach [] X.env)).all (fun x => x.1.isSome)
      && decide ([a, b].length + ([] : List Keyword).length + (if ([] : List Keyword).isEmpty then 0 else 1) < 30)) = true := by rfl)
    (hline : (apos.endLine == pos.line) = true := by rfl) (hs : starEach [a, b] X.env = (false, eval a X.env) :: starEach [b] X.env := by rfl) (hs2 : starEach [b] X.env = (false, eval b X.env) :: starEach [] X.env := by rfl) (hplain : (backTo pos (starEach [b] X.env)).any (·.1) = false := by rfl) :
    DE X B M (.Call (.Attribute (.Name y py) "insert" apos) [a, b] [] pos) (rIns i ra rb) := by
  refine DE.mk' (pe_bm PySem.F.plainAttrs_list PySem.F.slot_list_insert PySem.F.type_list_insert mt_insert hy.pe (pa_cons ha.pe (pa_cons hb.pe pa_nil hs2) hs) hbase hfew hline hs hplain) (fun ρ P P' w q => q.imp fun _ _ q => ha.mo ρ _ _ (fun w1 ρ1 q => by
    obtain ⟨z, rfl, q⟩ := q.el
    refine hb.mo ρ1 _ _ (fun w2 ρ2 q => ?_) q
    obtain ⟨x, rfl, q⟩ := q.el
    exact q.imp fun p ds ⟨h0, h1, hl, q⟩ => ⟨h0, h1, hl, w _ _ q⟩) q) fun σ H Q ρ S hh => ?_
  obtain ⟨p0, s0, e0, q⟩ := hh.el
  refine own_read hy S e0 fun v H1 k1 S1 ev => ?_
  subst ev
  obtain ⟨vs0, hp0, _⟩ := S1.own_at e0
  refine ⟨tyV_own hp0, ?_⟩
  refine into ha S1 q fun w1 ρ1 v H2 hh k2 o2 S2 r2 => ?_
  obtain ⟨z, e1, q⟩ := hh.el
  subst e1
  refine into hb S2 q fun w2 ρ2 v2 H3 hh k3 o3 S3 r3 => ?_
  obtain ⟨x, e1, hh⟩ := hh.el
  obtain ⟨p, ds, e2, h0, h1, hl, q2⟩ := hh.el
  subst e1
  obtain ⟨s', e3⟩ := (o2.trans o3) i p0 s0 e0
  rw [e2] at e3
  cases e3
  obtain ⟨vs, hp, rr⟩ := S3.own_at e2
  obtain rfl : v = V.int z := r2
  refine ⟨p0, vs, z, v2, rfl, rfl, hp, by rw [RepL.length rr, sizeLine_eq]; exact hl, h0, h1, ?_⟩
  exact q2 .non _ (((k1.trans k2).trans k3).trans (Sta.keep_mut (i := i) hp)) ((o2.trans o3).trans (own_mut e2)) (S3.mut e2 hp (RepL.append (RepL.append (RepL.take _ rr) (RepL.one r3)) (RepL.drop _ rr))) rfl
def rCntT (K : PySem.W.Frag) : V → List V → Hp → VK → Prop := fun x xs H Q => ∃ (p : Addr) (ns : List Int) (k : Int), x = .ref p ∧ xs = [.int k] ∧ SqT K H p (ns.map V.int) ∧ Q (.int (ns.count k : Nat)) H
theorem mt_tcount : MtR X "tuple.count" (rCntT X.K) := by
  intro pins s σ H x xs v us Q I rx rxs h
  obtain ⟨p, ns, k, rfl, rfl, hs, q⟩ := h
  cases rx
  obtain ⟨u, rfl, ru⟩ := rxs.one
  obtain ⟨t, rfl⟩ := ru
  obtain ⟨its, rv, ⟨⟨cls, dd, data, sl⟩, ho, hc, n, hd⟩, hlen⟩ := I.tuple hs
  simp only at hc hd
  subst hc hd
  have hi := ints_of_vals rv
  refine call_meets PySem.F.slot_tuple_count ⟨_, ho, rfl⟩ PySem.F.entry_tuple_count (PySem.F.args_tuple_count_2 _ _)
    (SeqAt.tuple_countAt p its.toArray n dd sl (.int k t) (eqk k)) ⟨ho, fun y hy => (eqk_gives hi y (by simpa using hy)).at _ _, ?_⟩
  have ec : its.toArray.toList.countP (eqk k) = ns.count k := eqk_count hi
  refine ⟨.int (ns.count k : Nat), H, I.tok _, ⟨s.toks, ?_⟩, q⟩
  show Value.int ((its.toArray.toList.countP (eqk k) : Nat) : Int) s.toks = Value.int ((ns.count k : Nat) : Int) s.toks
  rw [ec]
def tBMT (K : PySem.W.Frag) (r : V → List V → Hp → VK → Prop) (to : TE) (t : TA) : TE := fun σ H Q => to σ H fun x H1 => (∃ a xs, x = .ref a ∧ TpN K H1 a xs) ∧ t σ H1 fun xs H2 => r x xs H2 Q
theorem tpn_is {pins : List (Addr × Obj)} {σ : L2.St} {H : Hp} {s : Shared} {a : Addr} {xs : List V} (I : Inv X pins σ H s) (h : TpN X.K H a xs) : s.TypeIs (.ref a) "tuple" ∧ ∀ b, Value.ref a = .ref b → ∃ ob, s.heap.get? b = some ob ∧ ob.dict = none := by
  rcases h with ⟨o, d, h⟩ | ⟨o, its, n, d, h, c, _⟩
  · obtain ⟨e, _, its, _, ob, e2, c, _⟩ := I.hok a _ h
    rw [e] at e2
    cases e2
    exact ⟨⟨o, e, c⟩, fun b z => by cases z; exact ⟨o, e, d⟩⟩
  · have e := I.kIn _ o h
    exact ⟨⟨o, e, c⟩, fun b z => by cases z; exact ⟨o, e, d⟩⟩
theorem pe_bmT {o : Expr} {to : TE} {t : TA} {name : Str} {apos cpos : Pos} {id : String} {r : V → List V → Hp → VK → Prop} (slot : PySem.Slot "tuple" name id) (hty : typeOf (.builtin id) = pure (.type "method_descriptor")) (hm : MtR X id r) (ho : PE X o to) (ha : PA X (e :: es) t)
    (hbase : attributeBase o name X.env (eval o X.env) = eval o X.env := by rfl)
    (hfew : ((backTo cpos (starEach (e :: es) X.env)).all (fun x => !x.1) && (backToKw cpos (keywordEach [] X.env)).all (fun x => x.1.isSome)
      && decide ((e :: es).length + ([] : List Keyword).length + (if ([] : List Keyword).isEmpty then 0 else 1) < 30)) = true := by rfl)
    (hline : (apos.endLine == cpos.line) = true := by rfl) (hs : starEach (e :: es) X.env = (false, eval e X.env) :: starEach es X.env := by rfl) (hplain : (backTo cpos (starEach es X.env)).any (·.1) = false := by rfl) :
    PE X (.Call (.Attribute o name apos) (e :: es) [] cpos) (tBMT X.K r to t) := by
  refine ⟨fun pins s σ H Q I h => ?_⟩
  refine wpAny_Call_method_late hbase hfew hline rfl (thn (ho.run pins s σ H _ I h) fun v s1 ⟨x, H1, I1, r1, ty, q1⟩ => ?_)
  obtain ⟨a, xs, ex, tn⟩ := ty
  subst ex
  obtain ⟨h1, h2⟩ := tpn_is I1 tn
  cases r1
  refine ⟨"tuple", id, PySem.F.plainAttrs_tuple, slot, hty, h1, h2, ?_⟩
  have hA := ha.run cpos pins s1 σ H1 _ I1 q1
  rw [hs] at hA ⊢
  refine Calls.callWith_builtin (by show (false || (backTo cpos (starEach es X.env)).any (·.1)) = false; rw [hplain] <;> rfl) (Calls.evalArgs_plain ?_)
  exact thn hA fun us s2 ⟨vs, H2, I2, r2, q2⟩ => hm pins s2 σ H2 (.ref a) vs (.ref a) us Q I2 rfl r2 q2
/-- xs.count(k) of ints -/
def rCnt (t : Bool) (ro ra : RE) : RE := fun ρ Q => ro ρ fun w ρ1 => (∃ ds, sq ρ1 w = some (t, ds)) ∧ ra ρ1 (kInt fun k ρ2 => ∃ ns : List Int, sq ρ2 w = some (t, ns.map D.int) ∧ Q (.d (.int (ns.count k : Nat))) ρ2)
theorem mo_rCnt {t : Bool} {ro ra : RE} (ho : MonoE ro) (ha : MonoE ra) : MonoE (rCnt t ro ra) := fun ρ P P' w q => ho ρ _ _ (fun w1 ρ1 ⟨h, q⟩ => ⟨h, ha ρ1 _ _ (fun w2 ρ2 q => by
    obtain ⟨k, rfl, ns, e, q⟩ := q.el
    exact ⟨ns, e, w _ _ q⟩) q⟩) q
theorem de_count {o : Expr} {apos : Pos} {ro ra : RE} (ho : DE X B M o ro) (ha : DE X B M a ra)
    (hbase : attributeBase o "count" X.env (eval o X.env) = eval o X.env := by rfl)
    (hfew : ((backTo pos (starEach [a] X.env)).all (fun x => !x.1) && (backToKw pos (keywordEach [] X.env)).all (fun x => x.1.isSome)
      && decide ([a].length + ([] : List Keyword).length + (if ([] : List Keyword).isEmpty then 0 else 1) < 30)) = true := by rfl)
    (hline : (apos.endLine == pos.line) = true := by rfl) (hs : starEach [a] X.env = (false, eval a X.env) :: starEach [] X.env := by rfl) (hplain : (backTo pos (starEach [] X.env)).any (·.1) = false := by rfl) :
    DE X B M (.Call (.Attribute o "count" apos) [a] [] pos) (rCnt false ro ra) := by
  refine DE.mk' (pe_bm PySem.F.plainAttrs_list PySem.F.slot_list_count PySem.F.type_list_count mt_lcount ho.pe (pa_cons ha.pe pa_nil hs) hbase hfew hline hs hplain) (mo_rCnt ho.mo ha.mo) fun σ H Q ρ S q => ?_
  refine into ho S q fun w ρ1 v H1 ⟨⟨ds, e0⟩, q⟩ k1 o1 S1 r1 => ?_
  obtain ⟨p0, vs0, rfl, s0, _⟩ := sq_read S1 r1 e0
  refine ⟨.inl ⟨rfl, vs0, .inl s0⟩, into ha S1 q fun w2 ρ2 v2 H2 hh k2 o2 S2 r2 => ?_⟩
  obtain ⟨k, e1, ns, e2, q⟩ := hh.el
  subst e1
  obtain ⟨p, vs, ep, s, rr⟩ := sq_read S2 (WOk.keep k2 o2 r1) e2
  have ev := RepL.ints rr
  subst ev
  exact ⟨p, ns, k, ep, by rw [show v2 = V.int k from r2], .inl s, q _ H2 (k1.trans k2) (o1.trans o2) S2 rfl⟩
theorem de_countT {o : Expr} {apos : Pos} {ro ra : RE} (ho : DE X B M o ro) (ha : DE X B M a ra)
    (hbase : attributeBase o "count" X.env (eval o X.env) = eval o X.env := by rfl)
    (hfew : ((backTo pos (starEach [a] X.env)).all (fun x => !x.1) && (backToKw pos (keywordEach [] X.env)).all (fun x => x.1.isSome)
      && decide ([a].length + ([] : List Keyword).length + (if ([] : List Keyword).isEmpty then 0 else 1) < 30)) = true := by rfl)
    (hline : (apos.endLine == pos.line) = true := by rfl) (hs : starEach [a] X.env = (false, eval a X.env) :: starEach [] X.env := by rfl) (hplain : (backTo pos (starEach [] X.env)).any (·.1) = false := by rfl) :
    DE X B M (.Call (.Attribute o "count" apos) [a] [] pos) (rCnt true ro ra) := by
  refine DE.mk' (pe_bmT PySem.F.slot_tuple_count PySem.F.type_tuple_count mt_tcount ho.pe (pa_cons ha.pe pa_nil hs) hbase hfew hline hs hplain) (mo_rCnt ho.mo ha.mo) fun σ H Q ρ S q => ?_
  refine into ho S q fun w ρ1 v H1 ⟨⟨ds, e0⟩, q⟩ k1 o1 S1 r1 => ?_
  obtain ⟨p0, vs0, rfl, s0, _⟩ := sq_read S1 r1 e0
  refine ⟨⟨p0, vs0, rfl, s0⟩, into ha S1 q fun w2 ρ2 v2 H2 hh k2 o2 S2 r2 => ?_⟩
  obtain ⟨k, e1, ns, e2, q⟩ := hh.el
  subst e1
  obtain ⟨p, vs, ep, s, rr⟩ := sq_read S2 (WOk.keep k2 o2 r1) e2
  have ev := RepL.ints rr
  subst ev
  exact ⟨p, ns, k, ep, by rw [show v2 = V.int k from r2], TpN.sq s, q _ H2 (k1.trans k2) (o1.trans o2) S2 rfl⟩
/-! ### len(set(t)) of a tuple of ints -/
def tLenSetT (K : PySem.W.Frag) (ta : TE) : TE := fun σ H Q => ta σ H fun x H1 => ∃ (l : Addr) (ns : List Int), x = .ref l ∧ SqT K H1 l (ns.map V.int) ∧ ns.length ≤ 4000 ∧ ∀ us : List Int, us.Nodup → (∀ k, k ∈ us ↔ k ∈ ns) → Q (.int (us.length : Nat)) H1
theorem pe_lenSetT {ta : TE} {p p2 q : Pos} (hc : X.calm = true) (hg : Gl X "len") (hm : X.mg "len" = none) (hg2 : Gl X "set") (hm2 : X.mg "set" = none) (ha : PE X a ta)
    (na : starEach [a] X.env = (false, eval a X.env) :: starEach [] X.env := by rfl) : PE X (.Call (.Name "len" p) [.Call (.Name "set" p2) [a] [] q] [] pos) (tLenSetT X.K ta) := by
  refine ⟨fun pins s σ H Q I h => ?_⟩
  refine Call_ (ld_blt I hg hm PySem.boot_len ?_)
  refine PyProof.Rows.callWith_builtin1 (PyProof.Rows.args_cons ?_ rfl) rfl rfl
  refine Call_ (ld_blt I hg2 hm2 PyProof.Rows.boot_set ?_)
  refine PyProof.Rows.callWith_type1 (PyProof.Rows.args_cons (thn (ha.run pins s σ H _ I h) fun v s1 ⟨x, H1, I1, r1, q1⟩ => PyProof.Rows.args_nil ?_) na) na rfl
  obtain ⟨l, ns, rfl, hq, hl, q1⟩ := q1
  cases r1
  obtain ⟨its, r, pl, hz⟩ := I1.tuple hq
  refine call_set_tupI ns (I1.ok.hd hc) pl (by simpa using ints_of_vals r) (by unfold scanBound; omega) fun h' tk c R1 hcn hk => ?_
  refine PyProof.Rows.args_nil ?_
  obtain ⟨o, es, ep, t, ho, hex, hd, g, nd, hm3, hb, hf, hn, _⟩ := R1
  have I2 : Inv X pins σ H1 { s1 with heap := h', toks := tk } := I1.kept hk
  refine call_len_set ho hex hd hf (by rw [hn]; omega) ⟨.int (es.size : Nat), H1, I2.tok _, ⟨_, rfl⟩, ?_⟩
  have := q1 (es.toList.map keyOf) nd fun k => by rw [← hm3 k, decide_eq_true_eq]
  rw [List.length_map, Array.length_toList] at this
  exact this
def rLenSet (ra : RE) : RE := fun ρ Q => ra ρ fun w ρ1 => ∃ ns : List Int, sq ρ1 w = some (true, ns.map D.int) ∧ ns.length ≤ 4000 ∧ ∀ us : List Int, us.Nodup → (∀ k, k ∈ us ↔ k ∈ ns) → Q (.d (.int (us.length : Nat))) ρ1
theorem de_lenset {p p2 q : Pos} {ra : RE} (hm : X.mg "len" = none) (hm2 : X.mg "set" = none) (ha : DE X B M a ra) (hc : X.calm = true := by rfl) (hg : Gl X "len" := by rfl) (hg2 : Gl X "set" := by rfl)
    (na : starEach [a] X.env = (false, eval a X.env) :: starEach [] X.env := by rfl) : DE X B M (.Call (.Name "len" p) [.Call (.Name "set" p2) [a] [] q] [] pos) (rLenSet ra) :=
  DE.mk' (pe_lenSetT hc hg hm hg2 hm2 ha.pe na) (fun ρ P P' w q => ha.mo ρ _ _ (fun w1 ρ1 ⟨ns, e, l, q⟩ => ⟨ns, e, l, fun us h1 h2 => w _ _ (q us h1 h2)⟩) q) fun σ H Q ρ S q => into ha S q fun w ρ1 v H1 ⟨ns, e, l, q⟩ k o S1 r => by
    obtain ⟨p, vs, rfl, s, rr⟩ := sq_read S1 r e
    have ev := RepL.ints rr
    subst ev
    exact ⟨p, ns, rfl, TpN.sq s, l, fun us h1 h2 => q us h1 h2 _ H1 k o S1 rfl⟩
/-! ### == and != of data -/
mutual
def pd : D → Option PyData
  | .non => some .none
  | .bl b => some (.bool b)
  | .int i => some (.int i)
  | .str s => some (.str s)
  | .tup ds => (pdAll ds).map PyData.tuple
  | .lst ds => (pdAll ds).map PyData.list
  | .dic _ => none
  | .obj _ => none
  | .ins _ _ _ => none
  | .ty _ => none
def pdAll : List D → Option (List PyData)
  | [] => some []
  | d :: ds => match pd d, pdAll ds with
    | some p, some ps => some (p :: ps)
    | _, _ => none
end
theorem pdAll_cons {d : D} {ds : List D} {ps : List PyData} (h : pdAll (d :: ds) = some ps) : ∃ p qs, pd d = some p ∧ pdAll ds = some qs ∧ ps = p :: qs := by
  rw [pdAll] at h
  cases e1 : pd d with
  | none => rw [e1] at h; cases h
  | some p =>
    cases e2 : pdAll ds with
    | none => rw [e1, e2] at h; cases h
    | some qs =>
      rw [e1, e2] at h
      cases h
      exact ⟨p, qs, rfl, rfl, rfl⟩
mutual
theorem dp_of {K : PySem.W.Frag} {H : Hp} : ∀ (d : D) {v : V} {p : PyData}, Rep K H d v → pd d = some p → Dp K H v p
  | .non, _, _, r, h => by rw [show _ = V.non from r]; rw [pd] at h; cases h; exact .non
  | .bl b, _, _, r, h => by rw [show _ = V.bl b from r]; rw [pd] at h; cases h; exact .bl b
  | .int b, _, _, r, h => by rw [show _ = V.int b from r]; rw [pd] at h; cases h; exact .int b
  | .str b, _, _, r, h => by rw [show _ = V.str b from r]; rw [pd] at h; cases h; exact .str b
  | .tup ds, _, _, r, h => by
    obtain ⟨a, vs, rfl, s, rr⟩ := r
    rw [pd] at h
    obtain ⟨qs, e, h⟩ := Option.map_eq_some_iff.mp h
    rw [← h]
    exact .tup (TpN.sq s) (dpAll_of ds rr e)
  | .lst ds, _, _, r, h => by
    obtain ⟨a, vs, rfl, s, rr⟩ := r
    rw [pd] at h
    obtain ⟨qs, e, h⟩ := Option.map_eq_some_iff.mp h
    rw [← h]
    exact .lst (FzL.sq s) (dpAll_of ds rr e)
  | .dic _, _, _, _, h => by rw [pd] at h; cases h
  | .obj _, _, _, _, h => by rw [pd] at h; cases h
  | .ins _ _ _, _, _, _, h => by rw [pd] at h; cases h
  | .ty _, _, _, _, h => by rw [pd] at h; cases h
theorem dpAll_of {K : PySem.W.Frag} {H : Hp} : ∀ (ds : List D) {vs : List V} {ps : List PyData}, RepL K H ds vs → pdAll ds = some ps → DpAll K H vs ps
  | [], _, _, r, h => by rw [show _ = [] from r]; rw [pdAll] at h; cases h; exact .nil
  | d :: ds, _, _, r, h => by
    obtain ⟨v, vr, rfl, r1, r2⟩ := r
    obtain ⟨p, qs, e1, e2, rfl⟩ := pdAll_cons h
    exact .cons (dp_of d r1 e1) (dpAll_of ds r2 e2)
end
def pdW (ρ : En) : W → Option PyData
  | .d x => pd x
  | .o i => match ρ[i]? with
    | some (.own _ ds) => (pdAll ds).map PyData.list
    | _ => none
theorem dpW_of {K : PySem.W.Frag} {H : Hp} {ρ : En} {σ : L2.St} (S : Sta K B M ρ σ H) {w : W} {v : V} {p : PyData} (r : WOk K H ρ w v) (h : pdW ρ w = some p) : Dp K H v p := by
  cases w with
  | d x => exact dp_of x r h
  | o i =>
    obtain ⟨q, ds, e, rfl⟩ := r
    obtain ⟨vs, hv, rr⟩ := S.own_at e
    have h : (match ρ[i]? with
      | some (.own _ ds) => (pdAll ds).map PyData.list
      | _ => none) = some p := h
    rw [e] at h
    obtain ⟨qs, e2, h⟩ := Option.map_eq_some_iff.mp h
    rw [← h]
    exact .lst (.inl (.inl hv)) (dpAll_of ds rr e2)
def oEqD (f : Bool → Bool) : O2 := fun w1 w2 ρ P => ∃ p q, pdW ρ w1 = some p ∧ pdW ρ w2 = some q ∧ SeqAt.shaped p = true ∧ SeqAt.shaped q = true ∧ P (.bl (f (PyData.eqv p q)))
theorem mo_oEqD {f : Bool → Bool} : MonoO (oEqD f) := fun x y ρ P P' h ⟨p, q, e1, e2, s1, s2, r⟩ => ⟨p, q, e1, e2, s1, s2, h _ r⟩
theorem tells_eqD {K : PySem.W.Frag} : Tells2 K (rEqD K) (oEqD id) := fun B M ρ σ H w1 w2 x y Q P S r1 r2 ⟨p, q, e1, e2, s1, s2, h⟩ hq => ⟨p, q, dpW_of S r1 e1, dpW_of S r2 e2, s1, s2, hq _ _ H h (Same.refl _) rfl⟩
theorem tells_neD {K : PySem.W.Frag} : Tells2 K (rNeD K) (oEqD not) := fun B M ρ σ H w1 w2 x y Q P S r1 r2 ⟨p, q, e1, e2, s1, s2, h⟩ hq => ⟨p, q, dpW_of S r1 e1, dpW_of S r2 e2, s1, s2, hq _ _ H h (Same.refl _) rfl⟩
theorem de_eqD {k : Nat} (hr : Room k X.A) {ra rb : RE} (ha : DE X B M a ra) (hb : DE X B M b rb) : DE X B M (.Compare a [.Eq] [b] pos) (r2 ra rb (oEqD id)) := de_cmp (op_eqD hr.units) tells_eqD mo_oEqD ha hb (nomark _)
theorem de_neD {k : Nat} (hr : Room k X.A) {ra rb : RE} (ha : DE X B M a ra) (hb : DE X B M b rb) : DE X B M (.Compare a [.NotEq] [b] pos) (r2 ra rb (oEqD not)) := de_cmp (op_neD hr.units) tells_neD mo_oEqD ha hb (nomark _)
theorem dt_eqD {k : Nat} (hr : Room k X.A) {ra rb : RE} (ha : DE X B M a ra) (hb : DE X B M b rb) : DT X B M (.Compare a [.Eq] [b] pos) (rTB (r2 ra rb (oEqD id))) := dt_cmp (op_eqD hr.units) tells_eqD mo_oEqD ha hb (nomark _)
theorem dt_neD {k : Nat} (hr : Room k X.A) {ra rb : RE} (ha : DE X B M a ra) (hb : DE X B M b rb) : DT X B M (.Compare a [.NotEq] [b] pos) (rTB (r2 ra rb (oEqD not))) := dt_cmp (op_neD hr.units) tells_neD mo_oEqD ha hb (nomark _)
end
/-! ### dicts, locked when made -/
section
variable {X : Cx} {pins : List (Addr × Obj)} {σ : L2.St} {H : Hp} {s : Shared}
theorem Inv.freezeD {p : Addr} {xs : List (Key × V)} (I : Inv X pins σ H s) (hp : H p = some (.dK xs)) : ∃ o : Obj, o.cls = .type "dict" ∧ Inv X pins σ (upd H p (.frz o (.dK xs))) s := by
  obtain ⟨z, y, vs, r, o, es, ep, e, ex, c⟩ := I.hok p _ hp
  have ne : ∀ b u, H b = some u → (∀ ys, u ≠ .dK ys) → b ≠ p := fun b u h nu w => by
    rw [w, hp] at h
    cases h
    exact nu xs rfl
  have nn : ∀ b, H b = none → b ≠ p := fun b h w => by
    rw [w, hp] at h
    cases h
  refine ⟨o, ex.1, ⟨I.ok, I.os, I.bare, I.base.trans ⟨fun b o q _ _ _ => q, fun b o q _ _ _ => ⟨o.slots, q⟩, fun b o q n _ => by rw [upd_ne (nn b n)]; exact n, fun b o q _ => ⟨o, q⟩,
    fun b ys q => by rw [upd_ne (ne b _ q (fun _ w => by cases w))]; exact q, fun b o u q => by rw [upd_ne (ne b _ q (fun _ w => by cases w))]; exact q, fun b ps q => ⟨#[], by rw [upd_ne (ne b _ q (fun _ w => by cases w)), q]; simp⟩⟩,
    I.loc, I.cell, by rw [upd_ne (nn _ I.free)]; exact I.free, fun x c h => by rw [upd_ne (nn _ (I.freeC x c h))]; exact I.freeC x c h, fun q hq => ?_, fun b u q => ?_, I.len⟩⟩
  · obtain ⟨h1, h2, h3⟩ := I.pin q hq
    exact ⟨h1, by rw [upd_ne (nn _ h2)]; exact h2, h3⟩
  · by_cases hb : b = p
    · rw [hb, upd_same] at q
      cases q
      rw [hb]
      exact ⟨e, z, y, vs, r, o, es, ep, e, ex, c⟩
    · rw [upd_ne hb] at q
      refine (I.hok b u q).stay (fun _ _ _ w => w) (fun c w => by rw [upd_ne (ne c _ w (fun _ w2 => by cases w2))]; exact w) fun c ys w => by rw [upd_ne (ne c _ w (fun _ w2 => by cases w2))]; exact w
def frzDQ (Q : VK) : VK := fun v H => ∃ p xs, v = .ref p ∧ H p = some (.dK xs) ∧ ∀ o : Obj, o.cls = .type "dict" → Q v (upd H p (.frz o (.dK xs)))
theorem EP.frzD {Q : VK} {u : Value} (h : EP X pins σ (frzDQ Q) u s) : EP X pins σ Q u s := by
  obtain ⟨v, H', I, r, p, xs, ev, hp, q⟩ := h
  obtain ⟨o, hc, J⟩ := Inv.freezeD I hp
  exact ⟨v, _, J, r, q o hc⟩
end
theorem pe_frzD {X : Cx} {e : Expr} {t : TE} (h : PE X e t) : PE X e (fun σ H Q => t σ H (frzDQ Q)) := ⟨fun pins s σ H Q I w => thn (h.run pins s σ H _ I w) fun _ _ q => EP.frzD q⟩
section
variable {X : Cx} {B : Hp} {M : List Addr} {e a b c : Expr} {es : List Expr} {pos : Pos}
theorem de_dic0 : DE X B M (.Dict [] [] pos) (rC (.dic [])) :=
  DE.mk' (pe_frzD pe_dnewK) mo_rC fun σ H Q ρ S q => fun p hp => ⟨p, [], rfl, upd_same, fun o hc => by
    have sm : Same H (upd (upd H p (.dK [])) p (.frz o (.dK []))) := fun b u h => by
      rw [upd_ne (ne_of_none h hp), upd_ne (ne_of_none h hp)]
      exact h
    exact q _ _ (Keep.of sm) (OwnEq.refl _) (S.same sm) ⟨p, rfl, o, hc, upd_same⟩⟩
/-- {k: v} of two ints -/
theorem de_dic1 {k v : Int} {j1 j2} {p1 p2 : Pos} : DE X B M (.Dict [some (.Constant (.int k) j1 p1)] [.Constant (.int v) j2 p2] pos) (rC (.dic [(.inl k, .int v)])) :=
  DE.mk' (pe_frzD (pe_disp (pps_cons pe_int pe_int pps_nil) rfl rfl (by simp) (by show 1 ≤ 15; decide))) mo_rC fun σ H Q ρ S q => fun p hp => by
    refine ⟨upd_same, [(.inl k, .int v)], rfl, by show 1 ≤ 15; decide, ⟨p, _, rfl, upd_same, fun o hc => ?_⟩⟩
    have sm : Same H (upd (upd (upd H p (.dK [])) p (.dK (mergeK [] [(.inl k, .int v)]))) p (.frz o (.dK (mergeK [] [(.inl k, .int v)])))) := fun b u h => by
      rw [upd_ne (ne_of_none h hp), upd_ne (ne_of_none h hp), upd_ne (ne_of_none h hp)]
      exact h
    exact q _ _ (Keep.of sm) (OwnEq.refl _) (S.same sm) ⟨p, rfl, o, hc, upd_same⟩
end
/-! ### defs with defaults -/
/-- the def of that name, called with fewer arguments than it has: dd the data that fill up -/
def HasD (P : Program) (w : World) (K : PySem.W.Frag) (mg : Str → Option Value) (base : Heap) (x : Str) (k : Nat) (ps : List Str) (dd : List V) (sp : Sp) : Prop :=
  ∃ f fd ds, mg x = some (.ref f) ∧ PySem.W.keepIn K (.ref f) = true ∧ Vals dd ds ∧ Binds K fd ps ds ∧ FnOk P w K mg base (L2N.CX P w) k f fd ps sp
section
variable {X : Cx} {B : Hp} {M : List Addr} {e a b c : Expr} {es : List Expr} {pos : Pos}
/-- values that are ints -/
def intD (ns : List Int) : List V := ns.map V.int
def rCallD (S : FS) (ra : RA) (dd : List Int) (Xp : Exn → Prop) : RE := fun ρ Q => ra ρ fun ws ρ1 => ∃ g, ws ++ dats (dd.map D.int) = dats (S.args g) ∧ S.pre g ∧ (∀ d, S.post g d → Q (.d d) ρ1) ∧ ∀ x, S.exc g x → Xp x
theorem woks_app {K : PySem.W.Frag} {H : Hp} {ρ : En} : ∀ {ws us : List W} {vs vr : List V}, WOks K H ρ ws vs → WOks K H ρ us vr → WOks K H ρ (ws ++ us) (vs ++ vr)
  | [], _, _, _, h, h' => by rw [show _ = [] from h]; exact h'
  | w :: ws, _, _, _, h, h' => by
    obtain ⟨v, vr, rfl, r, rr⟩ := h
    exact ⟨v, _, rfl, r, woks_app rr h'⟩
theorem woks_ints {K : PySem.W.Frag} {H : Hp} {ρ : En} : ∀ ns : List Int, WOks K H ρ (dats (ns.map D.int)) (intD ns)
  | [] => rfl
  | n :: ns => ⟨_, _, rfl, rfl, woks_ints ns⟩
theorem de_callXD {x : Str} {k : Nat} {ps : List Str} {S : FS} {dd : List Int} {ra : RA} {p : Pos} {E : XK} {Xp : Exn → Prop} (G : HasD X.prog X.w X.K X.mg X.base x k ps (intD dd) (spF X.K S)) (hr : Room k X.A) (hx : Passes (L2N.CX X.prog X.w) X E)
    (hE : ∀ x cls dx H', Xp x → Frm M B H' → XRep X.K H' x cls dx → E cls dx H') (ha : DA X B M (a :: es) ra) (hg : Gl X x := by rfl) (hdb : (x == ("__debug__" : Str)) = false := by decide) (he : starEach (a :: es) X.env = (false, eval a X.env) :: starEach es X.env := by rfl) (hpl : (backTo pos (starEach es X.env)).any (·.1) = false := by rfl) :
    DE X B M (.Call (.Name x p) (a :: es) [] pos) (rCallD S ra dd Xp) := by
  obtain ⟨f, fd, ds, hm, hk, hv, hb, F⟩ := G
  refine DE.mk' (pe_call F hr hg hm hk hb hv hx ha.pa hdb he hpl) (fun ρ P P' w q => ha.mo ρ _ _ (fun ws ρ1 ⟨g, e, p, h1, h2⟩ => ⟨g, e, p, fun d hd => w _ _ (h1 d hd), h2⟩) q) fun σ H Q ρ Sx q => ?_
  refine intoA ha Sx q fun ws ρ1 vs H1 ⟨g, e1, pre, h1, h2⟩ k1 o1 S1 r1 => ?_
  have r2 := woks_app r1 (woks_ints (K := X.K) (H := H1) (ρ := ρ1) dd)
  rw [e1] at r2
  refine ⟨g, dats_ok r2, pre, fun d v H' hd fr rv => ?_, fun x cls dx H' hx fr rx => ?_⟩
  · exact h1 d hd v H' (k1.trans fr.keep) o1 (S1.same fr.same) rv
  · exact hE x cls dx H' (h2 x hx) (S1.frm.trans (Frm.of fr.same)) rx
theorem de_callD {x : Str} {k : Nat} {ps : List Str} {S : FS} {dd : List Int} {ra : RA} {p : Pos} (G : HasD X.prog X.w X.K X.mg X.base x k ps (intD dd) (spF X.K S)) (hr : Room k X.A) (ha : DA X B M (a :: es) ra) (hg : Gl X x := by rfl) (hdb : (x == ("__debug__" : Str)) = false := by decide) (he : starEach (a :: es) X.env = (false, eval a X.env) :: starEach es X.env := by rfl) (hpl : (backTo pos (starEach es X.env)).any (·.1) = false := by rfl) :
    DE X B M (.Call (.Name x p) (a :: es) [] pos) (rCallD S ra dd fun _ => False) := de_callXD G hr passN (fun _ _ _ _ z => z.elim) ha hg hdb he hpl
/-- a lent list with defaults behind -/
def rCallSD (S : SS) (i : Nat) (ra : RA) (dd : List Int) : RE := fun ρ Q => kOwn i (fun _ _ => ra ρ fun ws ρ1 => kOwn i (fun p s => ∃ g, ws ++ dats (dd.map D.int) = dats (S.args g) ∧ S.s0 g s ∧ S.pre g ∧ ∀ d s', S.post g d → S.s1 g s' → Q (.d d) (ρ1.set i (.own p s'))) ρ1) ρ
theorem de_callSD {x : Str} {k : Nat} {ps : List Str} {S : SS} {dd : List Int} {ra : RA} {p ps' : Pos} {y : Str} {i : Nat} (G : HasD X.prog X.w X.K X.mg X.base x k ps (intD dd) (spS X.K S)) (hr : Room k X.A) (hy : DE X B M (.Name y ps') (rVar i)) (ha : DA X B M es ra) (hg : Gl X x := by rfl) (hdb : (x == ("__debug__" : Str)) = false := by decide)
    (he : starEach (.Name y ps' :: es) X.env = (false, eval (.Name y ps') X.env) :: starEach es X.env := by rfl) (hpl : (backTo pos (starEach es X.env)).any (·.1) = false := by rfl) : DE X B M (.Call (.Name x p) (.Name y ps' :: es) [] pos) (rCallSD S i ra dd) := by
  obtain ⟨f, fd, dsv, hm, hk, hv, hb, F⟩ := G
  refine DE.mk' (pe_call F hr hg hm hk hb hv passN (pa_cons hy.pe ha.pa he) hdb he hpl) (fun ρ P P' w q => q.imp fun _ _ q => ha.mo ρ _ _ (fun ws ρ1 q => q.imp fun p s ⟨g, e1, hs, pre, h1⟩ => ⟨g, e1, hs, pre, fun d s' hd hs' => w _ _ (h1 d s' hd hs')⟩) q) fun σ H Q ρ Sx hh => ?_
  obtain ⟨p0, s0, e0, q⟩ := hh.el
  refine into hy Sx (P := fun w ρ' => w = .o i ∧ ρ' = ρ) (rVar.mk (w := .o i) (by unfold rd; rw [e0]) ⟨rfl, rfl⟩) fun w ρ' vo H1 ⟨ew, eρ⟩ k1 o1 S1 r1 => ?_
  subst ew eρ
  refine intoA ha S1 q fun ws ρ1 vs H2 hh k2 o2 S2 r2 => ?_
  obtain ⟨p, s, e2, g, e1, hs, pre, h1⟩ := hh.el
  obtain ⟨p', s', e3, ev⟩ := WOk.keep k2 o2 r1
  rw [e2] at e3
  cases e3
  obtain ⟨vs0, hp, rr⟩ := S2.own_at e2
  have r3 := woks_app r2 (woks_ints (K := X.K) (H := H2) (ρ := ρ1) dd)
  rw [e1] at r3
  refine ⟨g, p, vs0, s, vs ++ intD dd, by rw [ev]; rfl, hp, rr, hs, dats_ok r3, pre, fun d s2 v H' vs' hd hs2 fr hp' rr' rv => ?_⟩
  exact h1 d s2 hd hs2 v H' ((k1.trans k2).trans fr.keep) ((o1.trans o2).trans (own_mut e2)) (S2.called e2 fr hp' rr') rv
end
/-! ### a def of the module keeps its promise -/
section
variable {P : Program} {w : World} {K : PySem.W.Frag} {mg : Str → Option Value} {base : Heap} {x qual : Str} {params : Arguments} {body : List Stmt} {scope : Scope} {f : Addr} {fd : FuncData}
theorem has_of {ps : List Str} {k : Nat} {sp : Sp} (F : FunD K x qual params body scope [] [] f fd) (gm : mg x = some (.ref f)) (ok : FnOk P w K mg base (L2N.CX P w) k f fd ps sp)
    (h : ∀ (kV doc pm : Value) (an : Option Addr) (cdv ct : Value) (us : List Value), us.length = ps.length → bindArgs (PySem.W.fnOf x qual params body scope .none kV doc pm an cdv ct) ⟨us, []⟩ = pure (ps.zip us)) : Has P w K mg base x k ps sp :=
  ⟨f, fd, gm, F.kp, F.bindsN h, ok⟩
theorem hasD_of {ps : List Str} {k n j : Nat} {dd : List Int} {sp : Sp} (F : FunD K x qual params body scope (intD dd) [] f fd) (gm : mg x = some (.ref f)) (ok : FnOk P w K mg base (L2N.CX P w) k f fd ps sp) (hd : intD dd ≠ []) (hn : n + ((intD dd).length - j) = ps.length)
    (h : ∀ (T : Addr) (kV doc pm : Value) (an : Option Addr) (cdv ct : Value) (us its : List Value), us.length = n → its.length = (intD dd).length →
      ∃ k, bindArgs (PySem.W.fnOf x qual params body scope (.ref T) kV doc pm an cdv ct) ⟨us, []⟩ = seqItems? (.ref T) >>= k ∧ k (some its.toArray) = pure (ps.zip (us ++ its.drop j))) : HasD P w K mg base x k ps ((intD dd).drop j) sp := by
  obtain ⟨ds, hv, hb⟩ := F.binds1 n j hd hn h
  exact ⟨f, fd, ds, gm, F.kp, hv, hb, ok⟩
end
end N
/-! N8 -/
set_option Elab.async false
set_option linter.all false
set_option maxRecDepth 100000
set_option maxHeartbeats 1000000
/-! N8: lists without a name of their own (inner lists that are changed). -/
namespace N
open PySem PySem.Spec PyProof.Rows L2
section
variable {K : PySem.W.Frag} {B H H' : Hp} {M : List Addr} {ρ : En} {σ : L2.St}
theorem app_at {ρ : En} {s t : Slot} {i : Nat} (h : (ρ ++ [s])[i]? = some t) : (i < ρ.length ∧ ρ[i]? = some t) ∨ (i = ρ.length ∧ t = s) := by
  by_cases hi : i < ρ.length
  · rw [List.getElem?_append_left hi] at h
    exact .inl ⟨hi, h⟩
  · rw [List.getElem?_append_right (by omega)] at h
    by_cases e : i = ρ.length
    · subst e
      rw [Nat.sub_self] at h
      exact .inr ⟨rfl, by simpa using h.symm⟩
    · have : ([s] : En)[i - ρ.length]? = none := List.getElem?_eq_none_iff.mpr (by simp; omega)
      rw [this] at h
      cases h
theorem Sta.ghost {p : Addr} {ds : List D} (S : Sta K B M ρ σ H) (n : NewAt K B ρ H p ds) (hl : σ.length ≤ ρ.length) : Sta K B M (ρ ++ [.own p ds]) σ H := by
  refine ⟨S.frm, fun i s e => ?_, fun i j q q' fs gs ei ej hij => ?_, fun i q fs e => ?_, S.mh, fun i P q e => by
    rcases app_at e with ⟨_, e⟩ | ⟨_, e⟩
    · exact S.tbi i P q e
    · cases e⟩
  · rcases app_at e with ⟨_, e⟩ | ⟨hi, e⟩
    · exact S.ok i s e
    · subst e
      exact ⟨.inl (List.getElem?_eq_none_iff.mpr (by omega)), n.at_⟩
  · rcases app_at ei with ⟨_, ei⟩ | ⟨hi, ei⟩
    · rcases app_at ej with ⟨_, ej⟩ | ⟨hj, ej⟩
      · exact S.dis i j q q' fs gs ei ej hij
      · cases ej
        exact n.nO i q fs ei
    · rcases app_at ej with ⟨_, ej⟩ | ⟨hj, ej⟩
      · cases ei
        exact Ne.symm (n.nO j q' gs ej)
      · exact absurd (hi.trans hj.symm) hij
  · rcases app_at e with ⟨_, e⟩ | ⟨hi, e⟩
    · exact S.new i q fs e
    · cases e
      exact .inl n.nB
theorem own_ghost {s : Slot} : OwnEq ρ (ρ ++ [s]) := fun i p ds e => ⟨ds, by rw [List.getElem?_append_left (List.getElem?_eq_some_iff.mp e).1]; exact e⟩
/-- the lists behind the n names are forgotten -/
theorem Sta.take (S : Sta K B M ρ σ H) (n : Nat) : Sta K B M (ρ.take n) σ H := by
  have look : ∀ {i : Nat} {s : Slot}, (ρ.take n)[i]? = some s → ρ[i]? = some s := fun {i s} e => by
    rw [List.getElem?_take] at e
    split at e
    · exact e
    · cases e
  exact ⟨S.frm, fun i s e => S.ok i s (look e), fun i j p q fs gs ei ej => S.dis i j p q fs gs (look ei) (look ej), fun i p fs e => S.new i p fs (look e), S.mh, fun i P q e => S.tbi i P q (look e)⟩
/-- every a of as is the list ds that some slot behind n owns -/
inductive Gh (ρ : En) (n : Nat) : List Addr → List (List D) → Prop
  | nil : Gh ρ n [] []
  | cons {a : Addr} {as : List Addr} {ds : List D} {dss : List (List D)} {j : Nat} (hj : n ≤ j) (e : ρ[j]? = some (.own a ds)) (r : Gh ρ n as dss) : Gh ρ n (a :: as) (ds :: dss)
theorem repL_obj : ∀ {as : List Addr} {vs : List V}, RepL K H (as.map D.obj) vs → vs = as.map V.ref
  | [], _, h => h
  | a :: as, _, h => by
    obtain ⟨v, vr, e, r, rr⟩ := h
    rw [e, show v = V.ref a from r, repL_obj rr]
    rfl
end
section
variable {X : Cx} {pins : List (Addr × Obj)} {σ : L2.St} {s : Shared} {B : Hp} {M : List Addr}
theorem glock : ∀ {as : List Addr} {dss : List (List D)} {ρ : En} {n : Nat} {H : Hp}, Gh ρ n as dss → as.Nodup → Inv X pins σ H s → Sta X.K B M ρ σ H →
    ∃ H', Keep H H' ∧ Inv X pins σ H' s ∧ Sta X.K B M (ρ.take n) σ H' ∧ RepL X.K H' (dss.map D.lst) (as.map V.ref)
  | [], _, ρ, n, H, .nil, _, I, S => ⟨H, Keep.refl _, I, S.take n, rfl⟩
  | a :: as, _, ρ, n, H, @Gh.cons _ _ _ _ ds dss j hj e r, nd, I, S => by
    obtain ⟨nd1, nd2⟩ := List.nodup_cons.mp nd
    obtain ⟨vs, hv, rr⟩ := S.own_at e
    obtain ⟨o, hc, J⟩ := Inv.freeze I hv
    obtain ⟨k1, S1⟩ := lock_st (o := o) S e hv rr
    have r1 : Gh (ρ.set j (.v (.lst ds))) n as dss := by
      clear nd nd2 J I
      induction r with
      | nil => exact .nil
      | @cons a' as' ds' dss' j' hj' e' r' ih =>
        have hne : j' ≠ j := fun z => by
          subst z
          rw [e] at e'
          cases e'
          exact nd1 List.mem_cons_self
        exact .cons hj' (by rw [List.getElem?_set_ne (Ne.symm hne)]; exact e') (ih fun h => nd1 (List.mem_cons_of_mem _ h))
    obtain ⟨H', k2, I2, S2, r2⟩ := glock r1 nd2 J S1
    refine ⟨H', k1.trans k2, I2, ?_, .ref a, _, rfl, ⟨a, vs, rfl, ⟨o, k2 _ _ upd_same trivial⟩, RepL.keep (k1.trans k2) ds rr⟩, r2⟩
    have : (ρ.set j (.v (.lst ds))).take n = ρ.take n := by
      apply List.ext_getElem?
      intro i
      rw [List.getElem?_take, List.getElem?_take]
      split
      · rw [List.getElem?_set_ne (by omega)]
      · rfl
    rw [this] at S2
    exact S2
end
section
variable {X : Cx} {B : Hp} {M : List Addr} {e a b c : Expr} {es : List Expr} {pos : Pos} {sts : List Stmt}
/-- a new list that no name holds -/
def rGn (n : Nat) (r : RN) : RE := fun ρ Q => r ρ fun ds ρ' => n ≤ ρ'.length ∧ ∀ p, (∀ (j : Nat) q es, ρ'[j]? = some (Slot.own q es) → q ≠ p) → Q (.d (.obj p)) (ρ' ++ [.own p ds])
theorem de_gnew (n : Nat) {r : RN} (h : DN X B M e r) (hn : X.N.length = n := by rfl) : DE X B M e (rGn n r) := by
  refine ⟨pe_impL h.pe fun σ H Q hl ⟨ρ, S, q⟩ => ⟨ρ, S, h.mo ρ _ _ (fun ds ρ' ⟨h1, q⟩ => ?_) q⟩, fun ρ P P' w q => h.mo ρ _ _ (fun ds ρ' ⟨h1, q⟩ => ⟨h1, fun p hp => w _ _ (q p hp)⟩) q⟩
  intro p H' k o S' nw
  exact q p nw.nO _ H' k (o.trans own_ghost) (S'.ghost nw (by omega)) rfl
/-- o.append(e), o such a list -/
def rAppG (ro ra : RE) : RE := fun ρ Q => ro ρ fun w ρ1 => ∃ p, w = .d (.obj p) ∧ (∃ (j : Nat) (ds : List D), ρ1[j]? = some (Slot.own p ds)) ∧ ra ρ1 (kD fun x ρ2 => ∃ (j : Nat) (ds : List D), ρ2[j]? = some (Slot.own p ds) ∧ ds.length < 16777216 ∧ Q (.d .non) (ρ2.set j (.own p (ds ++ [x]))))
theorem de_appendG {o : Expr} {apos : Pos} {ro ra : RE} (ho : DE X B M o ro) (ha : DE X B M a ra)
    (hbase : attributeBase o "append" X.env (eval o X.env) = eval o X.env := by rfl)
    (hfew : ((backTo pos (starEach [a] X.env)).all (fun x => !x.1) && (backToKw pos (keywordEach [] X.env)).all (fun x => x.1.isSome)
      && decide ([a].length + ([] : List Keyword).length + (if ([] : List Keyword).isEmpty then 0 else 1) < 30)) = true := by rfl)
    (hline : (apos.endLine == pos.line) = true := by rfl) (hs : starEach [a] X.env = (false, eval a X.env) :: starEach [] X.env := by rfl) (hplain : (backTo pos (starEach [] X.env)).any (·.1) = false := by rfl) :
    DE X B M (.Call (.Attribute o "append" apos) [a] [] pos) (rAppG ro ra) := by
  refine DE.mk' (pe_bm PySem.F.plainAttrs_list PySem.F.slot_list_append PySem.F.type_list_append mt_append ho.pe (pa_cons ha.pe pa_nil hs) hbase hfew hline hs hplain) (fun ρ P P' w q => ho.mo ρ _ _ (fun w1 ρ1 ⟨p, e1, h1, q⟩ => ⟨p, e1, h1, ha.mo ρ1 _ _ (fun w2 ρ2 q => by
    obtain ⟨x, rfl, j, ds, e2, hl, q⟩ := q.el
    exact ⟨j, ds, e2, hl, w _ _ q⟩) q⟩) q) fun σ H Q ρ S q => ?_
  refine into ho S q fun w ρ1 v H1 ⟨p, e1, ⟨j0, ds0, h1⟩, q⟩ k1 o1 S1 r1 => ?_
  subst e1
  obtain rfl : v = V.ref p := r1
  obtain ⟨vs0, hp0, _⟩ := S1.own_at h1
  refine ⟨tyV_own hp0, into ha S1 q fun w2 ρ2 v2 H2 hh k2 o2 S2 r2 => ?_⟩
  obtain ⟨x, e2, j, ds, e3, hl, q2⟩ := hh.el
  subst e2
  obtain ⟨vs, hp, rr⟩ := S2.own_at e3
  refine ⟨p, vs, v2, rfl, rfl, hp, by rw [RepL.length rr, sizeLine_eq]; exact hl, ?_⟩
  exact q2 .non _ ((k1.trans k2).trans (Sta.keep_mut (i := j) hp)) ((o1.trans o2).trans (own_mut e3)) (S2.mut e3 hp (RepL.snoc rr r2)) rfl
/-- from here on the inner lists of slot i's list stay -/
def rGlock (n i : Nat) (r : RS) : RS := fun e ρ => ∃ p as dss, ρ[i]? = some (.own p (as.map D.obj)) ∧ Gh ρ n as dss ∧ as.Nodup ∧ r e ((ρ.take n).set i (.own p (dss.map D.lst)))
theorem ds_glock {r : RS} (n i : Nat) (h : DSs X B M sts r) (hi : i < n := by decide) : DSs X B M sts (rGlock n i r) := ⟨⟨fun pins s σ H E I ⟨ρ, e, S, q, ok⟩ => by
  obtain ⟨p, as, dss, ep, g, nd, q⟩ := q
  obtain ⟨vs, hv, rr⟩ := S.own_at ep
  obtain ⟨H', k, J, S', r'⟩ := glock g nd I S
  have ev := repL_obj rr
  subst ev
  have ep' : (ρ.take n)[i]? = some (.own p (as.map D.obj)) := by rw [List.getElem?_take, if_pos hi]; exact ep
  obtain ⟨us, hu, ru⟩ := S'.own_at ep'
  have eu := repL_obj ru
  subst eu
  have S2 : Sta X.K B M ((ρ.take n).set i (.own p (dss.map D.lst))) σ H' := by
    have hlt : i < (ρ.take n).length := (List.getElem?_eq_some_iff.mp ep').1
    have look : ∀ {j : Nat} {q fs}, ((ρ.take n).set i (Slot.own p (dss.map D.lst)))[j]? = some (Slot.own q fs) → ∃ fs', (ρ.take n)[j]? = some (Slot.own q fs') := fun {j q fs} h => by
      by_cases hj : j = i
      · subst hj
        rw [List.getElem?_set_self hlt] at h
        cases h
        exact ⟨_, ep'⟩
      · rw [List.getElem?_set_ne (Ne.symm hj)] at h
        exact ⟨fs, h⟩
    refine ⟨S'.frm, fun j s ej => ?_, fun j k' q q' fs gs ej ek hjk => ?_, fun j q fs ej => ?_, S'.mh, fun j P q h => S'.tbi j P q (tab_set h fun _ _ z => by cases z)⟩
    · by_cases hj : j = i
      · subst hj
        rw [List.getElem?_set_self hlt] at ej
        cases ej
        exact ⟨(S'.ok j _ ep').1, _, hu, r'⟩
      · rw [List.getElem?_set_ne (Ne.symm hj)] at ej
        exact S'.ok j s ej
    · obtain ⟨a, h1⟩ := look ej
      obtain ⟨b, h2⟩ := look ek
      exact S'.dis j k' q q' a b h1 h2 hjk
    · obtain ⟨a, h1⟩ := look ej
      exact S'.new j q a h1
  exact h.pss.run pins s σ H' E J ⟨_, e, S2, q, ok.later k⟩⟩⟩
end
end N
/-! NL -/
set_option Elab.async false
set_option linter.all false
set_option maxRecDepth 100000
set_option maxHeartbeats 2000000
/-! NL: LamX's rules of a lambda handed to a def, turned to exceptions of which is known that their context is None (L2N). -/
namespace LamN
open PySem PySem.Spec PyProof.Rows L2 LamX
/-- the context of the lambda's body, entered at s from the frames outer -/
def lamCxN (X : Cx) (A : Around) (outer : List Env) (s : Shared) (H : Hp) (E : XK) (scope : Scope) (f c' : Addr) : Cx where
  prog := X.prog
  w := X.w
  K := X.K
  mg := X.mg
  base := X.base
  A := A.deeper (lamEnv X scope s.heap.objs.size f c')
  N := X.N
  s_0 := s
  H_0 := H
  env := lamEnv X scope s.heap.objs.size f c'
  outer := outer
  stack := lamEnv X scope s.heap.objs.size f c' :: outer
  ex := []
  fn := fun _ => false
  calm := true
  pn := []
  xe := fun e s' => wpAny (model X.prog X.w) (A.deeper (lamEnv X scope s.heap.objs.size f c')) (leaving (lamEnv X scope s.heap.objs.size f c') e) (fun _ s'' => L2N.CX X.prog X.w outer H s E e s'') (fun e' s'' => L2N.CX X.prog X.w outer H s E e' s'') s'
section
variable {X : Cx} {pins : List (Addr × Obj)} {σ : L2.St} {H HZ : Hp} {s s1 : Shared}
theorem lam_start2N {A : Around} {outer : List Env} {E : XK} {scope : Scope} {f c' : Addr} {h₁ : Heap} {tk : Nat} (I : Inv X pins σ H s) (L : LamS X.env.scope scope) (e0 : Env0 X.prog X.w X.K X.mg X.base A outer s1 HZ) (hd : A.handled = none)
    (un : Un (frs X.stack) [] H HZ s.heap s1.heap) (hns : h₁.Ns s1.heap.objs.size fun y => ([] : List (Str × Value)).reverse.lookup y) (kp : ∀ b o, s1.heap.get? b = some o → h₁.get? b = some o) :
    Inv (lamCxN X A outer s1 HZ E scope f c') [] σ HZ { s1 with heap := h₁, toks := tk } := by
  have hfree := L.has I.ok
  have cm : ∀ {y c}, (cloFrom X.env.cells scope.names []).lookup y = some c → X.env.cells.lookup y = some c := fun {y c} e => by
    rcases cloFrom_mem (PySem.mem_of_lookup e) with hm | ⟨h1, h2⟩
    · cases hm
    · obtain ⟨c1, hc⟩ := hfree _ h1 rfl
      have hc : X.env.cells.lookup y = some c1 := hc
      have e2 : c = c1 := by
        rw [h2, hc] <;> rfl
      rw [e2]
      exact hc
  have look : ∀ {y}, scope.names.lookup y = some .free → ∃ c, (cloFrom X.env.cells scope.names []).lookup y = some c := fun {y} hl => by
    have hy : (y, NameKind.free) ∈ scope.names := PySem.mem_of_lookup hl
    exact mem_lookup (cloFrom_has (cells := X.env.cells) (acc := []) hy)
  have cellK : ∀ {c : Addr} {v : Option Value}, H c = none → s.heap.IsCell c v → h₁.IsCell c v := fun {c v} n ⟨o, ho, hd⟩ => by
    obtain ⟨sl, q⟩ := un.any ho n (by simp)
    exact ⟨_, kp _ _ q, hd⟩
  have noA : ∀ b : Addr, b ∉ (lamCxN X A outer s1 HZ E scope f c').ex := fun b z => absurd (show b ∈ ([] : List Addr) from z) (by simp)
  refine ⟨⟨e0.mod, L.kind, rfl, rfl, Nat.le_refl _, fun y z c e1 e2 => I.ok.inj y z c (cm e1) (cm e2), fun y hy => ?_, fun y c z _ => ?_, fun _ => hd, Around.frames_deeper e0.frames, .inr ⟨rfl, rfl⟩, fun b z => absurd z (noA b), e0.bs, e0.bsz, fun b _ _ => noA b,
      fun b z => absurd z (noA b), e0.funs, e0.frf⟩,
    rfl, e0.bare, Un.kept kp, ⟨_, hns, fun i y v e1 e2 e3 => ?_⟩, fun y c e => ?_, e0.hok.fresh (Nat.le_refl _), fun y c e => ?_, fun q hq => absurd (show q ∈ ([] : List (Addr × Obj)) ++ [] from hq) (by simp), e0.hok.kept kp, I.len⟩
  · have hy : scope.names.lookup y = some .cell ∨ scope.names.lookup y = some .free := hy
    rcases hy with hy | hy
    · exact absurd rfl (L.own _ (PySem.mem_of_lookup hy)).2
    · exact look hy
  · have z : false = true := z
    cases z
  · have e3 : Vis scope y := e3
    rcases e3 with k | k | k
    · exact absurd rfl (L.own _ (PySem.mem_of_lookup k)).1
    · exact absurd rfl (L.own _ (PySem.mem_of_lookup k)).2
    · obtain ⟨m, hn, hl⟩ := I.loc
      have hvis : Vis X.env.scope y := (L.free _ (PySem.mem_of_lookup k) rfl).elim (fun k => .inr (.inl k)) (fun k => .inr (.inr k))
      obtain ⟨w', r, q⟩ := hl i y v e1 e2 hvis
      obtain ⟨c2, h2⟩ := look k
      refine ⟨w', r, .inr ⟨.inr k, c2, h2, ?_⟩⟩
      have c1 := cm h2
      rcases q with ⟨k', _⟩ | ⟨_, c3, e', z⟩
      · have k' : X.env.scope.names.lookup y = some .local := k'
        rcases L.free _ (PySem.mem_of_lookup k) rfl with k2 | k2 <;> rw [show X.env.scope.names.lookup y = _ from k2] at k' <;> cases k'
      · rw [c1] at e'
        cases e'
        exact cellK (I.freeC y _ c1) z
  · obtain ⟨w', z⟩ := I.cell y c (cm e)
    exact ⟨w', cellK (I.freeC y c (cm e)) z⟩
  · obtain ⟨v, o, ho, hd⟩ := I.cell y c (cm e)
    exact un.free c o ho (I.freeC y c (cm e)) (by simp)
/-- x(), in the def that got the lambda: Z is that def's context, entered at s -/
theorem pe_actN {CXg : CXT} {Eg : XK} {Ng : List Str} {qg : Str} {sg : Scope} {g f c' : Addr} {cdg pm ctv : Value} {params : Arguments} {body : Expr} {scope : Scope} {k i : Nat} {a : Str} {pn : List (Addr × Obj)} {xe : Value → Shared → Prop} {W : WX} {E : XK} {tb : TE} {p1 p2 : Pos}
    (I : Inv X pins σ H s) (L : LamS X.env.scope scope) (hf : s.heap.get? f = some (PySem.W.kla_obj "<lambda>" (X.env.qual ++ "<lambda>") params body scope (cloFrom X.env.cells scope.names []) pm c' ctv)) (hfn : H f = none) (hfr : f ∉ frs X.stack)
    (hbind : bindArgs (PySem.W.kla_fn "<lambda>" (X.env.qual ++ "<lambda>") params body scope (cloFrom X.env.cells scope.names []) pm (.ref c') ctv) ⟨[], []⟩ = pure [])
    (tk : L2N.Takes ((cxOf CXg X.prog X.w X.K X.mg X.base Ng qg sg g cdg X.A X.stack s H Eg).tr pn xe) W) (hW : ∀ cls d σ' H', E cls d H' → W cls d σ' H') (hr : Room (k + 1) (X.A.deeper (envOfC qg sg s.heap.objs.size g cdg)))
    (hbody : ∀ (A : Around) (outer : List Env) (s : Shared) (H : Hp), Room k (A.deeper (lamEnv X scope s.heap.objs.size f c')) → PE (lamCxN X A outer s H E scope f c') body tb)
    (hN : Ng[i]? = some a) (hv : Vis sg a) (hd : (a == ("__debug__" : Str)) = false := by decide) (hcd : (a == ("__classdict__" : Str)) = false := by decide) :
    PE ((cxOf CXg X.prog X.w X.K X.mg X.base Ng qg sg g cdg X.A X.stack s H Eg).tr pn xe) (.Call (.Name a p1) [] [] p2)
      (fun σZ HZ Q => σZ[i]? = some (some (.ref f)) ∧ HZ c' = some (CodeO c' (X.env.qual ++ "<lambda>")) ∧ tb σ HZ Q) := by
  refine ⟨fun pinsZ sZ σZ HZ Q IZ h => ?_⟩
  obtain ⟨hs, hc, ht⟩ := h
  refine wpAny_Call_Name_kw (thn ((pe_var (pos := p1) (i := i) hN hv hd hcd).run pinsZ sZ σZ HZ (fun v H1 => v = .ref f ∧ H1 = HZ) IZ ⟨.ref f, hs, rfl, rfl⟩) fun u s1 ⟨v, H1, I1, r1, q1⟩ => ?_)
  obtain ⟨ev, eH⟩ := q1
  subst ev
  rw [eH] at I1
  obtain rfl : u = Value.ref f := r1
  have of1 : s1.heap.get? f = some (PySem.W.kla_obj "<lambda>" (X.env.qual ++ "<lambda>") params body scope (cloFrom X.env.cells scope.names []) pm c' ctv) := I1.base.keep f _ hf hfn hfr (fun z => nomatch (show f ∈ ([] : List Addr) from z))
  refine PySem.W.callWith_F0 ⟨_, _, _, _, of1⟩ ?_
  have un : Un (frs X.stack) [] H HZ s.heap s1.heap := I1.base
  obtain ⟨⟨oc, vs, t, hoc, hdc, hvc⟩, _, _⟩ := I1.hok c' _ hc
  have rc : codeAny (model X.prog X.w) (X.A.deeper (envOfC qg sg s.heap.objs.size g cdg)) (.call (.ref f) ⟨[], []⟩) (CR (L2N.CX X.prog X.w) (envOfC qg sg s.heap.objs.size g cdg :: X.stack) X.prog X.w HZ s1 Q E) s1 := by
    refine PySem.W.kla_callFunE hr.depth of1 rfl L.co L.gen rfl ⟨c', oc, vs, t, rfl, hoc, hdc, hvc⟩ ?_
    rw [hbind]
    refine wpAny_pure (wpAny_newFunctionEnv (fun y hy => (L.own y hy).2) (fun y hy => absurd hy (by simp)) (fun h₁ hns hsb => ⟨I1.nolimit.fresh _ hsb, ?_⟩) L.kind)
    show codeAny _ _ (.expr body (lamEnv X scope s1.heap.objs.size f c')) _ _
    have kp : ∀ b o, s1.heap.get? b = some o → h₁.get? b = some o := fun b o e => hsb.extBut b o (Nat.ne_of_lt (Heap.lt_size e)) (Heap.get?_push_of_some _ e)
    have J : Inv (lamCxN X (X.A.deeper (envOfC qg sg s.heap.objs.size g cdg)) (envOfC qg sg s.heap.objs.size g cdg :: X.stack) s1 HZ E scope f c') [] σ HZ { s1 with heap := h₁, toks := s1.toks + ([] : List (Str × Value)).length } :=
      lam_start2N I L I1.env0 hr.hd un hns kp
    refine PySem.W.kla_codeExpr (wpAny_mono ((hbody _ _ s1 HZ (hr.deeper _)).run [] _ _ HZ Q J ht) (fun v s' hq => ?_) fun e s' hq => hq)
    obtain ⟨w', H', J', rv, q⟩ := hq
    exact ⟨w', H', J'.os, J'.bare, J'.base, J'.hok, rv, q⟩
  have hx : Passes (L2N.CX X.prog X.w) ((cxOf CXg X.prog X.w X.K X.mg X.base Ng qg sg g cdg X.A X.stack s H Eg).tr pn xe) E := L2N.passes_call tk hW
  refine wpAny_call (codeAny_mono rc fun r s' hq => ?_)
  cases r with
  | error e => exact hx pinsZ σZ HZ s1 e s' I1 hq
  | ok fl =>
    cases fl with
    | ret u => exact I1.after hq
    | next => exact False.elim hq
    | brk => exact False.elim hq
    | cont => exact False.elim hq
end
/-- the def that calls what it got: a calls it; TT: what it makes of the lambda's reading -/
def GivesToN (X : Cx) (Ng : List Str) (x : Str) (sg : Scope) (g : Addr) (cdg : Value) (bg : List Stmt) (a : Str) (q : Str) (TT : (XK → Hp → VK → Prop) → Hp → VK → Prop) : Prop :=
  ∀ (f c' : Addr) (s : Shared) (H : Hp) (Q : VK) (tl : XK → Hp → VK → Prop),
    (∀ (W : WX) (pn : List (Addr × Obj)) (xe : Value → Shared → Prop) (E : XK) (p1 p2 : Pos), L2N.Takes ((cxOf C8.CX0 X.prog X.w X.K X.mg X.base Ng x sg g cdg X.A X.stack s H C8.E0).tr pn xe) W → (∀ cls d σ' H', E cls d H' → W cls d σ' H') →
      PE ((cxOf C8.CX0 X.prog X.w X.K X.mg X.base Ng x sg g cdg X.A X.stack s H C8.E0).tr pn xe) (.Call (.Name a p1) [] [] p2) (fun σZ HZ Q => σZ[0]? = some (some (.ref f)) ∧ HZ c' = some (CodeO c' q) ∧ tl E HZ Q)) →
    H c' = some (CodeO c' q) → TT tl H Q →
    ∃ t, PSs (cxOf C8.CX0 X.prog X.w X.K X.mg X.base Ng x sg g cdg X.A X.stack s H C8.E0).nox bg t ∧ t { nx := fun _ H' => Q .non H', rt := Q } (L2.start Ng [.ref f]) H
section
variable {X : Cx}
/-- x(lambda: body) -/
theorem pe_lamcallN {T : List (Addr × Str)} {TT : (XK → Hp → VK → Prop) → Hp → VK → Prop} {x a : Str} {g c P : Addr} {k : Nat} {pg : Arguments} {bg : List Stmt} {sg : Scope} {dV kV doc pm cdv ct oc : Value} {an od : Option Addr} {osl : Array (Option Value)} {Ng : List Str}
    {params : Arguments} {body : Expr} {scope : Scope} {t : XK → TE} {p lpos pos : Pos} (hg : Gl X x) (hm : X.mg x = some (.ref g)) (hk : PySem.W.keepIn X.K (.ref g) = true)
    (lk : X.K.lookup g = some ⟨oc, od, .func (PySem.W.fnOf x x pg bg sg dV kV doc pm an cdv ct), osl⟩) (hcg : PySem.W.codeIn X.K cdv x = true) (hb : L2.Binds X.K (PySem.W.fnOf x x pg bg sg dV kV doc pm an cdv ct) [a] []) (Sg : FnScope Ng [a] sg) (hNg : Ng[0]? = some a) (hva : Vis sg a)
    (hG : GivesToN X Ng x sg g cdv bg a (X.env.qual ++ "<lambda>") TT)
    (TB : TabB X.base X.mg c P) (hcode : X.env.code = .ref c) (hmT : (P, X.env.qual ++ "<lambda>") ∈ T) (hu : ∀ p ∈ T, p.1 = P → p.2 = X.env.qual ++ "<lambda>") (hr : Room (k + 2) X.A) (L : LamS X.env.scope scope) (hdef : defaultsOf params X.env = ([], []))
    (hbind : ∀ (q : Str) (cl : List (Str × Addr)) (pm cv ctv : Value), bindArgs (PySem.W.kla_fn "<lambda>" q params body scope cl pm cv ctv) ⟨[], []⟩ = pure [])
    (hbody : ∀ (A : Around) (outer : List Env) (s : Shared) (H : Hp) (E : XK) (f c' : Addr), Room k (A.deeper (lamEnv X scope s.heap.objs.size f c')) → PE (lamCxN X A outer s H E scope f c') body (t E))
    (hdb : (x == ("__debug__" : Str)) = false := by decide) (hd : (a == ("__debug__" : Str)) = false := by decide) (hcd : (a == ("__classdict__" : Str)) = false := by decide) :
    PE X (.Call (.Name x p) [.Lambda params body scope lpos] [] pos) (tLam T TT t) := by
  refine ⟨fun pins s σ H Q I h => ?_⟩
  obtain ⟨hT, h⟩ := h
  refine wpAny_Call_Name_kw (ld_glob I hg hm ?_ hdb)
  refine PySem.W.callWith_K (h₀ := X.base) I.ok.mod.kin hk ?_ (by rfl) (by rfl)
  show wpAny _ _ (spliced ((false, eval (.Lambda params body scope lpos) X.env) :: backTo pos (starEach [] X.env))) _ _ s
  refine Calls.spliced_cons (lam_make2 I TB hcode hmT hu hT hdef (L.has I.ok) fun f c' pm' ctv H1 s' I1 eN T1 hf hfn hfr hco => ?_)
  refine Calls.spliced_nil ⟨I1.kIn, ?_⟩
  have rc : codeAny (model X.prog X.w) X.A (.call (.ref g) ⟨[.ref f], []⟩) (CR C8.CX0 X.stack X.prog X.w H1 s' Q C8.E0) s' := by
    refine run_ofS (N := Ng) (ps := [a]) (us := [.ref f]) (vs := [.ref f]) lk hcg Sg hr I1.env0 (hb s' [.ref f] I1.kIn rfl) (.cons rfl .nil) rfl fun hr' => ?_
    obtain ⟨t', ht', hq'⟩ := hG f c' s' H1 Q (fun E H' Q' => t E σ H' Q') (fun W pn xe E p1 p2 tk hW => pe_actN (i := 0) I1 L hf hfn hfr (hbind _ _ _ _ _) tk hW hr' (fun A outer s H hr2 => hbody A outer s H E f c' hr2) hNg hva hd hcd) hco (h H1 eN T1)
    exact ⟨t', ht'.nox, hq'⟩
  refine wpAny_call (codeAny_mono rc fun r s2 hq => ?_)
  cases r with
  | error e => exact (show False from hq).elim
  | ok fl =>
    cases fl with
    | ret u => exact I1.after hq
    | next => exact False.elim hq
    | brk => exact False.elim hq
    | cont => exact False.elim hq
theorem takes0 {X : Cx} : L2N.Takes X (fun _ _ _ _ => False) := fun _ _ x => by
  obtain ⟨_, _, _, _, _, _, _, _, _, _, _, _, _, _, _, _, z⟩ := x
  exact z.elim
end
end LamN
/-! N9 -/
set_option Elab.async false
set_option linter.all false
set_option maxRecDepth 100000
set_option maxHeartbeats 1000000
/-! N9: a lambda handed to the law's answering def; isinstance of a caught error. -/
namespace N
open PySem PySem.Spec PyProof.Rows L2
section
variable {X : Cx} {B : Hp} {M : List Addr} {e a b c : Expr} {es : List Expr} {pos : Pos}
/-- what is never reached -/
theorem de_never {e : Expr} : DE X B M e (fun _ _ => False) := ⟨⟨fun pins s σ H Q I ⟨ρ, S, q⟩ => q.elim⟩, fun ρ P P' w q => q⟩
end
section
variable {K : PySem.W.Frag} {B H H1 : Hp} {M : List Addr} {ρ : En} {σ : L2.St}
def noOn : Slot → Slot
  | .own _ _ => .un
  | .tab _ _ => .un
  | s => s
/-- only what is data -/
def noOwn (ρ : En) : En := ρ.map noOn
theorem noOwn_at {ρ : En} {i : Nat} {s : Slot} (e : (noOwn ρ)[i]? = some s) : (s = .un ∨ ∃ d, s = .v d ∧ ρ[i]? = some (.v d)) := by
  unfold noOwn at e
  rw [List.getElem?_map] at e
  obtain ⟨t, ht, rfl⟩ := Option.map_eq_some_iff.mp e
  cases t with
  | un => exact .inl rfl
  | v d => exact .inr ⟨d, rfl, ht⟩
  | own p ds => exact .inl rfl
  | tab P q => exact .inl rfl
theorem Sta.data (S : Sta K B M ρ σ H) : Sta K H [] (noOwn ρ) σ H := by
  refine ⟨Frm.refl _ _, fun i s e => ?_, fun i j p q ds es ei _ _ => ?_, fun i p ds e => ?_, fun p hp => by simp at hp, fun i P q e => by rcases noOwn_at e with h | ⟨d, h, _⟩ <;> cases h⟩
  · rcases noOwn_at e with rfl | ⟨d, rfl, hd⟩
    · exact trivial
    · exact S.ok i _ hd
  · rcases noOwn_at ei with h | ⟨d, h, _⟩ <;> cases h
  · rcases noOwn_at e with h | ⟨d, h, _⟩ <;> cases h
/-- all tables among the slots are this one -/
def tabsAre (P : Addr) (q : Str) : En → Prop
  | [] => True
  | .tab P' q' :: r => P' = P ∧ q' = q ∧ tabsAre P q r
  | .un :: r => tabsAre P q r
  | .v _ :: r => tabsAre P q r
  | .own _ _ :: r => tabsAre P q r
theorem tabsAre_at {P : Addr} {q : Str} : ∀ {ρ : En}, tabsAre P q ρ → ∀ {i : Nat} {P' : Addr} {q' : Str}, ρ[i]? = some (Slot.tab P' q') → P' = P ∧ q' = q
  | [], _, _, _, _, e => by simp at e
  | .tab P2 q2 :: r, h, 0, P', q', e => by
    have e : Slot.tab P2 q2 = Slot.tab P' q' := by simpa using e
    cases e
    exact ⟨h.1, h.2.1⟩
  | .tab P2 q2 :: r, h, i + 1, P', q', e => tabsAre_at h.2.2 (by simpa using e)
  | .un :: r, h, 0, P', q', e => by simp at e
  | .un :: r, h, i + 1, P', q', e => tabsAre_at (ρ := r) h (by simpa using e)
  | .v d :: r, h, 0, P', q', e => by simp at e
  | .v d :: r, h, i + 1, P', q', e => tabsAre_at (ρ := r) h (by simpa using e)
  | .own p ds :: r, h, 0, P', q', e => by simp at e
  | .own p ds :: r, h, i + 1, P', q', e => tabsAre_at (ρ := r) h (by simpa using e)
abbrev noH : Hp := fun _ => none
theorem keep_extN (x : LamX.ExtN H H1) : Keep H H1 := fun b o e im => x b o e fun ps z => by
  subst z
  exact im
/-- a table is written, all else stays -/
theorem Sta.extN {P : Addr} {q : Str} (S : Sta K noH [] ρ σ H) (x : LamX.ExtN H H1) (t : LamX.TabS H1 P q) (ta : tabsAre P q ρ) : Sta K noH [] ρ σ H1 := by
  have fr : Frm [] noH H1 := fun b o e _ => nomatch (show (none : Option HO) = some o from e)
  refine ⟨fr, fun i s e => ?_, S.dis, S.new, fun p hp => absurd hp (by simp), S.tbi⟩
  refine SlotOk.keep (keep_extN x) (fun p ds es => ?_) (fun P' q' et => ?_) (S.ok i s e)
  · subst es
    obtain ⟨_, vs, hv, rr⟩ := S.ok i _ e
    exact ⟨vs, x _ _ hv (fun _ z => by cases z), RepL.keep (keep_extN x) ds rr⟩
  · subst et
    obtain ⟨rfl, rfl⟩ := tabsAre_at ta e
    exact t
end
/-- what the answering def makes of the call it is handed: ('told', d), or the answer that an exception gets -/
def TTans (K : PySem.W.Frag) (Ans : Exn → D → Prop) : (XK → Hp → VK → Prop) → Hp → VK → Prop := fun tl H Q =>
  tl (fun cls dx H' => ∃ x d, XRep K H' x cls dx ∧ Ans x d ∧ ∀ H'' v, Same H' H'' → Rep K H'' d v → Q v H'') H (fun v H' => [V.str "told", v].length ≤ sizeLine ∧ NewT Q H' [.str "told", v])
/-- the reading of x(lambda: body) -/
def rAns (P : Addr) (q : Str) (Ans : Exn → D → Prop) (r : (Exn → Prop) → RE) : RE := fun ρ Q => (∃ i : Nat, ρ[i]? = some (Slot.tab P q)) ∧ tabsAre P q ρ ∧ ∃ Xp : Exn → Prop, r Xp (noOwn ρ) (kD fun d _ => Q (.d (.tup [.str "told", d])) ρ) ∧ ∀ x, Xp x → ∃ d, Ans x d ∧ Q (.d d) ρ
theorem de_answer {X : Cx} {Ans : Exn → D → Prop} {x a : Str} {g c P : Addr} {k : Nat} {pg : Arguments} {bg : List Stmt} {sg : Scope} {fd : FuncData} {Ng : List Str} {params : Arguments} {body : Expr} {scope : Scope} {r : (Exn → Prop) → RE} {p lpos pos : Pos}
    (F : FunD X.K x x pg bg sg [] [] g fd) (hm : X.mg x = some (.ref g)) (Sg : FnScope Ng [a] sg) (hNg : Ng[0]? = some a) (hva : Vis sg a)
    (hb : ∀ (kV doc pm : Value) (an : Option Addr) (cdv ct : Value) (us : List Value), us.length = [a].length → bindArgs (PySem.W.fnOf x x pg bg sg .none kV doc pm an cdv ct) ⟨us, []⟩ = pure ([a].zip us))
    (hG : ∀ cdg, LamN.GivesToN X Ng x sg g cdg bg a (X.env.qual ++ "<lambda>") (TTans X.K Ans)) (TB : LamX.TabB X.base X.mg c P) (hcode : X.env.code = .ref c) (hr : Room (k + 2) X.A)
    (hbody : ∀ (Xp : Exn → Prop) (B' : Hp) (A : Around) (outer : List Env) (s : Shared) (H : Hp) (E : XK) (f c' : Addr), Room k (A.deeper (LamX.lamEnv X scope s.heap.objs.size f c')) → (∀ x cls dx H', Xp x → Frm [] B' H' → XRep X.K H' x cls dx → E cls dx H') → DE (LamN.lamCxN X A outer s H E scope f c') B' [] body (r Xp))
    (hg : Gl X x := by rfl) (L : LamX.LamS X.env.scope scope := by exact LamX.lamS_by (by decide +kernel)) (hdef : defaultsOf params X.env = ([], []) := by rfl)
    (hbind : ∀ (q : Str) (cl : List (Str × Addr)) (pm cv ctv : Value), bindArgs (PySem.W.kla_fn "<lambda>" q params body scope cl pm cv ctv) ⟨[], []⟩ = pure [] := by intros; rfl)
    (hdb : (x == ("__debug__" : Str)) = false := by decide) (hd : (a == ("__debug__" : Str)) = false := by decide) (hcd : (a == ("__classdict__" : Str)) = false := by decide) :
    DE X noH [] (.Call (.Name x p) [.Lambda params body scope lpos] [] pos) (rAns P (X.env.qual ++ "<lambda>") Ans r) := by
  obtain ⟨oc, od, dV, kV, doc, pm, an, cdv, ct, osl, efd, lk, hcd', hD, hK⟩ := F.ex
  have hdV : dV = .none := by
    rcases hD with ⟨_, h⟩ | ⟨h, _⟩
    · exact h
    · exact absurd rfl h
  subst hdV efd
  have mo : ∀ Xp, MonoE (r Xp) := fun Xp => (hbody Xp noH X.A [] X.s_0 noH (fun _ _ _ => True) 0 0 ((hr.mono (Nat.le_succ _)).deeper _) (fun _ _ _ _ _ _ _ => trivial)).mo
  refine DE.mk' (LamN.pe_lamcallN (T := [(P, X.env.qual ++ "<lambda>")]) (TT := TTans X.K Ans) (k := k)
    (t := fun E σ H Q => ∃ ρ' Xp, Sta X.K H [] ρ' σ H ∧ r Xp ρ' (kE X.K H [] ρ' σ H Q) ∧ ∀ x cls dx H', Xp x → Frm [] H H' → XRep X.K H' x cls dx → E cls dx H')
    hg hm F.kp lk hcd' (.all fun us hl => hb _ _ _ _ _ _ us hl) Sg hNg hva (hG cdv) TB hcode List.mem_cons_self (fun p hp _ => by rw [List.mem_singleton.mp hp]) hr L hdef hbind
    (fun A outer s H E f c' hr2 => ⟨fun pins s' σ H' Q I ⟨ρ', Xp, S, q, hE⟩ => (hbody Xp H' A outer s H E f c' hr2 hE).pe.run pins s' σ H' Q I ⟨ρ', S, q⟩⟩) hdb hd hcd) (fun ρ P P' w ⟨h1, h2, Xp, h3, h4⟩ => ⟨h1, h2, Xp, mo Xp _ _ _ (fun w1 ρ1 q => by obtain ⟨d, rfl, q⟩ := q.el; exact w _ _ q) h3, fun x hx => by obtain ⟨d, h5, h6⟩ := h4 x hx; exact ⟨d, h5, w _ _ h6⟩⟩) fun σ H Q ρ S ⟨⟨i, hi⟩, ta, Xp, h3, h4⟩ => ?_
  refine ⟨fun p hp => by rw [List.mem_singleton.mp hp]; exact S.ok i _ hi, fun H1 x1 t1 => ?_⟩
  have tS : LamX.TabS H1 P (X.env.qual ++ "<lambda>") := t1 _ List.mem_cons_self
  have S1 := S.extN x1 tS ta
  refine ⟨noOwn ρ, Xp, S1.data, mo Xp _ _ _ (fun w ρ2 hh => ?_) h3, fun x cls dx H' hx fr rx => ?_⟩
  · obtain ⟨d, ew, q⟩ := hh.el
    subst ew
    intro v H2 k2 o2 S2 r2
    refine ⟨by rw [sizeLine_eq]; show 2 ≤ 16777216; decide, ?_⟩
    intro o p hod hp
    have sm : Same H1 H2 := S2.frm.same
    have sm2 := same_upd (o := .frz o (.tup [.str "told", v])) hp
    refine q _ _ (((keep_extN x1).trans (Keep.of sm)).trans (Keep.of sm2)) (OwnEq.refl _) ((S1.same sm).same sm2) ⟨p, _, rfl, .inl ⟨o, hod, upd_same⟩, .str "told", [v], rfl, rfl, v, [], rfl, Rep.keep (Keep.of sm2) d r2, rfl⟩
  · obtain ⟨d, h5, h6⟩ := h4 x hx
    refine ⟨x, d, rx, h5, fun H'' v sm rv => ?_⟩
    exact h6 v H'' ((keep_extN x1).trans (fr.keep.trans (Keep.of sm))) (OwnEq.refl _) ((S1.same fr.same).same sm) rv
/-- the slots where the clause starts: e in slot 1 -/
def iniE (n : Nat) (a : Addr) : En := .un :: .v (.obj a) :: List.replicate (n - 2) .un
theorem sta_iniE {K : PySem.W.Frag} {H : Hp} {σ : L2.St} {n : Nat} {a : Addr} : Sta K H [] (iniE n a) (σ.set 1 (some (.ref a))) H := by
  have at_ : ∀ {i : Nat} {s : Slot}, (iniE n a)[i]? = some s → s = .un ∨ (i = 1 ∧ s = .v (.obj a)) := fun {i s} e => by
    unfold iniE at e
    match i, e with
    | 0, e => exact .inl (by simpa using e.symm)
    | 1, e => exact .inr ⟨rfl, by simpa using e.symm⟩
    | i + 2, e =>
      rw [List.getElem?_cons_succ, List.getElem?_cons_succ] at e
      exact .inl (List.mem_replicate.mp (List.mem_of_getElem? e)).2
  refine ⟨Frm.refl _ _, fun i s e => ?_, fun i j p q ds es ei _ _ => ?_, fun i p ds e => ?_, fun p hp => absurd hp (by simp), fun i P q e => by rcases at_ e with h | ⟨_, h⟩ <;> cases h⟩
  · rcases at_ e with rfl | ⟨rfl, rfl⟩
    · exact trivial
    · by_cases h : 1 < σ.length
      · exact .inr ⟨_, List.getElem?_set_self h, rfl⟩
      · exact .inl (List.getElem?_eq_none_iff.mpr (by rw [List.length_set]; omega))
  · rcases at_ ei with h | ⟨_, h⟩ <;> cases h
  · rcases at_ e with h | ⟨_, h⟩ <;> cases h
theorem answer_gives {X : Cx} {Ans : Exn → D → Prop} {Ng : List Str} {x a wn en q : Str} {sg : Scope} {g CW : Addr} {cdg : Value} {j : Nat} {kt} {b0 : Stmt} {sts : List Stmt} {p0 p1 p2 p3 p4 p5 p7 p8 : Pos}
    (hge : sg.names.lookup wn = some .globalImplicit) (hme : X.mg wn = some (.ref CW)) (hde : (wn == ("__debug__" : Str)) = false) (h0 : ∀ f : Addr, (L2.start Ng [V.ref f])[0]? = some (some (V.ref f))) (hN : Ng.Nodup) (hi : Ng[1]? = some en) (hln : sg.names.lookup en = some .local)
    (hS : ∀ (y : Exn) (d : D), Ans y d → y.fld = none ∧ PySem.W.exmOne X.K (.ref y.C) (.ref CW) = some true ∧ ∀ (A : Around) (st : List Env) (s : Shared) (H : Hp) (a : Addr) (oe : Obj) (pn : List (Addr × Obj)), L2N.Zn (.ref y.C) none oe → (∃ vs, oe.data = .fields vs) →
      ∃ r, (∀ B, DSs ((cxOf C8.CX0 X.prog X.w X.K X.mg X.base Ng x sg g cdg A st s H C8.E0).nox.suite a ((a, oe) :: pn)) B [] (b0 :: sts) r) ∧ r { nx := fun _ => False, rt := fun d' _ => d' = d } (iniE Ng.length a)) :
    LamN.GivesToN X Ng x sg g cdg [.Try [.Return (some (.Tuple [.Constant (.str "told") j p0, .Call (.Name a p1) [] [] p2] kt p5)) p3] [.ExceptHandler (some (.Name wn p4)) (some en) (b0 :: sts) p7] [] [] p8] a q (TTans X.K Ans) := by
  intro f c' s H Q tl act hc h
  have hgl : Gl (cxOf C8.CX0 X.prog X.w X.K X.mg X.base Ng x sg g cdg X.A X.stack s H C8.E0).nox wn := hge
  refine ⟨_, pss_one (L2N.ps_try_as (X := (cxOf C8.CX0 X.prog X.w X.K X.mg X.base Ng x sg g cdg X.A X.stack s H C8.E0).nox) (c := .ref CW) (n := en) (i := 1)
      (tb := fun W G σ H => ∃ Ech : XK, (∀ cls d σ' H', Ech cls d H' → W cls d σ' H') ∧ σ[0]? = some (some (.ref f)) ∧ H c' = some (LamX.CodeO c' q) ∧ tl Ech H fun v H' => [V.str "told", v].length ≤ sizeLine ∧ NewT G.rt H' [.str "told", v])
      (ts := fun a cls dx G σ H => ∃ (y : Exn) (d : D), XRep X.K H y cls dx ∧ Ans y d ∧ (∀ H'' v, Same H H'' → Rep X.K H'' d v → G.rt v H'') ∧ ∃ σ0 : L2.St, σ = σ0.set 1 (some (.ref a)))
      rfl rfl hN hi hln ⟨hgl, hde, .inl hme⟩ LamN.takes0 (fun W pn xe tk _ => ?_) (fun a oe cls dx pn hz hf => ?_)), ?_⟩
  · refine ⟨fun pins s' σ H' G I h' => ?_⟩
    obtain ⟨Ech, hW, h1, h2, h3⟩ := h'
    have hp := act W pn xe Ech p1 p2 tk hW
    have hq := pss_one (ps_ret (pos := p3) (pe_tupN (x1 := kt) (pos := p5) (pa_cons (pe_str (x := "told") (j := j) (pos := p0)) (pa_cons hp pa_nil rfl) rfl)))
    exact hq.run pins s' σ H' G I ⟨h1, h2, h3⟩
  · refine ⟨fun pins s' σ H' G I h' => ?_⟩
    obtain ⟨y, d, hx, ha, hQ, σ0, hσ⟩ := h'
    obtain ⟨hfl, _, hsu⟩ := hS y d ha
    obtain ⟨e1, e2⟩ := hx
    rw [hfl] at e2
    have e2 : dx = none := e2
    subst e1 e2 hσ
    obtain ⟨r, hd, hr⟩ := hsu X.A X.stack s H a oe pn hz hf
    exact (hd H').pss.run pins s' _ H' G I ⟨iniE Ng.length a, _, sta_iniE, hr, ⟨fun ρ σ H2 k S z => z.elim, fun d' ρ σ v H2 k S rv z => by
      have z : d' = d := z
      subst z
      exact hQ H2 v S.frm.same rv, fun _ _ _ _ _ z => z.elim, fun _ _ _ _ _ z => z.elim, fun _ _ _ _ _ _ _ _ _ z => z.elim⟩⟩
  · refine ⟨_, fun cls dx σ' H' hE => ?_, h0 f, hc, h⟩
    obtain ⟨y, d, hx, ha, hQ⟩ := hE
    obtain ⟨hfl, hex, _⟩ := hS y d ha
    exact ⟨true, by rw [hx.1]; exact hex, fun _ a na => ⟨y, d, hx, ha, hQ, σ', rfl⟩, fun z => nomatch z⟩
end N
/-! NH -/
set_option Elab.async false
set_option linter.all false
set_option maxRecDepth 100000
set_option maxHeartbeats 1000000
/-! NH: a comprehension over a range while an exception is handled. -/
namespace N
open PySem PySem.Spec PyProof.Rows L2
/-- a comprehension's block there: the handled exception stays in sight -/
abbrev blkH (X : Cx) (s : Shared) (H : Hp) (scope : Scope) (cenv : Env) (fp : List Addr) : Cx := { X.blk s H scope cenv fp with pn := X.pn }
section
variable {X : Cx}
theorem blkH_start {pins : List (Addr × Obj)} {σ : L2.St} {H : Hp} {s : Shared} {scope : Scope} {own : List (Str × Nat)} {fp : List Addr} (I : Inv X pins σ H s) (ok : BlkOk X.N X.env.scope scope own) (hN : X.N.Nodup) (hfp : ∀ b ∈ fp, FpOk X pins H b ∧ b < s.heap.objs.size) :
    Inv (blkH X s H scope (compEnvC scope (cellsFrom (s.heap.objs.size + 1) scope.names (cloFrom X.env.cells scope.names [])) s.heap.objs.size X.env) fp) [] (wipe σ (own.map (·.2))) H { s with heap := pushCells (s.heap.push { cls := .type "dict", data := .dict #[] }) scope.names } := by
  have J := block_start I ok hN hfp
  have o := J.ok
  refine ⟨⟨o.mod, o.kind, o.glob, o.blt, o.above, o.inj, o.has, o.cab, o.hd, o.frames, o.stk, o.exf, o.bs, o.bsz, o.noex, o.exfs, o.funs, o.frf⟩, J.os, J.bare, J.base, J.loc, J.cell, J.free, J.freeC, fun p hp => ?_, J.hok, J.len⟩
  have hp : p ∈ X.pn := by
    rcases List.mem_append.mp hp with h | h
    · exact h
    · simp at h
  obtain ⟨h1, h2, h3, h4, h5⟩ := I.pin p (List.mem_append_left _ hp)
  refine ⟨pushCells_keeps _ _ _ _ (Heap.get?_push_of_some _ h1), h2, ?_, fun z => ?_, h5⟩
  · exact Nat.ne_of_lt (Heap.lt_size h1)
  · rcases List.mem_cons.mp (I.stkSub _ z) with e | e
    · exact h3 e
    · exact h4 e
/-- L2.lc_core turned to a context in which an exception is handled -/
theorem lc_coreH {pins : List (Addr × Obj)} {s : Shared} {σ : L2.St} {H : Hp} {Q : VK} {elt tg iter : Expr} {ifs : List Expr} {scope : Scope} {own : List (Str × Nat)} {pos pos' : Pos} {wi : TI} {g : TG} {tt : TT} {te : TE} {use : Option (Value → Sem Unit)} {Qf : Value → Shared → Prop}
    (hc : L2H.HotC X) (hN : X.N.Nodup) (I : Inv X pins σ H s) (hi : L2H.PIH X tg iter wi) (ok : BlkOk X.N X.env.scope scope own)
    (hg : ∀ (s : Shared) (H : Hp) (C : Addr) (cl : List (Str × Addr)) (fp : List Addr), PG (blkH X s H scope (compEnvC scope cl C X.env) fp) tg g) (ht : ∀ (s : Shared) (H : Hp) (C : Addr) (cl : List (Str × Addr)) (fp : List Addr), PTs (blkH X s H scope (compEnvC scope cl C X.env) fp) ifs tt)
    (he : ∀ (s : Shared) (H : Hp) (C : Addr) (cl : List (Str × Addr)) (fp : List Addr), PE (blkH X s H scope (compEnvC scope cl C X.env) fp) elt te) (hs : ∀ x, foldedSetIterable iter X.env x = pure x)
    (h : tLc wi g tt te (own.map (·.2)) σ H Q)
    (hRR : ∀ D C s' m H', Inv X pins σ H' s' → Q (.ref D) H' → s'.heap.Ns C m → FpOk X pins H' C → compPost (model X.prog X.w) X.A X.xe use Qf (.ref D) C (.ok .next) s') :
    wpAny (model X.prog X.w) X.A (comprehension (.ListComp elt [⟨tg, iter, ifs, 0⟩] scope pos) scope X.env pos' (newList []) false (eval iter X.env) use) Qf X.xe s := by
  have hfree : ∀ y ∈ scope.names, y.2 = .free → ∃ c, X.env.cells.lookup y.1 = some c := fun y hy e => by
    rcases ok.free y hy e with k | k
    · exact I.ok.has _ (.inl k)
    · exact I.ok.has _ (.inr k)
  refine wpAny_comprehension_free (use := use) rfl hs (closure_ok hfree) ok.kind (fun y hy e => by rw [ok.uniq y hy, e])
    (thn (hi.run pins s σ H _ I h) fun xv s1 hx => thn hx fun itv s2 h2 => ?_)
  obtain ⟨it, fp, tn, J, H2, e, I2, T, st2, f2, q⟩ := h2
  subst e
  refine wpAny_newObj_type (newEnv_comp ?_) (by show 0 ≤ sizeLine; decide)
  generalize hD : s2.heap.objs.size = D
  have hDn : H2 D = none := I2.hok.fresh (Nat.le_of_eq hD)
  obtain ⟨W, ⟨m0, w0⟩, turn⟩ := q D hDn
  -- the new list
  generalize hs3 : ({ s2 with heap := s2.heap.push { cls := .type "list", data := .seq ([] : List Value).toArray } } : Shared) = s3
  have I3 : Inv X pins σ (upd H2 D (.lst [])) s3 := by
    rw [← hs3]
    refine I2.laid (t' := s2.toks) (fun b o e => Heap.get?_push_of_some _ e) (Nat.le_of_eq hD) ⟨Nat.zero_le _, [], 0, .nil, ?_⟩
    rw [← hD]
    exact Heap.get?_push_size _ rfl
  have h3 : s3.heap = s2.heap.push { cls := .type "list", data := .seq ([] : List Value).toArray } := by rw [← hs3]
  have sz : ∀ b ∈ fp, b < s2.heap.objs.size := fun b hb => by
    obtain ⟨o, e, _⟩ := T.obj _ _ st2 b hb
    exact Heap.lt_size e
  have f3 : ∀ b ∈ fp, FpOk X pins (upd H2 D (.lst [])) b ∧ b < s3.heap.objs.size := fun b hb => by
    have hlt := sz b hb
    refine ⟨⟨?_, (f2 b hb).2⟩, by rw [h3, Heap.size_push]; exact Nat.lt_succ_of_lt hlt⟩
    rw [upd_ne (by rw [← hD]; exact Nat.ne_of_lt hlt)]
    exact (f2 b hb).1
  have st3 : tn 0 s3.heap := T.keep _ _ _ st2 fun b _ o e => by rw [h3]; exact Heap.get?_push_of_some _ e
  have I4 := blkH_start I3 ok hN f3
  have pg := hg s3 (upd H2 D (.lst [])) s3.heap.objs.size (cellsFrom (s3.heap.objs.size + 1) scope.names (cloFrom X.env.cells scope.names [])) fp
  have pt := ht s3 (upd H2 D (.lst [])) s3.heap.objs.size (cellsFrom (s3.heap.objs.size + 1) scope.names (cloFrom X.env.cells scope.names [])) fp
  have pe := he s3 (upd H2 D (.lst [])) s3.heap.objs.size (cellsFrom (s3.heap.objs.size + 1) scope.names (cloFrom X.env.cells scope.names [])) fp
  show codeAny _ _ (.compStart (.ListComp elt [⟨tg, iter, ifs, 0⟩] scope pos) 0 (.ref it) (.ref D) (compEnvC scope (cellsFrom (s3.heap.objs.size + 1) scope.names (cloFrom X.env.cells scope.names [])) s3.heap.objs.size X.env)) (compPost (model X.prog X.w) X.A X.xe use Qf (.ref D) s3.heap.objs.size) { s3 with heap := pushCells (s3.heap.push { cls := .type "dict", data := .dict #[] }) scope.names }
  have nfp : ∀ b ∈ fp, (upd H2 D (.lst [])) b = none := fun b hb => (f3 b hb).1.1
  generalize hce : compEnvC scope (cellsFrom (s3.heap.objs.size + 1) scope.names (cloFrom X.env.cells scope.names [])) s3.heap.objs.size X.env = ce at I4 pg pt pe ⊢
  have cL : ce.locals = s3.heap.objs.size := by subst hce; rfl
  generalize hH3 : upd H2 D (.lst []) = H3 at I3 I4 pg pt pe w0 nfp f3
  generalize hs4 : ({ s3 with heap := pushCells (s3.heap.push { cls := .type "dict", data := .dict #[] }) scope.names } : Shared) = s4 at I4 ⊢
  have st4 : tn 0 s4.heap := T.keep _ _ _ st3 fun b _ o e => by rw [← hs4]; exact pushCells_keeps _ _ _ _ (Heap.get?_push_of_some _ e)
  have stat : ∀ {σ' : L2.St} {H' : Hp} {s' : Shared}, Inv (blkH X s3 H3 scope ce fp) [] σ' H' s' → (∀ b ∈ fp, H' b = none) → ∀ b ∈ fp, FpOk (blkH X s3 H3 scope ce fp) [] H' b := fun {σ' H' s'} I' hn b hb =>
    ⟨hn b hb, (I'.ok.exf b hb).1, I'.ok.exfs b hb, .inl hb, fun x c e => (I'.ok.exf b hb).2 x c e, fun p hp => (f3 b hb).1.2.2.2.2.2 p (List.mem_append_left _ (by have hp : p ∈ X.pn ++ [] := hp; simpa using hp))⟩
  have loop : codeAny (model X.prog X.w) X.A (.compLoop (.ListComp elt [⟨tg, iter, ifs, 0⟩] scope pos) 0 (.ref it) (.ref D) ce) (compPost (model X.prog X.w) X.A X.xe use Qf (.ref D) s3.heap.objs.size) s4 := by
    refine compLoop_any (fun n s' => ∃ i H', Inv (blkH X s3 H3 scope ce fp) [] (wipe σ (own.map (·.2))) H' s' ∧ tn i s'.heap ∧ (∀ b ∈ fp, H' b = none) ∧ W i n H') ?_ m0 ⟨0, H3, I4, st4, nfp, w0⟩
    rintro n s5 ⟨i, H5, I5, st5, n5, w5⟩
    rcases turn i n H5 w5 with ⟨stop, qq⟩ | ⟨go, Nx, hNx, step⟩
    · have td := T.done (blkH X s3 H3 scope ce fp) rfl rfl rfl hc i [] s5 _ H5 (fun _ _ => False) I5 (stat I5 n5) st5 stop
      refine thnF td fun r s6 ⟨hr, I6⟩ => ?_
      subst hr
      -- back in the def's context
      have I7 : Inv X pins σ H5 s6 := I3.call' (ch := fp) I6.os I6.base I6.hok I6.bare fun b hb => ⟨(f3 b hb).1.2.2.2.1, (f3 b hb).1.2.1, (f3 b hb).1.2.2.2.2.1, (f3 b hb).1.2.2.2.2.2⟩
      have nC : H5 s3.heap.objs.size = none := by
        have z : H5 ce.locals = none := I6.free
        rw [cL] at z
        exact z
      obtain ⟨m, hn, _⟩ := I6.loc
      have hn : s6.heap.Ns ce.locals m := hn
      rw [cL] at hn
      exact hRR D s3.heap.objs.size s6 m H5 I7 qq hn (I3.fpOk (Nat.le_refl _) nC)
    · have ti := T.item (blkH X s3 H3 scope ce fp) rfl rfl rfl hc i [] s5 _ H5 (fun _ _ => False) I5 (stat I5 n5) st5 go
      refine thnF ti fun r s6 ⟨u, hr, h6⟩ => ?_
      subst hr
      refine thnF h6 fun _ s7 ⟨x, H7, I7, r7, y7, st7, n7⟩ => ?_
      have I7' := I7.pinned (stat I7 n7) (T.obj _ _ st7)
      refine thnF (pg.run _ s7 _ H7 x u _ I7' r7 (step x H7 y7)) fun _ s8 ⟨σ8, H8, I8, hw8, q8⟩ => ?_
      refine thnF (pt.run _ s8 σ8 H8 _ I8 q8) fun b s9 ⟨H9, I9, q9⟩ => ?_
      -- the turn's end
      have fin : ∀ {s' : Shared} {H' : Hp}, Inv (blkH X s3 H3 scope ce fp) ([] ++ pinsAt fp s7.heap) σ8 H' s' → Nx H' → ∃ m, m < n ∧ ∃ i H', Inv (blkH X s3 H3 scope ce fp) [] (wipe σ (own.map (·.2))) H' s' ∧ tn i s'.heap ∧ (∀ b ∈ fp, H' b = none) ∧ W i m H' := fun {s' H'} I' nx => by
        obtain ⟨m', hm, w'⟩ := hNx H' nx
        have pin' : ∀ b ∈ fp, ∀ o, s7.heap.get? b = some o → s'.heap.get? b = some o ∧ H' b = none := fun b hb o e =>
          let z := I'.pin (b, o) (List.mem_append_right _ (List.mem_append_right _ (mem_pinsAt hb e)))
          ⟨z.1, z.2.1⟩
        have hl : (wipe σ (own.map (·.2))).length = σ8.length := by rw [← hw8, wipe_length]
        refine ⟨m', hm, i + 1, H', (I'.unpinned (pins := [])).weak hl (fun j v e => ?_), T.keep _ _ _ st7 fun b hb o e => (pin' b hb o e).1, fun b hb => ?_, w'⟩
        · rw [← hw8] at e
          exact (wipe_some e).1
        · obtain ⟨o, e, _⟩ := T.obj _ _ st7 b hb
          exact (pin' b hb o e).2
      cases b with
      | false =>
        simp only [Bool.false_eq_true, if_false] at q9 ⊢
        exact fin I9 q9
      | true =>
        simp only [if_true] at q9 ⊢
        refine thnF (pe.run _ s9 σ8 H9 _ I9 q9) fun z s10 ⟨yv, H10, I10, r10, acc, hD10, hz10, nx⟩ => ?_
        exact app_ok (X := blkH X s3 H3 scope ce fp) I10 hD10 hz10 r10 fun s11 I11 => fin I11 nx
  exact codeAny_compStart_list loop (T.self X.A 0 _ _ _ st4 loop)
theorem pe_lcH {elt tg iter : Expr} {ifs : List Expr} {scope : Scope} {own : List (Str × Nat)} {pos : Pos} {wi : TI} {g : TG} {tt : TT} {te : TE} (hc : L2H.HotC X) (hN : X.N.Nodup) (hi : L2H.PIH X tg iter wi) (ok : BlkOk X.N X.env.scope scope own)
    (hg : ∀ (s : Shared) (H : Hp) (C : Addr) (cl : List (Str × Addr)) (fp : List Addr), PG (blkH X s H scope (compEnvC scope cl C X.env) fp) tg g) (ht : ∀ (s : Shared) (H : Hp) (C : Addr) (cl : List (Str × Addr)) (fp : List Addr), PTs (blkH X s H scope (compEnvC scope cl C X.env) fp) ifs tt)
    (he : ∀ (s : Shared) (H : Hp) (C : Addr) (cl : List (Str × Addr)) (fp : List Addr), PE (blkH X s H scope (compEnvC scope cl C X.env) fp) elt te) (hs : ∀ x, foldedSetIterable iter X.env x = pure x := by intro _; rfl) :
    PE X (.ListComp elt [⟨tg, iter, ifs, 0⟩] scope pos) (tLc wi g tt te (own.map (·.2))) := by
  refine ⟨fun pins s σ H Q I h => ?_⟩
  rw [eval_ListComp]
  refine lc_coreH hc hN I hi ok hg ht he hs h fun D C s' m H' I' q hn f => ⟨m, hn, fun h'' sb => ?_⟩
  obtain ⟨f0, f1, f2, f3, f4, f5⟩ := f
  exact ⟨.ref D, H', I'.turned (t' := s'.toks) (fun b o hb e => (sb.2 b hb).trans e) f0 f1 f3 f4 f5, rfl, q⟩
end
section
variable {X : Cx} {B : Hp} {M : List Addr} {e a b c : Expr} {es : List Expr} {pos : Pos}
structure DIH (X : Cx) (B : Hp) (M : List Addr) (tg iter : Expr) (ri : RI) : Prop where
  pi : L2H.PIH X tg iter (fun σ H R => ∃ ρ, Sta X.K B M ρ σ H ∧ ri ρ fun n it ok ρ1 => ∀ J H1, Keep H H1 → OwnEq ρ ρ1 → Sta X.K B M ρ1 σ H1 → Walks X.K B M H1 J n it ok → R J H1)
  mo : MonoI ri
theorem piH_imp {tg iter : Expr} {w w' : TI} (h : L2H.PIH X tg iter w) (i : ∀ σ H R, w' σ H R → w σ H R) : L2H.PIH X tg iter w' := ⟨fun pins s σ H R I q => h.run pins s σ H R I (i σ H R q)⟩
theorem di_range1H {tg : Expr} {p : Pos} {ra : RA} (hm : X.mg "range" = none) (ha : DA X B M [a] ra) (hg : Gl X "range" := by rfl) (hs : starEach [a] X.env = [(false, eval a X.env)] := by rfl) : DIH X B M tg (.Call (.Name "range" p) [a] [] pos) (iRg ra rg1) := by
  refine ⟨piH_imp (L2H.pi_range1H hg hm ha.pa hs) fun σ H R ⟨ρ, S, q⟩ => ?_, fun ρ P P' w p => ha.mo ρ _ _ (fun ws ρ1 q => q.imp fun lo hi ⟨h1, h2, h3, h4, q⟩ => ⟨h1, h2, h3, h4, w _ _ _ _ q⟩) p⟩
  refine intoA ha S q fun ws ρ1 vs H1 hh k1 o1 S1 r1 => ?_
  obtain ⟨lo, hi, e, h1, h2, h3, h4, q1⟩ := hh.el
  unfold rg1 at e
  split at e
  · cases e
    obtain ⟨v, vr, rfl, r1, r2⟩ := r1
    obtain rfl : vr = [] := r2
    obtain rfl : v = _ := r1
    refine ⟨_, rfl, h3, h4, ?_⟩
    have := q1 (Itr 0 (hi - 0).toNat) H1 k1 o1 S1 walks_rg
    rw [Int.sub_zero] at this
    exact this
  · cases e
theorem dn_lcH {x : Str} {px : Pos} {elt iter : Expr} {ifs : List Expr} {scope : Scope} {i : Nat} {ri : RI} {rt : RT} {re : RE} (hc : L2H.HotC X) (hN : X.N.Nodup) (hi : DIH X B M (.Name x px) iter ri) (ok : BlkOk X.N X.env.scope scope [(x, i)])
    (ht : ∀ (B' : Hp) (M' : List Addr) (s : Shared) (H : Hp) (C : Addr) (cl : List (Str × Addr)) (fp : List Addr), DTs (blkH X s H scope (compEnvC scope cl C X.env) fp) B' M' ifs rt)
    (he : ∀ (B' : Hp) (M' : List Addr) (s : Shared) (H : Hp) (C : Addr) (cl : List (Str × Addr)) (fp : List Addr), DE (blkH X s H scope (compEnvC scope cl C X.env) fp) B' M' elt re)
    (hg : ∀ (s : Shared) (H : Hp) (C : Addr) (cl : List (Str × Addr)) (fp : List Addr), PG (blkH X s H scope (compEnvC scope cl C X.env) fp) (.Name x px) (gName i))
    (hs : ∀ x, foldedSetIterable iter X.env x = pure x := by intro _; rfl) :
    DN X B M (.ListComp elt [⟨.Name x px, iter, ifs, 0⟩] scope pos) (rLcF i ri rt re) := by
  have mt : MonoT rt := (ht B M X.s_0 (fun _ => none) 0 [] []).mo
  have me : MonoE re := (he B M X.s_0 (fun _ => none) 0 [] []).mo
  refine DN.mk' (pe_lcH (own := [(x, i)]) (g := gName i) (tt := fun σ H Q => ∃ B' M', tDT X.K B' M' rt σ H Q) (te := fun σ H Q => ∃ B' M', tD X.K B' M' re σ H Q) hc hN hi.pi ok hg
    (fun s H C cl fp => ⟨fun pins s' σ H' Q I ⟨B', M', q⟩ => (ht B' M' s H C cl fp).pts.run pins s' σ H' Q I q⟩) (fun s H C cl fp => ⟨fun pins s' σ H' Q I ⟨B', M', q⟩ => (he B' M' s H C cl fp).pe.run pins s' σ H' Q I q⟩) hs) (mo_rLc hi.mo) fun σ H Q ρ S ⟨z, q⟩ => ?_
  exact lc_imp hi.mo mt me (fun B' M' σ H Q h => ⟨B', M', h⟩) (fun B' M' σ H Q h => ⟨B', M', h⟩) S (free_of z) q
/-! ### isinstance of the caught exception -/
theorem hot_suite {a : Addr} {oe : Obj} {pn : List (Addr × Obj)} {cls : Value} {d : Option Addr} (hz : L2N.Zn cls d oe) (hf : ∃ vs, oe.data = .fields vs) : L2H.HotC (X.suite a ((a, oe) :: pn)) := by
  obtain ⟨vs, hv⟩ := hf
  exact ⟨(a, oe), ⟨rfl, vs, hv, hz.2.2 vs hv⟩, List.mem_cons_self⟩
def oIsE (K : PySem.W.Frag) (C a : Addr) : OA := fun ws ρ P => ∃ (c : Addr) (b : Bool), ws = [.d (.obj a), .d (.obj c)] ∧ PySem.W.kitOne K (.ref C) (.ref c) = some b ∧ P (.bl b)
def oIsT (K : PySem.W.Frag) (C a : Addr) : OA := fun ws ρ P => ∃ (n : String) (b : Bool), ws = [.d (.obj a), .d (.ty n)] ∧ PySem.W.kitOne K (.ref C) (.type n) = some b ∧ P (.bl b)
theorem de_isE {C a : Addr} {oe : Obj} {pn : List (Addr × Obj)} {e : Expr} {es : List Expr} {pos p : Pos} {ra : RA} (hC : ExcC X.K C) (hz : L2N.Zn (.ref C) none oe) (hf : ∃ vs, oe.data = .fields vs) (hm : X.mg "isinstance" = none) (ha : DA (X.suite a ((a, oe) :: pn)) B M (e :: es) ra)
    (hg : Gl (X.suite a ((a, oe) :: pn)) "isinstance" := by rfl) (he : starEach (e :: es) X.env = (false, eval e X.env) :: starEach es X.env := by rfl) (hpl : (backTo pos (starEach es X.env)).any (·.1) = false := by rfl) :
    DE (X.suite a ((a, oe) :: pn)) B M (.Call (.Name "isinstance" p) (e :: es) [] pos) (rA ra (oIsE X.K C a)) :=
  de_callB (call_isE hC hz.zc hf) (fun B M ρ σ H ws xs Q P S r ⟨c, b, e1, k, pp⟩ q => by
    subst e1
    obtain ⟨v, vr, rfl, r1, v2, vr2, rfl, r2, r3⟩ := r
    obtain rfl : vr2 = [] := r3
    obtain rfl : v = V.ref a := r1
    obtain rfl : v2 = V.ref c := r2
    exact ⟨.ref c, .ref c, b, rfl, fun u hu => hu, k, q _ _ H pp (Same.refl _) rfl⟩) (fun ws ρ P P' h ⟨c, b, e1, k, p⟩ => ⟨c, b, e1, k, h _ p⟩) hg hm (by decide +kernel) ha (by decide) (by decide) he hpl
theorem de_isT {C a : Addr} {oe : Obj} {pn : List (Addr × Obj)} {e : Expr} {es : List Expr} {pos p : Pos} {ra : RA} (hC : ExcC X.K C) (hz : L2N.Zn (.ref C) none oe) (hf : ∃ vs, oe.data = .fields vs) (hm : X.mg "isinstance" = none) (ha : DA (X.suite a ((a, oe) :: pn)) B M (e :: es) ra)
    (hg : Gl (X.suite a ((a, oe) :: pn)) "isinstance" := by rfl) (he : starEach (e :: es) X.env = (false, eval e X.env) :: starEach es X.env := by rfl) (hpl : (backTo pos (starEach es X.env)).any (·.1) = false := by rfl) :
    DE (X.suite a ((a, oe) :: pn)) B M (.Call (.Name "isinstance" p) (e :: es) [] pos) (rA ra (oIsT X.K C a)) :=
  de_callB (call_isE hC hz.zc hf) (fun B M ρ σ H ws xs Q P S r ⟨n, b, e1, k, pp⟩ q => by
    subst e1
    obtain ⟨v, vr, rfl, r1, v2, vr2, rfl, r2, r3⟩ := r
    obtain rfl : vr2 = [] := r3
    obtain rfl : v = V.ref a := r1
    obtain rfl : v2 = V.ty n := r2
    exact ⟨.ty n, .type n, b, rfl, fun u hu => hu, k, q _ _ H pp (Same.refl _) rfl⟩) (fun ws ρ P P' h ⟨c, b, e1, k, p⟩ => ⟨c, b, e1, k, h _ p⟩) hg hm (by decide +kernel) ha (by decide) (by decide) he hpl
end
end N
/-! NX -/
set_option Elab.async false
set_option linter.all false
set_option maxRecDepth 100000
set_option maxHeartbeats 1000000
/-! NX: defs that hold lambdas and are called again: their tables of code objects. -/
namespace N
open PySem PySem.Spec PyProof.Rows L2
/-- tables and the name that their code objects bear -/
abbrev Tbs := List (Addr × Str)
def tabL (T : Tbs) : En := T.map fun t => Slot.tab t.1 t.2
def TabFn (T : Tbs) : Prop := ∀ p ∈ T, ∀ p' ∈ T, p.1 = p'.1 → p.2 = p'.2
def NoTb (B : Hp) : Prop := ∀ b ps, B b ≠ some (.tbl ps)
def noT (H : Hp) : Hp := fun b => match H b with
  | some (.tbl _) => none
  | o => o
theorem noT_of {H : Hp} {b : Addr} {o : HO} (h : H b = some o) (n : ∀ ps, o ≠ .tbl ps) : noT H b = some o := by
  unfold noT
  rw [h]
  cases o with
  | tbl ps => exact absurd rfl (n ps)
  | _ => rfl
theorem noT_inv {H : Hp} {b : Addr} {o : HO} (h : noT H b = some o) : H b = some o := by
  unfold noT at h
  split at h
  · cases h
  · exact h
theorem noT_no {H : Hp} : NoTb (noT H) := fun b ps h => by
  have h2 := noT_inv h
  unfold noT at h
  rw [h2] at h
  cases h
theorem noH_no : NoTb noH := fun b ps h => nomatch (show (none : Option HO) = some _ from h)
theorem frm_noT {M : List Addr} {H : Hp} : Frm M (noT H) H := fun b o h _ => noT_inv h
theorem frm_ext {H H' : Hp} (f : Frm [] (noT H) H') : LamX.ExtN H H' := fun b o h n => f b o (noT_of h n) (.inr (by simp))
def own0 (M : List Addr) (ρ : En) : Prop := match M with
  | [] => True
  | q :: r => match ρ[0]? with
    | some (Slot.own p _) => q = p ∧ r = []
    | _ => False
/-- the slots behind the n names are just these tables -/
def TOk (n : Nat) (T : Tbs) (M : List Addr) (ρ : En) : Prop := ρ.drop n = tabL T ∧ own0 M ρ
section
variable {K : PySem.W.Frag} {B H H1 : Hp} {M : List Addr} {ρ : En} {σ : L2.St} {n : Nat} {T : Tbs}
theorem own0_at {p : Addr} (h : own0 M ρ) (hp : p ∈ M) : ∃ ds, ρ[0]? = some (.own p ds) := by
  unfold own0 at h
  split at h
  · simp at hp
  · split at h
    · rename_i q r p' ds e
      obtain ⟨rfl, rfl⟩ := h
      rw [List.mem_singleton.mp hp]
      exact ⟨ds, e⟩
    · exact h.elim
theorem tabL_at {i : Nat} {P : Addr} {q : Str} (h : (tabL T)[i]? = some (.tab P q)) : (P, q) ∈ T := by
  unfold tabL at h
  rw [List.getElem?_map] at h
  obtain ⟨t, ht, e⟩ := Option.map_eq_some_iff.mp h
  have := List.mem_of_getElem? ht
  cases e
  exact this
theorem TOk.at_ (t : ρ.drop n = tabL T) {i : Nat} (hi : n ≤ i) {P : Addr} {q : Str} (e : ρ[i]? = some (.tab P q)) : (P, q) ∈ T := by
  have h : (ρ.drop n)[i - n]? = some (.tab P q) := by rw [List.getElem?_drop, show n + (i - n) = i from by omega]; exact e
  rw [t] at h
  exact tabL_at h
theorem Sta.hasTabs (S : Sta K B M ρ σ H) (t : ρ.drop n = tabL T) : LamX.Tabs T H := fun p hp => by
  obtain ⟨j, hj⟩ := List.mem_iff_getElem?.mp hp
  have h : (ρ.drop n)[j]? = some (.tab p.1 p.2) := by
    rw [t]
    unfold tabL
    rw [List.getElem?_map, hj]
    rfl
  rw [List.getElem?_drop] at h
  exact S.ok _ _ h
/-- tables are written, all else stays -/
theorem Sta.tabs (S : Sta K B M ρ σ H) (hB : NoTb B) (hn : σ.length = n) (t : TOk n T M ρ) (x : LamX.ExtN H H1) (tt : LamX.Tabs T H1) : Sta K B M ρ σ H1 := by
  refine ⟨fun b o e im => x b o (S.frm b o e im) fun ps z => hB b ps (z ▸ e), fun i s e => ?_, S.dis, S.new, fun p hp => ?_, S.tbi⟩
  · refine SlotOk.keep (keep_extN x) (fun p ds es => ?_) (fun P' q' et => ?_) (S.ok i s e)
    · subst es
      obtain ⟨_, vs, hv, rr⟩ := S.ok i _ e
      exact ⟨vs, x _ _ hv (fun _ z => by cases z), RepL.keep (keep_extN x) ds rr⟩
    · subst et
      exact tt _ (TOk.at_ t.1 (by rw [← hn]; exact S.tbi i _ _ e) e)
  · obtain ⟨ds, e⟩ := own0_at t.2 hp
    obtain ⟨vs, hv, _⟩ := S.own_at e
    exact ⟨_, x _ _ hv fun _ z => by cases z⟩
end
section
variable {X : Cx} {B : Hp} {M : List Addr} {e a b c : Expr} {es : List Expr} {pos : Pos} {T : Tbs}
theorem DE.mkL {t : TE} {r : RE} (h : PE X e t) (mo : MonoE r) (w : ∀ σ H Q ρ, σ.length = X.N.length → Sta X.K B M ρ σ H → r ρ (kE X.K B M ρ σ H Q) → t σ H Q) : DE X B M e r := ⟨pe_impL h fun σ H Q hl ⟨ρ, S, q⟩ => w σ H Q ρ hl S q, mo⟩
/-- the reading of x(lambda: body) -/
def rAnsT (n : Nat) (T : Tbs) (M : List Addr) (Ans : Exn → D → Prop) (r : (Exn → Prop) → RE) : RE := fun ρ Q => TOk n T M ρ ∧ ∃ Xp : Exn → Prop, r Xp (noOwn ρ) (kD fun d _ => Q (.d (.tup [.str "told", d])) ρ) ∧ ∀ x, Xp x → ∃ d, Ans x d ∧ Q (.d d) ρ
theorem de_answerT {n : Nat} {Ans : Exn → D → Prop} {x a : Str} {g c P : Addr} {k : Nat} {pg : Arguments} {bg : List Stmt} {sg : Scope} {fd : FuncData} {Ng : List Str} {params : Arguments} {body : Expr} {scope : Scope} {r : (Exn → Prop) → RE} {p lpos pos : Pos} (hB : NoTb B)
    (F : FunD X.K x x pg bg sg [] [] g fd) (hm : X.mg x = some (.ref g)) (Sg : FnScope Ng [a] sg) (hNg : Ng[0]? = some a) (hva : Vis sg a)
    (hb : ∀ (kV doc pm : Value) (an : Option Addr) (cdv ct : Value) (us : List Value), us.length = [a].length → bindArgs (PySem.W.fnOf x x pg bg sg .none kV doc pm an cdv ct) ⟨us, []⟩ = pure ([a].zip us))
    (hG : ∀ cdg, LamN.GivesToN X Ng x sg g cdg bg a (X.env.qual ++ "<lambda>") (TTans X.K Ans)) (TB : LamX.TabB X.base X.mg c P) (hcode : X.env.code = .ref c) (hT : TabFn T) (hmT : (P, X.env.qual ++ "<lambda>") ∈ T) (hr : Room (k + 2) X.A)
    (hbody : ∀ (Xp : Exn → Prop) (B' : Hp) (A : Around) (outer : List Env) (s : Shared) (H : Hp) (E : XK) (f c' : Addr), Room k (A.deeper (LamX.lamEnv X scope s.heap.objs.size f c')) → (∀ x cls dx H', Xp x → Frm [] B' H' → XRep X.K H' x cls dx → E cls dx H') → DE (LamN.lamCxN X A outer s H E scope f c') B' [] body (r Xp))
    (hn : X.N.length = n := by rfl) (hg : Gl X x := by rfl) (L : LamX.LamS X.env.scope scope := by exact LamX.lamS_by (by decide +kernel)) (hdef : defaultsOf params X.env = ([], []) := by rfl)
    (hbind : ∀ (q : Str) (cl : List (Str × Addr)) (pm cv ctv : Value), bindArgs (PySem.W.kla_fn "<lambda>" q params body scope cl pm cv ctv) ⟨[], []⟩ = pure [] := by intros; rfl)
    (hdb : (x == ("__debug__" : Str)) = false := by decide) (hd : (a == ("__debug__" : Str)) = false := by decide) (hcd : (a == ("__classdict__" : Str)) = false := by decide) :
    DE X B M (.Call (.Name x p) [.Lambda params body scope lpos] [] pos) (rAnsT n T M Ans r) := by
  obtain ⟨oc, od, dV, kV, doc, pm, an, cdv, ct, osl, efd, lk, hcd', hD, hK⟩ := F.ex
  have hdV : dV = .none := by
    rcases hD with ⟨_, h⟩ | ⟨h, _⟩
    · exact h
    · exact absurd rfl h
  subst hdV efd
  have mo : ∀ Xp, MonoE (r Xp) := fun Xp => (hbody Xp noH X.A [] X.s_0 noH (fun _ _ _ => True) 0 0 ((hr.mono (Nat.le_succ _)).deeper _) (fun _ _ _ _ _ _ _ => trivial)).mo
  refine DE.mkL (LamN.pe_lamcallN (T := T) (TT := TTans X.K Ans) (k := k)
    (t := fun E σ H Q => ∃ ρ' Xp, Sta X.K H [] ρ' σ H ∧ r Xp ρ' (kE X.K H [] ρ' σ H Q) ∧ ∀ x cls dx H', Xp x → Frm [] H H' → XRep X.K H' x cls dx → E cls dx H')
    hg hm F.kp lk hcd' (.all fun us hl => hb _ _ _ _ _ _ us hl) Sg hNg hva (hG cdv) TB hcode hmT (fun p hp e => hT p hp _ hmT e) hr L hdef hbind
    (fun A outer s H E f c' hr2 => ⟨fun pins s' σ H' Q I ⟨ρ', Xp, S, q, hE⟩ => (hbody Xp H' A outer s H E f c' hr2 hE).pe.run pins s' σ H' Q I ⟨ρ', S, q⟩⟩) hdb hd hcd) (fun ρ P P' w ⟨h1, Xp, h3, h4⟩ => ⟨h1, Xp, mo Xp _ _ _ (fun w1 ρ1 q => by obtain ⟨d, rfl, q⟩ := q.el; exact w _ _ q) h3, fun x hx => by obtain ⟨d, h5, h6⟩ := h4 x hx; exact ⟨d, h5, w _ _ h6⟩⟩) fun σ H Q ρ hl S ⟨tk, Xp, h3, h4⟩ => ?_
  refine ⟨S.hasTabs tk.1, fun H1 x1 t1 => ?_⟩
  have S1 := S.tabs hB (hl.trans hn) tk x1 t1
  refine ⟨noOwn ρ, Xp, S1.data, mo Xp _ _ _ (fun w ρ2 hh => ?_) h3, fun x cls dx H' hx fr rx => ?_⟩
  · obtain ⟨d, ew, q⟩ := hh.el
    subst ew
    intro v H2 k2 o2 S2 r2
    refine ⟨by rw [sizeLine_eq]; show 2 ≤ 16777216; decide, ?_⟩
    intro o p hod hp
    have sm : Same H1 H2 := S2.frm.same
    have sm2 := same_upd (o := .frz o (.tup [.str "told", v])) hp
    refine q _ _ (((keep_extN x1).trans (Keep.of sm)).trans (Keep.of sm2)) (OwnEq.refl _) ((S1.same sm).same sm2) ⟨p, _, rfl, .inl ⟨o, hod, upd_same⟩, .str "told", [v], rfl, rfl, v, [], rfl, Rep.keep (Keep.of sm2) d r2, rfl⟩
  · obtain ⟨d, h5, h6⟩ := h4 x hx
    refine ⟨x, d, rx, h5, fun H'' v sm rv => ?_⟩
    exact h6 v H'' ((keep_extN x1).trans (fr.keep.trans (Keep.of sm))) (OwnEq.refl _) ((S1.same fr.same).same sm) rv
end
/-- the name of a code object made in the def x -/
def lamQ (x : Str) : Str := x ++ ".<locals>." ++ "<lambda>"
/-- the def x's own table is one of T -/
structure TabO (base : Heap) (mg : Str → Option Value) (K : PySem.W.Frag) (T : Tbs) (x : Str) : Prop where
  b : LamX.TabB base mg (He.cT K (x, none)).1 (He.cT K (x, none)).2
  m : ((He.cT K (x, none)).2, lamQ x) ∈ T
/-! ### defs that hold lambdas: what they promise -/
/-- as spF, the tables T before and after -/
def spFT (K : PySem.W.Frag) (T : Tbs) (S : FS) : Sp := fun vs H Q _ => ∃ g, RepL K H (S.args g) vs ∧ S.pre g ∧ LamX.Tabs T H ∧ ∀ d v H', S.post g d → LamX.ExtN H H' → LamX.Tabs T H' → Rep K H' d v → Q v H'
/-- as spS, the tables T before and after -/
def spST (K : PySem.W.Frag) (T : Tbs) (S : SS) : Sp := fun vs H Q _ => ∃ g p vs0 s vr, vs = .ref p :: vr ∧ H p = some (.lst vs0) ∧ RepL K H s vs0 ∧ S.s0 g s ∧ RepL K H (S.args g) vr ∧ S.pre g ∧ LamX.Tabs T H ∧
  (∀ d s' v H' vs', S.post g d → S.s1 g s' → Frm [p] (noT H) H' → LamX.Tabs T H' → H' p = some (.lst vs') → RepL K H' s' vs' → Rep K H' d v → Q v H')
section
variable {K : PySem.W.Frag} {B H H1 : Hp} {M : List Addr} {ρ : En} {σ : L2.St} {n : Nat} {T : Tbs}
/-- tables behind the slots -/
theorem Sta.withTabs (S : Sta K H M ρ σ H) (hl : σ.length ≤ ρ.length) (hM : ∀ p ∈ M, ∃ vs, H p = some (.lst vs)) (t : LamX.Tabs T H) : Sta K (noT H) M (ρ ++ tabL T) σ H := by
  have look : ∀ {i : Nat} {s : Slot}, (ρ ++ tabL T)[i]? = some s → ρ[i]? = some s ∨ (ρ.length ≤ i ∧ ∃ P q, s = .tab P q ∧ (P, q) ∈ T) := fun {i s} e => by
    by_cases hi : i < ρ.length
    · rw [List.getElem?_append_left hi] at e
      exact .inl e
    · rw [List.getElem?_append_right (by omega)] at e
      refine .inr ⟨by omega, ?_⟩
      unfold tabL at e
      rw [List.getElem?_map] at e
      obtain ⟨t, ht, e⟩ := Option.map_eq_some_iff.mp e
      exact ⟨t.1, t.2, e.symm, List.mem_of_getElem? ht⟩
  refine ⟨frm_noT, fun i s e => ?_, fun i j p q ds es ei ej => ?_, fun i p ds e => ?_, S.mh, fun i P q e => ?_⟩
  · rcases look e with h | ⟨_, P, q, rfl, h⟩
    · exact S.ok i s h
    · exact t _ h
  · rcases look ei with h | ⟨_, P, q, h, _⟩
    · rcases look ej with h2 | ⟨_, P, q, h2, _⟩
      · exact S.dis i j p q ds es h h2
      · cases h2
    · cases h
  · rcases look e with h | ⟨_, P, q, h, _⟩
    · rcases S.new i p ds h with z | z
      · left
        unfold noT
        rw [z]
      · exact .inr z
    · cases h
  · rcases look e with h | ⟨h, _⟩
    · exact S.tbi i P q h
    · exact Nat.le_trans hl h
/-- the state behind a call that changed the list of slot i and tables -/
theorem Sta.calledT {i : Nat} {p : Addr} {s s' : List D} {vs' : List V} (S : Sta K B M ρ σ H) (hB : NoTb B) (hn : σ.length = n) (t : TOk n T M ρ) (e : ρ[i]? = some (.own p s)) (fr : Frm [p] (noT H) H1) (tt : LamX.Tabs T H1) (hp : H1 p = some (.lst vs')) (r : RepL K H1 s' vs') : Sta K B M (ρ.set i (.own p s')) σ H1 := by
  have hlt : i < ρ.length := (List.getElem?_eq_some_iff.mp e).1
  obtain ⟨vs, hpv, _⟩ := S.own_at e
  have kp : Keep H H1 := fun b o h im => fr b o (noT_of h fun ps z => by subst z; exact im) (.inl im)
  have look : ∀ {j : Nat} {q fs}, (ρ.set i (Slot.own p s'))[j]? = some (Slot.own q fs) → ∃ fs', ρ[j]? = some (Slot.own q fs') := fun {j q fs} h => by
    by_cases hj : j = i
    · subst hj
      rw [List.getElem?_set_self hlt] at h
      cases h
      exact ⟨s, e⟩
    · rw [List.getElem?_set_ne (Ne.symm hj)] at h
      exact ⟨fs, h⟩
  refine ⟨fun b o hb im => ?_, fun j t' ej => ?_, fun j k q q' fs gs ej ek hjk => ?_, fun j q fs ej => ?_, fun q hq => ?_, fun j P q h => S.tbi j P q (tab_set h fun _ _ z => by cases z)⟩
  · have h2 := S.frm b o hb im
    by_cases hbp : b = p
    · rw [hbp, hpv] at h2
      cases h2
      rcases S.new i p s e with n | n
      · rw [hbp, n] at hb
        cases hb
      · rcases im with im | im
        · exact im.elim
        · exact absurd (hbp ▸ n) im
    · exact fr b o (noT_of h2 fun ps z => hB b ps (z ▸ hb)) (.inr (by simpa using hbp))
  · by_cases hj : j = i
    · subst hj
      rw [List.getElem?_set_self hlt] at ej
      cases ej
      obtain ⟨h2, _⟩ := S.ok j _ e
      exact ⟨h2, vs', hp, r⟩
    · rw [List.getElem?_set_ne (Ne.symm hj)] at ej
      refine SlotOk.keep kp (fun q fs es => ?_) (fun P q et => by
        subst et
        exact tt _ (TOk.at_ t.1 (by rw [← hn]; exact S.tbi j _ _ ej) ej)) (S.ok j t' ej)
      subst es
      obtain ⟨_, us, hu, ru⟩ := S.ok j _ ej
      exact ⟨us, fr q _ (noT_of hu fun _ z => by cases z) (.inr (by simpa using S.dis j i q p fs s ej e hj)), RepL.keep kp fs ru⟩
  · obtain ⟨a, h1⟩ := look ej
    obtain ⟨b, h2⟩ := look ek
    exact S.dis j k q q' a b h1 h2 hjk
  · obtain ⟨a, h1⟩ := look ej
    exact S.new j q a h1
  · by_cases hqp : q = p
    · exact ⟨_, by rw [hqp]; exact hp⟩
    · obtain ⟨ds, e0⟩ := own0_at t.2 hq
      obtain ⟨us, hu, _⟩ := S.own_at e0
      exact ⟨_, fr q _ (noT_of hu fun _ z => by cases z) (.inr (by simpa using hqp))⟩
end
section
variable {P : Program} {w : World} {K : PySem.W.Frag} {mg : Str → Option Value} {base : Heap} {x qual : Str} {params : Arguments} {body : List Stmt} {scope : Scope} {f : Addr} {fd : FuncData} {T : Tbs}
theorem FunD.okc {CX : CXT} {dvs : List V} {N ps : List Str} {k : Nat} {sp : Sp} (F : FunD K x qual params body scope dvs [] (He.fAd K (x, none)) fd) (S : FnScope N ps scope) (len : ∀ vs H Q E, sp vs H Q E → vs.length = ps.length)
    (hbody : ∀ (A : Around) (outer : List Env) (s : Shared) (H : Hp) (vs : List V) (Q : VK) (E : XK), Room k (A.deeper (envOfC qual scope s.heap.objs.size (He.fAd K (x, none)) (.ref (He.cT K (x, none)).1))) → sp vs H Q E →
      ∃ t, PSs (cxOf CX P w K mg base N qual scope (He.fAd K (x, none)) (.ref (He.cT K (x, none)).1) A outer s H E) body t ∧ t { nx := fun _ H' => Q .non H', rt := Q } (start N vs) H) : FnOk P w K mg base CX (k + 1) (He.fAd K (x, none)) fd ps sp := by
  obtain ⟨oc, od, dV, kV, doc, pm, an, cdv, ct, osl, rfl, lk, hcd, _, _⟩ := F.ex
  obtain ⟨c, rfl⟩ := He.codeIn_ref hcd
  have ec : (He.cT K (x, none)).1 = c := He.codeOf_eq lk rfl
  rw [ec] at hbody
  exact fn_of lk hcd S len fun A outer s H vs Q E hr hsp => hbody A outer s H vs Q E hr hsp
theorem start_len {N : List Str} {vs : List V} (h : vs.length ≤ N.length) : (L2.start N vs).length = N.length := by
  unfold L2.start
  simp
  omega
theorem fnFT_ok {dvs : List V} {N ps : List Str} {k : Nat} (F : FunD K x qual params body scope dvs [] (He.fAd K (x, none)) fd) (Sc : FnScope N ps scope) (S : FS) (len : ∀ g, (S.args g).length = ps.length) (hps : ps.length ≤ N.length)
    (h : ∀ (A : Around) (outer : List Env) (s : Shared) (H : Hp) (E : XK) (g : S.α), Room k (A.deeper (envOfC qual scope s.heap.objs.size (He.fAd K (x, none)) (.ref (He.cT K (x, none)).1))) → S.pre g →
      ∃ r, DSs (cxOf (L2N.CX P w) P w K mg base N qual scope (He.fAd K (x, none)) (.ref (He.cT K (x, none)).1) A outer s H E) (noT H) [] body r ∧ r { nx := fun ρ => S.post g .non ∧ ρ.drop N.length = tabL T, rt := fun d ρ => S.post g d ∧ ρ.drop N.length = tabL T } (ini N.length (S.args g) ++ tabL T)) :
    FnOk P w K mg base (L2N.CX P w) (k + 1) (He.fAd K (x, none)) fd ps (spFT K T S) := by
  refine FunD.okc F Sc (fun vs H Q E ⟨g, r, _⟩ => (RepL.length r).trans (len g)) fun A outer s H vs Q E hr ⟨g, r, pre, tt, q⟩ => ?_
  obtain ⟨rs, hd, hm⟩ := h A outer s H E g hr pre
  have hl := RepL.length r
  have sl : (L2.start N vs).length = N.length := start_len (by rw [hl, len g]; exact hps)
  have il : (ini N.length (S.args g)).length = N.length := by
    unfold ini
    have := len g
    simp
    omega
  refine ⟨_, hd.pss, _, _, (sta_ini r).withTabs (by rw [sl, il]; exact Nat.le_refl _) (fun p hp => absurd hp (by simp)) tt, hm, ⟨fun ρ σ H' _ S' ⟨hp, t⟩ => q .non .non H' hp (frm_ext S'.frm) (S'.hasTabs t) rfl, fun d ρ σ v H' _ S' rv ⟨hp, t⟩ => q d v H' hp (frm_ext S'.frm) (S'.hasTabs t) rv, fun _ _ _ _ _ z => z, fun _ _ _ _ _ z => z, fun _ _ _ _ _ _ _ _ _ z => z.elim⟩⟩
theorem fnST_ok {dvs : List V} {N ps : List Str} {k : Nat} (F : FunD K x qual params body scope dvs [] (He.fAd K (x, none)) fd) (Sc : FnScope N ps scope) (S : SS) (len : ∀ g, (S.args g).length + 1 = ps.length) (hps : ps.length ≤ N.length) (hN : 0 < N.length)
    (h : ∀ (A : Around) (outer : List Env) (s : Shared) (H : Hp) (E : XK) (g : S.α) (p : Addr) (ss : List D), Room k (A.deeper (envOfC qual scope s.heap.objs.size (He.fAd K (x, none)) (.ref (He.cT K (x, none)).1))) → S.pre g → S.s0 g ss →
      ∃ r, DSs (cxOf (L2N.CX P w) P w K mg base N qual scope (He.fAd K (x, none)) (.ref (He.cT K (x, none)).1) A outer s H E) (noT H) [p] body r ∧ r { nx := fun ρ => S.post g .non ∧ (∃ s', ρ[0]? = some (.own p s') ∧ S.s1 g s') ∧ ρ.drop N.length = tabL T, rt := fun d ρ => S.post g d ∧ (∃ s', ρ[0]? = some (.own p s') ∧ S.s1 g s') ∧ ρ.drop N.length = tabL T } (iniS N.length p ss (S.args g) ++ tabL T)) :
    FnOk P w K mg base (L2N.CX P w) (k + 1) (He.fAd K (x, none)) fd ps (spST K T S) := by
  refine FunD.okc F Sc (fun vs H Q E ⟨g, p, vs0, s, vr, e, _, _, _, r, _⟩ => by rw [e, List.length_cons, RepL.length r]; exact len g) fun A outer s H vs Q E hr ⟨g, p, vs0, ss, vr, e, hp, r0, hs, r, pre, tt, q⟩ => ?_
  subst e
  obtain ⟨rs, hd, hm⟩ := h A outer s H E g p ss hr pre hs
  have hl := RepL.length r
  have lg := len g
  have sl : (L2.start N (.ref p :: vr)).length = N.length := start_len (by rw [List.length_cons, hl, lg]; exact hps)
  have il : (iniS N.length p ss (S.args g)).length = N.length := by
    unfold iniS
    simp
    omega
  refine ⟨_, hd.pss, _, _, (sta_iniS hN hp r0 r).withTabs (by rw [sl, il]; exact Nat.le_refl _) (fun q hq => by rw [List.mem_singleton.mp hq]; exact ⟨_, hp⟩) tt, hm, ⟨fun ρ σ H' _ S' ⟨hp, ⟨s', e0, hs'⟩, t⟩ => ?_, fun d ρ σ v H' _ S' rv ⟨hp, ⟨s', e0, hs'⟩, t⟩ => ?_, fun _ _ _ _ _ z => z, fun _ _ _ _ _ z => z, fun _ _ _ _ _ _ _ _ _ z => z.elim⟩⟩
  · obtain ⟨vs', hv, rr⟩ := S'.own_at e0
    exact q .non s' .non H' vs' hp hs' S'.frm (S'.hasTabs t) hv rr rfl
  · obtain ⟨vs', hv, rr⟩ := S'.own_at e0
    exact q d s' v H' vs' hp hs' S'.frm (S'.hasTabs t) hv rr rv
end
/-! ### calls of such defs -/
section
variable {X : Cx} {B : Hp} {M : List Addr} {e a b c : Expr} {es : List Expr} {pos : Pos} {T : Tbs}
def rCallFT (n : Nat) (T : Tbs) (M : List Addr) (S : FS) (ra : RA) : RE := fun ρ Q => ra ρ fun ws ρ1 => ∃ g, ws = dats (S.args g) ∧ S.pre g ∧ TOk n T M ρ1 ∧ ∀ d, S.post g d → Q (.d d) ρ1
theorem de_callFT {x : Str} {k n : Nat} {ps : List Str} {S : FS} {ra : RA} {p : Pos} (hB : NoTb B) (G : Has X.prog X.w X.K X.mg X.base x k ps (spFT X.K T S)) (hr : Room k X.A) (ha : DA X B M (a :: es) ra) (hn : X.N.length = n := by rfl) (hg : Gl X x := by rfl) (hdb : (x == ("__debug__" : Str)) = false := by decide)
    (he : starEach (a :: es) X.env = (false, eval a X.env) :: starEach es X.env := by rfl) (hpl : (backTo pos (starEach es X.env)).any (·.1) = false := by rfl) :
    DE X B M (.Call (.Name x p) (a :: es) [] pos) (rCallFT n T M S ra) := by
  obtain ⟨f, fd, hm, hk, hb, F⟩ := G
  refine DE.mkL (pe_call F hr hg hm hk hb .nil passN ha.pa hdb he hpl) (fun ρ P P' w q => ha.mo ρ _ _ (fun ws ρ1 ⟨g, e1, pre, tk, h1⟩ => ⟨g, e1, pre, tk, fun d hd => w _ _ (h1 d hd)⟩) q) fun σ H Q ρ hl Sx q => ?_
  refine intoA ha Sx q fun ws ρ1 vs H1 ⟨g, e1, pre, tk, h1⟩ k1 o1 S1 r1 => ?_
  subst e1
  rw [List.append_nil]
  refine ⟨g, dats_ok r1, pre, S1.hasTabs tk.1, fun d v H' hd x tt rv => ?_⟩
  exact h1 d hd v H' (k1.trans (keep_extN x)) o1 (S1.tabs hB (hl.trans hn) tk x tt) rv
def rCallST (n : Nat) (T : Tbs) (M : List Addr) (S : SS) (i : Nat) (ra : RA) : RE := fun ρ Q => kOwn i (fun _ _ => ra ρ fun ws ρ1 => kOwn i (fun p s => ∃ g, ws = dats (S.args g) ∧ S.s0 g s ∧ S.pre g ∧ TOk n T M ρ1 ∧ ∀ d s', S.post g d → S.s1 g s' → Q (.d d) (ρ1.set i (.own p s'))) ρ1) ρ
theorem de_callST {x : Str} {k n : Nat} {ps : List Str} {S : SS} {ra : RA} {p ps' : Pos} {y : Str} {i : Nat} (hB : NoTb B) (G : Has X.prog X.w X.K X.mg X.base x k ps (spST X.K T S)) (hr : Room k X.A) (hy : DE X B M (.Name y ps') (rVar i)) (ha : DA X B M es ra) (hn : X.N.length = n := by rfl) (hg : Gl X x := by rfl) (hdb : (x == ("__debug__" : Str)) = false := by decide)
    (he : starEach (.Name y ps' :: es) X.env = (false, eval (.Name y ps') X.env) :: starEach es X.env := by rfl) (hpl : (backTo pos (starEach es X.env)).any (·.1) = false := by rfl) : DE X B M (.Call (.Name x p) (.Name y ps' :: es) [] pos) (rCallST n T M S i ra) := by
  obtain ⟨f, fd, hm, hk, hb, F⟩ := G
  refine DE.mkL (pe_call F hr hg hm hk hb .nil passN (pa_cons hy.pe ha.pa he) hdb he hpl) (fun ρ P P' w q => q.imp fun _ _ q => ha.mo ρ _ _ (fun ws ρ1 q => q.imp fun p s ⟨g, e1, hs, pre, tk, h1⟩ => ⟨g, e1, hs, pre, tk, fun d s' hd hs' => w _ _ (h1 d s' hd hs')⟩) q) fun σ H Q ρ hl Sx hh => ?_
  obtain ⟨p0, s0, e0, q⟩ := hh.el
  refine into hy Sx (P := fun w ρ' => w = .o i ∧ ρ' = ρ) (rVar.mk (w := .o i) (by unfold rd; rw [e0]) ⟨rfl, rfl⟩) fun w ρ' vo H1 ⟨ew, eρ⟩ k1 o1 S1 r1 => ?_
  subst ew eρ
  refine intoA ha S1 q fun ws ρ1 vs H2 hh k2 o2 S2 r2 => ?_
  obtain ⟨p, s, e2, g, e1, hs, pre, tk, h1⟩ := hh.el
  subst e1
  obtain ⟨p', s', e3, ev⟩ := WOk.keep k2 o2 r1
  rw [e2] at e3
  cases e3
  obtain ⟨vs0, hp, rr⟩ := S2.own_at e2
  refine ⟨g, p, vs0, s, vs, by rw [ev, List.append_nil], hp, rr, hs, dats_ok r2, pre, S2.hasTabs tk.1, fun d s2 v H' vs' hd hs2 fr tt hp' rr' rv => ?_⟩
  have kp : Keep H2 H' := fun b o h im => fr b o (noT_of h fun ps z => by subst z; exact im) (.inl im)
  exact h1 d s2 hd hs2 v H' ((k1.trans k2).trans kp) ((o1.trans o2).trans (own_mut e2)) (S2.calledT hB (hl.trans hn) tk e2 fr tt hp' rr') rv
end
end N
/-! NW -/
set_option Elab.async false
set_option linter.all false
set_option maxRecDepth 100000
set_option maxHeartbeats 1000000
/-! NW: the law's script (a list of ints, wherever it stands), the law itself. -/
namespace N
open PySem PySem.Spec PyProof.Rows L2
section
variable {X : Cx} {B : Hp} {M : List Addr} {e a b c : Expr} {es : List Expr} {pos : Pos}
theorem sql_frm {K : PySem.W.Frag} {H H' : Hp} {a : Addr} {xs : List V} (fr : Frm M H H') (hM : a ∉ M) (h : SqL K H a xs) : SqL K H' a xs := by
  rcases h with (h | ⟨o, h⟩) | h
  · exact .inl (.inl (fr _ _ h (.inr hM)))
  · exact .inl (.inr ⟨o, fr _ _ h (.inl trivial)⟩)
  · exact .inr h
/-- over the list of ints at a -/
def iRaw (a : Addr) (ns : List Int) (r : RE) : RI := fun ρ P => r ρ fun w ρ1 => w = .d (.obj a) ∧ P ns.length (fun k d => ∃ i, ns[k]? = some i ∧ d = .int i) (fun _ => True) ρ1
theorem di_raw {tg : Expr} {a : Addr} {ns : List Int} {r : RE} (hs : SqL X.K B a (ns.map V.int)) (hM : a ∉ M) (h : DE X B M e r) : DI X B M tg e (iRaw a ns r) := by
  refine ⟨pi_imp (pi_seq h.pe) fun σ H R ⟨ρ, S, q⟩ => ?_, fun ρ P P' w p => h.mo ρ _ _ (fun w1 ρ1 ⟨e1, q1⟩ => ⟨e1, w _ _ _ _ q1⟩) p⟩
  refine into h S q fun w ρ1 v H1 ⟨e1, q1⟩ k1 o1 S1 r1 => ?_
  subst e1
  obtain rfl : v = V.ref a := r1
  refine ⟨a, rfl, .inl ⟨⟨_, sql_frm S1.frm hM hs⟩, q1 _ H1 k1 o1 S1 ⟨fun k ρ σ H kk S o lt => ?_, fun k ρ σ H x H' kk S o lt y => ?_, fun ρ σ H kk S o => ?_⟩⟩⟩
  · have hl : k < (ns.map V.int).length := by rw [List.length_map]; exact lt
    exact ⟨_, (ns.map V.int)[k], sql_frm S.frm hM hs, List.getElem?_eq_getElem hl⟩
  · obtain ⟨e2, y⟩ := y
    subst e2
    have h2 := y _ (sql_frm S.frm hM hs)
    rw [List.getElem?_map] at h2
    obtain ⟨i, hi, ex⟩ := Option.map_eq_some_iff.mp h2
    exact ⟨Same.refl _, _, ⟨i, hi, rfl⟩, ex.symm⟩
  · exact ⟨_, sql_frm S.frm hM hs, by rw [List.length_map]; exact Nat.le_refl _⟩
/-- a new list, given back -/
def rRetL (n : Nat) (r : RN) : RS := fun e ρ => r ρ fun ds ρ1 => n ≤ ρ1.length ∧ ∀ p, e.ro ds (ρ1 ++ [.own p ds])
theorem ds_retL (n : Nat) {r : RN} (h : DN X B M e r) (hn : X.N.length = n := by rfl) : DS X B M (.Return (some e) pos) (rRetL n r) :=
  ⟨ps_impL (ps_ret h.pe) fun D σ H hl ⟨ρ, en, S, q, ok⟩ => ⟨ρ, S, h.mo ρ _ _ (fun ds ρ1 ⟨h1, q1⟩ => by
    intro p H' k o S' nw
    exact ok.ro ρ1.length p ds _ σ H' k (S'.ghost nw (by omega)) (by rw [List.getElem?_append_right (Nat.le_refl _), Nat.sub_self]; rfl) (q1 p)) q⟩⟩
end
/-- a def of the script: it gives a new list of which st holds -/
def spRaw (K : PySem.W.Frag) (st : List D → Prop) : Sp := fun vs H Q _ => ∃ (a : Addr) (ns : List Int), vs = [.ref a] ∧ ns.length ≤ 1000 ∧ SqL K H a (ns.map V.int) ∧ ∀ s p vs' H', st s → Frm [] H H' → H p = none → H' p = some (.lst vs') → RepL K H' s vs' → Q (.ref p) H'
section
variable {P : Program} {w : World} {K : PySem.W.Frag} {mg : Str → Option Value} {base : Heap} {x qual x0 : Str} {params : Arguments} {body : List Stmt} {scope : Scope} {f : Addr} {fd : FuncData}
theorem fnRaw_ok {dvs : List V} {N : List Str} {k : Nat} {st : List D → Prop} (F : FunD K x qual params body scope dvs [] f fd) (Sc : FnScope N [x0] scope)
    (h : ∀ (cdv : Value) (A : Around) (outer : List Env) (s : Shared) (H : Hp) (E : XK) (a : Addr) (ns : List Int), Room k (A.deeper (envOfC qual scope s.heap.objs.size f cdv)) → ns.length ≤ 1000 → SqL K H a (ns.map V.int) →
      ∃ r, DSs (cxOf (L2N.CX P w) P w K mg base N qual scope f cdv A outer s H E) H [] body r ∧ r { nx := fun _ => False, rt := fun _ _ => False, ro := fun ds _ => st ds } (ini N.length [.obj a])) :
    FnOk P w K mg base (L2N.CX P w) (k + 1) f fd [x0] (spRaw K st) := by
  refine F.ok Sc (fun vs H Q E ⟨a, ns, e, _⟩ => by rw [e]; rfl) fun cdv A outer s H vs Q E hr ⟨a, ns, e, hl, hs, q⟩ => ?_
  subst e
  obtain ⟨rs, hd, hm⟩ := h cdv A outer s H E a ns hr hl hs
  refine ⟨_, hd.pss, ini N.length [.obj a], _, sta_ini ⟨.ref a, [], rfl, rfl, rfl⟩, hm, ⟨fun ρ σ H' _ S' hp => hp.elim, fun d ρ σ v H' _ S' rv hp => hp.elim, fun _ _ _ _ _ z => z, fun _ _ _ _ _ z => z, fun i p ds ρ σ H' _ S' e hp => ?_⟩⟩
  obtain ⟨vs', hv, rr⟩ := S'.own_at e
  rcases S'.new i p ds e with n | n
  · exact q ds p vs' H' hp S'.frm n hv rr
  · simp at n
/-- the law's promise: whatever the script, True -/
def spLaw (K : PySem.W.Frag) (Ts : List Addr) : Sp := fun vs H Q _ => ∃ (a : Addr) (ns : List Int), vs = [.ref a] ∧ ns.length ≤ 1000 ∧ SqL K H a (ns.map V.int) ∧ (∀ P ∈ Ts, H P = some (.tbl #[])) ∧ ∀ H', Q (.bl true) H'
/-- the slots behind the law's first statement -/
def iniL (n : Nat) (p : Addr) (s : List D) (T : Tbs) : En := .un :: .own p s :: (List.replicate (n - 2) .un ++ tabL T)
theorem iniL_at {n : Nat} {p : Addr} {s : List D} {T : Tbs} {i : Nat} {t : Slot} (hn : 2 ≤ n) (e : (iniL n p s T)[i]? = some t) : t = .un ∨ (i = 1 ∧ t = .own p s) ∨ (n ≤ i ∧ ∃ P q, t = .tab P q ∧ (P, q) ∈ T) := by
  unfold iniL at e
  match i, e with
  | 0, e => exact .inl (by simpa using e.symm)
  | 1, e => exact .inr (.inl ⟨rfl, by simpa using e.symm⟩)
  | i + 2, e =>
    rw [List.getElem?_cons_succ, List.getElem?_cons_succ] at e
    by_cases hi : i < n - 2
    · rw [List.getElem?_append_left (by rw [List.length_replicate]; exact hi)] at e
      exact .inl (List.mem_replicate.mp (List.mem_of_getElem? e)).2
    · rw [List.getElem?_append_right (by rw [List.length_replicate]; omega)] at e
      unfold tabL at e
      rw [List.getElem?_map] at e
      obtain ⟨u, hu, e⟩ := Option.map_eq_some_iff.mp e
      exact .inr (.inr ⟨by omega, u.1, u.2, e.symm, List.mem_of_getElem? hu⟩)
theorem sta_iniL {H : Hp} {σ : L2.St} {n : Nat} {p : Addr} {s : List D} {vs : List V} {T : Tbs} (hn : 2 ≤ n) (hl : σ.length ≤ n) (hp : H p = some (.lst vs)) (r : RepL K H s vs) (ht : LamX.Tabs T H) : Sta K noH [] (iniL n p s T) (σ.set 1 (some (.ref p))) H := by
  have fr : Frm [] noH H := fun b o e _ => nomatch (show (none : Option HO) = some o from e)
  refine ⟨fr, fun i t e => ?_, fun i j p' q' ds es ei ej hij => ?_, fun i p' ds e => .inl rfl, fun p hp => absurd hp (by simp), fun i P q e => ?_⟩
  · rcases iniL_at hn e with rfl | ⟨rfl, rfl⟩ | ⟨_, P, q, rfl, h⟩
    · exact trivial
    · refine ⟨?_, vs, hp, r⟩
      by_cases h : 1 < σ.length
      · exact .inr (List.getElem?_set_self h)
      · exact .inl (List.getElem?_eq_none_iff.mpr (by rw [List.length_set]; omega))
    · exact ht _ h
  · rcases iniL_at hn ei with h | ⟨rfl, _⟩ | ⟨_, P, q, h, _⟩
    · cases h
    · rcases iniL_at hn ej with h | ⟨rfl, _⟩ | ⟨_, P, q, h, _⟩
      · cases h
      · exact absurd rfl hij
      · cases h
    · cases h
  · rw [List.length_set]
    rcases iniL_at hn e with h | ⟨_, h⟩ | ⟨h, _⟩
    · cases h
    · cases h
    · exact Nat.le_trans hl h
/-- THE LAW: its first statement takes the script, the rest is read over data -/
theorem law_ok {N : List Str} {k j : Nat} {st : List D → Prop} {y sn xs : Str} {rest : List Stmt} {p1 p2 p3 p4 p5 : Pos} {dvs : List V} {T : Tbs}
    (F : FunD K x qual params (.Assign [.Name y p1] (.Call (.Name sn p2) [.Name xs p3] [] p4) p5 :: rest) scope dvs [] (He.fAd K (x, none)) fd) (Sc : FnScope N [xs] scope)
    (hst : Has P w K mg base sn j [x0] (spRaw K st)) (hjk : j ≤ k) (hn : 2 ≤ N.length) (hN0 : N[0]? = some xs) (hN1 : N[1]? = some y) (hl0 : scope.names.lookup xs = some .local ∨ scope.names.lookup xs = some .cell) (hl1 : Loc scope y) (hg : scope.names.lookup sn = some .globalImplicit)
    (hsw : ∀ env : Env, env.scope = scope → swapsWith (.Call (.Name sn p2) [.Name xs p3] [] p4) (some (.Name y p1)) p5.line env = pure false) (hdx : (xs == ("__debug__" : Str)) = false) (hcx : (xs == ("__classdict__" : Str)) = false) (hds : (sn == ("__debug__" : Str)) = false)
    (h : ∀ (A : Around) (outer : List Env) (s : Shared) (H : Hp) (E : XK), Room k (A.deeper (envOfC qual scope s.heap.objs.size (He.fAd K (x, none)) (.ref (He.cT K (x, none)).1))) →
      ∃ r, DSs (cxOf (L2N.CX P w) P w K mg base N qual scope (He.fAd K (x, none)) (.ref (He.cT K (x, none)).1) A outer s H E) noH [] rest r ∧ ∀ p ss, st ss → r { nx := fun _ => False, rt := fun d _ => d = .bl true } (iniL N.length p ss T)) :
    FnOk P w K mg base (L2N.CX P w) (k + 1) (He.fAd K (x, none)) fd [xs] (spLaw K (T.map (·.1))) := by
  refine FunD.okc F Sc (fun vs H Q E ⟨a, ns, e, _⟩ => by rw [e]; rfl) fun A outer s H vs Q E hr ⟨a, ns, e, hl, hs, hT, q⟩ => ?_
  subst e
  obtain ⟨rs, hd, hm⟩ := h A outer s H E hr
  obtain ⟨fs, fds, gm, kp, hb, Fs⟩ := hst
  have hv0 : Vis scope xs := by
    rcases hl0 with z | z
    · exact .inl z
    · exact .inr (.inl z)
  refine ⟨_, pss_cons (ps_set (i := 1) Sc.nd hN1 hl1 (pe_call Fs (hr.mono hjk) hg gm kp hb .nil passN (pa_cons (pe_var (i := 0) hN0 hv0 hdx hcx) pa_nil rfl) hds rfl rfl) (hsw _ rfl) (.inl rfl)) hd.pss, ?_⟩
  refine ⟨.ref a, ?_, a, ns, rfl, hl, hs, fun ss p vs' H' hss fr hn' hp rr => ?_⟩
  · rfl
  refine ⟨iniL N.length p ss T, _, sta_iniL hn (by rw [start_len (by show 1 ≤ _; omega)]; exact Nat.le_refl _) hp rr (fun t ht => LamX.TabS.nil (fr _ _ (hT t.1 (List.mem_map.mpr ⟨t, ht, rfl⟩)) (.inr (by simp)))), hm p ss hss, ⟨fun ρ σ H2 _ S z => z.elim, fun d ρ σ v H2 _ S rv z => ?_, fun _ _ _ _ _ z => z, fun _ _ _ _ _ z => z, fun _ _ _ _ _ _ _ _ _ z => z.elim⟩⟩
  subst z
  obtain rfl : v = V.bl true := rv
  exact q H2
end
end N
/-! NE -/
set_option Elab.async false
set_option linter.all false
set_option maxRecDepth 100000
set_option maxHeartbeats 2000000
/-! NE: enumerate of lists and tuples. -/
namespace N
open PySem PySem.Spec PyProof.Rows L2
def SqB (K : PySem.W.Frag) (t : Bool) (H : Hp) (a : Addr) (xs : List V) : Prop := match t with
  | true => SqT K H a xs
  | false => SqL K H a xs
def HeapSeq (t : Bool) (h : Heap) (a : Addr) (its : Array Value) : Prop := match t with
  | true => h.IsTuple a its
  | false => h.IsList a its
def IterB (t : Bool) (h : Heap) (it a : Addr) (i : Nat) : Prop := match t with
  | true => h.IsTupleIter it a i
  | false => h.IsListIter it a i
theorem IterB.at_ {t : Bool} {h h' : Heap} {it a : Addr} {i : Nat} (s : IterB t h it a i) (k : ∀ o, h.get? it = some o → h'.get? it = some o) : IterB t h' it a i := by
  cases t with
  | true => exact Heap.IsTupleIter.at s k
  | false => exact Heap.IsListIter.at s k
theorem IterB.obj {t : Bool} {h : Heap} {it a : Addr} {i : Nat} (s : IterB t h it a i) : ∃ o, h.get? it = some o ∧ ∃ vs, o.data = .fields vs := by
  cases t with
  | true =>
    obtain ⟨o, ho, hc, hd⟩ := (s : h.IsTupleIter it a i)
    exact ⟨o, ho, _, hd⟩
  | false =>
    obtain ⟨o, ho, hc, hd⟩ := (s : h.IsListIter it a i)
    exact ⟨o, ho, _, hd⟩
theorem seqB {X : Cx} {pins : List (Addr × Obj)} {σ : L2.St} {H : Hp} {s : Shared} {t : Bool} {a : Addr} {xs : List V} (I : Inv X pins σ H s) (h : SqB X.K t H a xs) : ∃ its : List Value, Vals xs its ∧ HeapSeq t s.heap a its.toArray := by
  cases t with
  | true =>
    obtain ⟨its, r, p, _⟩ := I.tuple h
    exact ⟨its, r, p⟩
  | false =>
    obtain ⟨its, r, p, _⟩ := I.list h
    exact ⟨its, r, p.isList⟩
theorem seqB_inj {X : Cx} {pins : List (Addr × Obj)} {σ : L2.St} {H : Hp} {s : Shared} {t : Bool} {a : Addr} {xs ys : List V} (I : Inv X pins σ H s) (h : SqB X.K t H a xs) (h' : SqB X.K t H a ys) : xs = ys := by
  cases t with
  | true => exact I.tuple_inj h h'
  | false => exact I.list_inj h h'
theorem drawsB {prog : Program} {w : World} {A : Around} (hh : A.handled = none) (t : Bool) (it l : Addr) (hne : l ≠ it) (items : Array Value) :
    Draws prog w A it [it, l] items.size (fun i v => items[i]? = some v) (fun i h => IterB t h it l i ∧ HeapSeq t h l items) := by
  cases t with
  | true => exact Draws.tuple hh it l hne items
  | false => exact Draws.list hh it l hne items
def IteN (K : PySem.W.Frag) (t : Bool) (a : Addr) : It :=
  ⟨fun i H => ∃ (xs : List V) (x : V), SqB K t H a xs ∧ xs[i]? = some x,
   fun i H v H' => ∃ (T : Addr) (o : Obj) (x : V), v = .ref T ∧ o.dict = none ∧ H T = none ∧ H' = upd H T (.frz o (.tup [.int (i : Nat), x])) ∧ ∀ xs, SqB K t H a xs → xs[i]? = some x,
   fun i H => ∃ xs : List V, SqB K t H a xs ∧ xs.length = i⟩
theorem turn_enumN {P : Program} {w : World} {K : PySem.W.Frag} {elts : List Expr} {kk : Nat} {tpos : Pos} (t : Bool) (a e it : Addr) :
    Turn P w K (.Tuple elts kk tpos) (IteN K t a) [e, it] e (fun i h => (∃ old, IsEnum h e it ((i : Nat) : Int) old) ∧ IterB t h it a i ∧ e ≠ it ∧ a ≠ it ∧ e ≠ a) where
  mem := by simp
  obj := fun i h st b hb => by
    obtain ⟨⟨old, he⟩, hi, _⟩ := st
    have e' : b = e ∨ b = it := by simpa using hb
    rcases e' with z | z
    · rw [z]; exact ⟨_, he, fun v q => nomatch q⟩
    · obtain ⟨o, ho, vs, hv⟩ := hi.obj
      rw [z]; exact ⟨o, ho, fun v q => by rw [hv] at q; cases q⟩
  keep := fun i h h' st k => let ⟨⟨old, he⟩, hi, hne⟩ := st; ⟨⟨old, k e (by simp) _ he⟩, hi.at_ fun o q => k it (by simp) o q, hne⟩
  item := by
    intro X hP hw hK hc i pins s σ H E I hf st hg
    subst hP hw hK
    obtain ⟨⟨old, he⟩, hit, hne, hai, hea⟩ := st
    obtain ⟨xs, x, hq, hx⟩ := hg
    obtain ⟨its, rv, p⟩ := seqB I hq
    obtain ⟨u, hu, ru⟩ := rv.get hx
    have hel : e < s.heap.objs.size := Heap.lt_size he
    have hil : it < s.heap.objs.size := by obtain ⟨_, q, _⟩ := hit.obj; exact Heap.lt_size q
    have hlt : i < its.toArray.size := by
      have := (List.getElem?_eq_some_iff.mp hu).1
      simpa using this
    refine wpAny_pyNext_enum_itemD (drawsB (show X.A.in1.handled = none from I.ok.hd hc) t it a hai its.toArray) he ⟨hit, p⟩ hlt hne (by simp [hne, hea]) fun x' h' tk hx' ho hst' hT hsz hk => ?_
    have ex : x' = u := by
      have : its.toArray[i]? = some x' := hx'
      rw [List.getElem?_toArray, hu] at this
      exact (Option.some.inj this).symm
    subst ex
    refine ⟨_, rfl, wpAny_letOwnedTupleGo_enum (s := { s with heap := h', toks := tk + 1 }) ho fun h'' he' sb => ?_⟩
    have hT2 : h''.get? s.heap.objs.size = some { cls := .type "tuple", data := .seq #[.int i tk, x'] } := (sb.2 _ (Nat.ne_of_gt hel)).trans hT
    have new : ObjOk X.prog X.w (upd H s.heap.objs.size (.frz { cls := .type "tuple", data := .seq #[.int i tk, x'] } (.tup [.int (i : Nat), x]))) h'' s.heap.objs.size (.frz { cls := .type "tuple", data := .seq #[.int i tk, x'] } (.tup [.int (i : Nat), x])) :=
      ⟨hT2, ⟨by show 2 ≤ sizeLine; decide, [.int i tk, x'], .cons ⟨_, rfl⟩ (.cons ru .nil), ⟨_, hT2, rfl, _, rfl⟩⟩⟩
    have I1 : Inv X pins σ (upd H s.heap.objs.size (.frz { cls := .type "tuple", data := .seq #[.int i tk, x'] } (.tup [.int (i : Nat), x]))) { s with heap := h'', toks := tk + 1 } :=
      I.turnedNew (ch := [e, it]) (fun b ob hb q => (sb.2 b (fun z => hb (by simp [z]))).trans (hk b ob (fun z => hb (by simp [z])) (fun z => hb (by simp [z])) q)) hf (Nat.le_refl _) new
    refine ⟨.ref s.heap.objs.size, _, I1, rfl, ⟨_, _, x, rfl, rfl, I.hok.fresh (Nat.le_refl _), rfl, fun ys hy => by rw [seqB_inj I hy hq]; exact hx⟩, ⟨⟨x', ?_⟩, hst'.1.at_ fun o q => (sb.2 it (Ne.symm hne)).trans q, hne, hai, hea⟩, fun b hb => ?_⟩
    · have e1 : ((i + 1 : Nat) : Int) = (i : Int) + 1 := by omega
      rw [e1]; exact he'
    · have hb' : b < s.heap.objs.size := by
        have e' : b = e ∨ b = it := by simpa using hb
        rcases e' with z | z
        · rw [z]; exact hel
        · rw [z]; exact hil
      rw [upd_ne (Nat.ne_of_lt hb')]
      exact (hf b hb).1
  done := by
    intro X hP hw hK hc i pins s σ H E I hf st hg
    subst hP hw hK
    obtain ⟨⟨old, he⟩, hit, hne, hai, hea⟩ := st
    obtain ⟨xs, hq, hx⟩ := hg
    obtain ⟨its, rv, p⟩ := seqB I hq
    obtain ⟨f0, f1, f2, f3, f4, f5⟩ := hf it (by simp)
    have hl := rv.length
    have hsz : its.toArray.size = i := by simp; omega
    exact wpAny_pyNext_enum_endD (drawsB (show X.A.in1.handled = none from I.ok.hd hc) t it a hai its.toArray) he (by rw [hsz]; exact ⟨hit, p⟩) fun h' eb => ⟨rfl, I.turned (t' := s.toks) (fun b o hb q => eb b o hb q) f0 f1 f3 f4 f5⟩
  self := fun A i s Q E st h => let ⟨⟨_, he⟩, _⟩ := st; wpAny_pyIter_enum he h
theorem F.enum1 (v : Value) : checkTypeCall "enumerate" ⟨[v], []⟩ = pure () := F.typeCall_enumerate_1 v
set_option maxHeartbeats 4000000 in
theorem meets_enumerate_newB1 {v : Value} {o : Obj} {H : Heap → Prop} (B : Begins v o H) :
    Meets (Builtin.«enumerate.__new__» ⟨[.type "enumerate", v], []⟩) (fun _ R s => H s.heap ∧
      R (.ok (.ret (.ref (s.heap.push o).objs.size))) { s with heap := (s.heap.push o).push { cls := .type "enumerate", data := .fields #[.none, .bool false, .ref s.heap.objs.size, rawInt 0, .none, .none] } }) :=
  .of_wp fun prog w A R s h => by
    obtain ⟨hp, g, d, tk, os⟩ := s; obtain ⟨h1, h⟩ := h
    have hsub := sub_enumerate
    have q1 : ∀ {A' : Around} {E : Value → Shared → Prop} {Q : Value → Shared → Prop}, Q (.ref hp.objs.size) ⟨hp.push o, g, d, tk, os⟩ → wpAny (model prog w) A' (pyIter v) Q E ⟨hp, g, d, tk, os⟩ :=
      fun q => B.iter prog w _ _ ⟨hp, g, d, tk, os⟩ _ h1 q
    wp_walk using q1
    refine wpAny_stack_any fun st => wpAny_pure ?_
    split
    · rename_i c _ _ _ _ _
      cases (c == Value.type "enumerate")
      · wp_walk using q1
        exact ⟨_, rfl, h⟩
      · wp_walk using q1
        exact ⟨_, rfl, h⟩
    · wp_walk using q1
      exact ⟨_, rfl, h⟩
theorem call_enumB {prog : Program} {w : World} {A : Around} {E : Value → Shared → Prop} {s : Shared} {v : Value} {o : Obj} {H : Heap → Prop} {Q : Value → Shared → Prop} (B : Begins v o H) (h1 : H s.heap)
    (h : ∀ h', IsEnum h' (s.heap.objs.size + 1) s.heap.objs.size 0 .none → h'.get? s.heap.objs.size = some o → h'.objs.size = s.heap.objs.size + 2 →
      (∀ b o, s.heap.get? b = some o → h'.get? b = some o) → Q (.ref (s.heap.objs.size + 1)) { s with heap := h' }) :
    wpAny (model prog w) A (call (.type "enumerate") [v]) Q E s := by
  refine callType_new F.called_enumerate (by decide) (F.typeCall_enumerate_1 _) (F.newCall_enumerate_1 _) (fun obj => F.args_object_init_2 obj _) F.entry_enumerate_new
    (meets_enumerate_newB1 B) ⟨h1, ?_⟩
  have hz : (s.heap.push o).objs.size = s.heap.objs.size + 1 := Heap.size_push ..
  show _ ∧ _
  rw [hz]
  have he : IsEnum ((s.heap.push o).push { cls := .type "enumerate", data := .fields #[.none, .bool false, .ref s.heap.objs.size, rawInt 0, .none, .none] }) (s.heap.objs.size + 1) s.heap.objs.size 0 .none := by
    have := Heap.get?_push_size (s.heap.push o) (o := { cls := .type "enumerate", data := .fields #[.none, .bool false, .ref s.heap.objs.size, rawInt 0, .none, .none] }) rfl
    rw [hz] at this; exact this
  refine ⟨⟨_, he, rfl⟩, h _ he (Heap.get?_push_of_some _ (Heap.get?_push_size _ B.free)) (by rw [Heap.size_push, hz]) fun b o x => Heap.get?_push_of_some _ (Heap.get?_push_of_some _ x)⟩
def iEnumN (K : PySem.W.Frag) (ta : TA) : TI := fun σ H R => ta σ H fun vs H1 => ∃ t a xs, vs = [.ref a] ∧ SqB K t H1 a xs ∧ R (IteN K t a) H1
theorem pi_enumN {X : Cx} {e : Expr} {ta : TA} {p pos tpos : Pos} {elts : List Expr} {kk : Nat} (hg : Gl X "enumerate") (hm : X.mg "enumerate" = none) (ha : PA X [e] ta) (hs : starEach [e] X.env = [(false, eval e X.env)] := by rfl) :
    PI X (.Tuple elts kk tpos) (.Call (.Name "enumerate" p) [e] [] pos) (iEnumN X.K ta) := by
  refine ⟨fun pins s σ H R I h => ?_⟩
  refine Call_ (ld_blt I hg hm boot_enumerate (PyProof.Rows.callWith_type1 (thn (ha.run pos pins s σ H _ I h) fun us s1 ⟨vs, H1, I1, r1, q1⟩ => ?_) hs rfl))
  obtain ⟨t, a, xs, ex, hq, q⟩ := q1
  subst ex
  cases r1 with
  | cons r rr =>
    cases rr
    cases r
    obtain ⟨its, rv, p'⟩ := seqB I1 hq
    have fin : ∀ h', IsEnum h' (s1.heap.objs.size + 1) s1.heap.objs.size 0 .none → IterB t h' s1.heap.objs.size a 0 → (∀ b o, s1.heap.get? b = some o → h'.get? b = some o) → a < s1.heap.objs.size →
        wpAny (model X.prog X.w) X.A (pyIter (.ref (s1.heap.objs.size + 1))) (PIE X pins σ (.Tuple elts kk tpos) R) X.xe { s1 with heap := h' } := fun h' he hit hk hlt => wpAny_pyIter_enum he (by
      have I2 : Inv X pins σ H1 { s1 with heap := h' } := I1.kept (t' := s1.toks) hk
      refine ⟨s1.heap.objs.size + 1, [s1.heap.objs.size + 1, s1.heap.objs.size], _, _, H1, rfl, I2, turn_enumN t a (s1.heap.objs.size + 1) s1.heap.objs.size, ⟨⟨.none, he⟩, hit, Nat.succ_ne_self _, Nat.ne_of_lt hlt, Nat.ne_of_gt (Nat.lt_succ_of_lt hlt)⟩, fun b hb => ?_, q⟩
      have e' : b = s1.heap.objs.size + 1 ∨ b = s1.heap.objs.size := by simpa using hb
      have hle : s1.heap.objs.size ≤ b := by
        rcases e' with z | z
        · rw [z]; exact Nat.le_add_right _ _
        · rw [z]; exact Nat.le_refl _
      exact I1.fpOk hle (I1.hok.fresh hle))
    cases t with
    | true =>
      obtain ⟨o, ho, _⟩ := id (show s1.heap.IsTuple a its.toArray from p')
      exact call_enumB (begins_tuple a its.toArray) p' fun h' he hit hsz hk => fin h' he ⟨_, hit, rfl, rfl⟩ hk (Heap.lt_size ho)
    | false =>
      obtain ⟨o, ho, _⟩ := id (show s1.heap.IsList a its.toArray from p')
      exact call_enumB (begins_list a its.toArray) p' fun h' he hit hsz hk => fin h' he ⟨_, hit, rfl, rfl⟩ hk (Heap.lt_size ho)
theorem walk_enumN {K : PySem.W.Frag} {t : Bool} {a : Addr} {xs : List V} : Walk (IteN K t a) xs.length (fun H => SqB K t H a xs)
    (fun i H v H' => ∃ (T : Addr) (o : Obj) (x : V), v = .ref T ∧ H T = none ∧ H' = upd H T (.frz o (.tup [.int (i : Nat), x])) ∧ xs[i]? = some x) :=
  ⟨fun i H hi h => ⟨xs, xs[i], h, List.getElem?_eq_getElem hi⟩, fun H h => ⟨xs, h, rfl⟩, fun i H x H' hi h ⟨T, o, y, e, _, n, e2, hx⟩ => ⟨T, o, y, e, n, e2, hx xs h⟩⟩
section
variable {X : Cx} {B : Hp} {M : List Addr} {e a b c : Expr} {es : List Expr} {pos : Pos}
/-- the k-th pair of enumerate -/
def enIt (ds : List D) : Nat → D → Prop := fun k d => ∃ x, ds[k]? = some x ∧ d = .tup [.int (k : Nat), x]
def iEn (ra : RA) : RI := fun ρ P => ra ρ fun ws ρ1 => ∃ w, ws = [w] ∧ kSq (sq ρ1 w) fun ds => P ds.length (enIt ds) (okW ρ1 ds w) ρ1
theorem walks_en {K : PySem.W.Frag} {H1 : Hp} {a : Addr} {ds : List D} {ok : En → Prop} {t : Bool}
    (h : ∀ ρ σ H, Keep H1 H → Sta K B M ρ σ H → ok ρ → ∃ vs, SqV K H t a vs ∧ RepL K H ds vs) : Walks K B M H1 (IteN K t a) ds.length (enIt ds) ok := by
  have cv : ∀ {H vs}, SqV K H t a vs → SqB K t H a vs := fun {H vs} s => by
    cases t with
    | true => exact TpN.sq s
    | false => exact .inl s
  refine ⟨fun k ρ σ H kk S o lt => ?_, fun k ρ σ H x H' kk S o lt y => ?_, fun ρ σ H kk S o => ?_⟩
  · obtain ⟨vs, hs, rr⟩ := h ρ σ H kk S o
    have : k < vs.length := by rw [RepL.length rr]; exact lt
    exact ⟨vs, vs[k], cv hs, List.getElem?_eq_getElem this⟩
  · obtain ⟨vs, hs, rr⟩ := h ρ σ H kk S o
    obtain ⟨T, oo, x0, rfl, hd, nT, rfl, y⟩ := y
    have hdk : ds[k]? = some ds[k] := List.getElem?_eq_getElem lt
    obtain ⟨v, hv, rv⟩ := RepL.get rr hdk
    have hx := y vs (cv hs)
    rw [hv] at hx
    have hx : v = x0 := Option.some.inj hx
    subst hx
    have sm := same_upd (o := .frz oo (.tup [.int (k : Nat), v])) nT
    exact ⟨sm, _, ⟨_, hdk, rfl⟩, T, _, rfl, .inl ⟨oo, hd, upd_same⟩, .int (k : Nat), [v], rfl, rfl, v, [], rfl, Rep.keep (Keep.of sm) _ rv, rfl⟩
  · obtain ⟨vs, hs, rr⟩ := h ρ σ H kk S o
    exact ⟨vs, cv hs, RepL.length rr⟩
theorem okW_read {K : PySem.W.Frag} {H1 H2 : Hp} {a : Addr} {vs : List V} {w : W} {t : Bool} {ds : List D} {ρ1 ρ2 : En} {σ2 : L2.St} (r1 : WOk K H1 ρ1 w (.ref a)) (e1 : N.sq ρ1 w = some (t, ds)) (s : SqV K H1 t a vs) (rr : RepL K H1 ds vs) (kk : Keep H1 H2) (S2 : Sta K B M ρ2 σ2 H2) (ok2 : okW ρ1 ds w ρ2) : ∃ vs, SqV K H2 t a vs ∧ RepL K H2 ds vs := by
  cases w with
  | o i =>
    obtain ⟨p, e2, e3⟩ := ok2
    obtain ⟨p', fs, e4, ev⟩ := r1
    rw [e2] at e4
    cases e4
    cases ev
    have h2 : (match ρ1[i]? with
      | some (.own _ ds) => some (false, ds)
      | _ => none) = some (t, ds) := e1
    rw [e2] at h2
    cases h2
    obtain ⟨us, hu, ru⟩ := S2.own_at e3
    exact ⟨us, .inl hu, ru⟩
  | d x =>
    refine ⟨vs, ?_, RepL.keep kk ds rr⟩
    cases x with
    | tup es =>
      cases e1
      exact TpN.keep kk s
    | lst es =>
      cases e1
      obtain ⟨a', vs', ea, hz, _⟩ := r1
      cases ea
      obtain ⟨o, ho⟩ := hz
      have h1 : Rd H1 a (.lst vs) := s
      have ev : vs' = vs := by
        rcases h1 with h1 | ⟨o', h1⟩
        · rw [ho] at h1; cases h1
        · rw [ho] at h1; cases h1; rfl
      subst ev
      exact .inr ⟨o, kk _ _ ho trivial⟩
    | _ => cases e1
/-- over enumerate(xs) -/
theorem di_enum {p tpos : Pos} {elts : List Expr} {kk : Nat} {ra : RA} (hm : X.mg "enumerate" = none) (ha : DA X B M [a] ra) (hg : Gl X "enumerate" := by rfl) (hs : starEach [a] X.env = [(false, eval a X.env)] := by rfl) : DI X B M (.Tuple elts kk tpos) (.Call (.Name "enumerate" p) [a] [] pos) (iEn ra) := by
  refine ⟨pi_imp (pi_enumN hg hm ha.pa hs) fun σ H R ⟨ρ, S, q⟩ => ?_, fun ρ P P' w p => ha.mo ρ _ _ (fun ws ρ1 ⟨w1, e, q1⟩ => ⟨w1, e, q1.imp fun ds p1 => w _ _ _ _ p1⟩) p⟩
  refine intoA ha S q fun ws ρ1 xs H1 ⟨w1, e, hh⟩ k1 o1 S1 r1 => ?_
  subst e
  obtain ⟨t, ds, e1, q1⟩ := hh.el
  obtain ⟨v, vr, rfl, r1, rn⟩ := r1
  cases rn
  obtain ⟨a, vs, rfl, s, rr⟩ := sq_read S1 r1 e1
  refine ⟨t, a, vs, rfl, ?_, q1 _ _ k1 o1 S1 (walks_en fun ρ2 σ2 H2 kk S2 ok2 => okW_read r1 e1 s rr kk S2 ok2)⟩
  cases t with
  | true => exact TpN.sq s
  | false => exact .inl s
end
end N
/-! NY -/
set_option Elab.async false
set_option linter.all false
set_option maxRecDepth 100000
set_option maxHeartbeats 2000000
/-! NY: membership of data, dicts that are read, calls with keywords. -/
namespace N
open PySem PySem.Spec PyProof.Rows L2
section
variable {X : Cx} {B : Hp} {M : List Addr} {e a b c : Expr} {es : List Expr} {pos : Pos}
/-! ### x in xs, data of any depth, xs a list -/
def oInD (neg : Bool) : O2 := fun w1 w2 ρ P => ∃ p qs, pdW ρ w1 = some p ∧ pdW ρ w2 = some (.list qs) ∧ SeqAt.shaped p = true ∧ SeqAt.shaped (.list qs) = true ∧ P (.bl (if neg then !(qs.any fun z => PyData.eqv z p) else qs.any fun z => PyData.eqv z p))
theorem mo_oInD {neg : Bool} : MonoO (oInD neg) := fun x y ρ P P' h ⟨p, q, e1, e2, s1, s2, r⟩ => ⟨p, q, e1, e2, s1, s2, h _ r⟩
theorem tells_inD {K : PySem.W.Frag} : Tells2 K (rInD K) (oInD false) := fun B M ρ σ H w1 w2 x y Q P S r1 r2 ⟨p, q, e1, e2, s1, s2, h⟩ hq => ⟨p, q, dpW_of S r1 e1, dpW_of S r2 e2, s1, s2, hq _ _ H h (Same.refl _) rfl⟩
theorem tells_notinD {K : PySem.W.Frag} : Tells2 K (rNotInD K) (oInD true) := fun B M ρ σ H w1 w2 x y Q P S r1 r2 ⟨p, q, e1, e2, s1, s2, h⟩ hq => ⟨p, q, dpW_of S r1 e1, dpW_of S r2 e2, s1, s2, hq _ _ H h (Same.refl _) rfl⟩
theorem de_inD {k : Nat} (hr : Room k X.A) {ra rb : RE} (ha : DE X B M a ra) (hb : DE X B M b rb) (hm : behindInMarks .In b = false := by rfl) : DE X B M (.Compare a [.In] [b] pos) (r2 ra rb (oInD false)) := de_cmp (op_inD (by have := hr.un; omega)) tells_inD mo_oInD ha hb hm
theorem dt_inD {k : Nat} (hr : Room k X.A) {ra rb : RE} (ha : DE X B M a ra) (hb : DE X B M b rb) (hm : behindInMarks .In b = false := by rfl) : DT X B M (.Compare a [.In] [b] pos) (rTB (r2 ra rb (oInD false))) := dt_cmp (op_inD (by have := hr.un; omega)) tells_inD mo_oInD ha hb hm
theorem dt_notinD {k : Nat} (hr : Room k X.A) {ra rb : RE} (ha : DE X B M a ra) (hb : DE X B M b rb) (hm : behindInMarks .NotIn b = false := by rfl) : DT X B M (.Compare a [.NotIn] [b] pos) (rTB (r2 ra rb (oInD true))) := dt_cmp (op_notInD (by have := hr.un; omega)) tells_notinD mo_oInD ha hb hm
/-! ### d[k] of a dict that stays, ints to ints -/
def rDIx (ra rb : RE) : RE := fun ρ Q => ra ρ (kD fun x ρ1 => rb ρ1 (kInt fun k ρ2 => ∃ kvs v, x = .dic kvs ∧ valV kvs (.inl k : Key) = some (.int v) ∧ Q (.d (.int v)) ρ2))
theorem de_dix {k : Nat} (hr : Room k X.A) {ra rb : RE} (ha : DE X B M a ra) (hb : DE X B M b rb) (hs : NoSl b := by intro _ _; rfl) : DE X B M (.Subscript a b pos) (rDIx ra rb) := by
  refine DE.mk' (pe_dget (by have := hr.units; omega) ha.pe hb.pe hs) (fun ρ P P' w q => ha.mo ρ _ _ (fun w1 ρ1 q1 => by
    obtain ⟨x, rfl, q1⟩ := q1.el
    exact hb.mo ρ1 _ _ (fun w2 ρ2 q2 => by
      obtain ⟨k, rfl, kvs, v, e1, e2, q2⟩ := q2.el
      exact ⟨kvs, v, e1, e2, w _ _ q2⟩) q1) q) fun σ H Q ρ S q => ?_
  refine into ha S q fun w1 ρ1 v1 H1 h1 k1 o1 S1 r1 => ?_
  obtain ⟨x, rfl, h1⟩ := h1.el
  refine into hb S1 h1 fun w2 ρ2 v2 H2 h2 k2 o2 S2 r2 => ?_
  obtain ⟨k, rfl, kvs, v, rfl, ev, q2⟩ := h2.el
  obtain ⟨p, rfl, o, ho, hp⟩ := r1
  refine ⟨p, .int v, rfl, .inl ⟨kvs, .inl k, .inr ⟨o, k2 _ _ hp trivial⟩, r2, ev.symm⟩, q2 _ _ (k1.trans k2) (o1.trans o2) S2 rfl⟩
/-! ### f(e, .., k = v, ..) in the parameters' order -/
/-- the values of keywords -/
structure DK (X : Cx) (B : Hp) (M : List Addr) (ks : List Keyword) (r : RA) : Prop where
  pk : PK X ks (tDA X.K B M r)
  mo : MonoA r
  len : ∀ ρ P, r ρ P → r ρ fun ws ρ' => ws.length = ks.length ∧ P ws ρ'
theorem dk_nil : DK X B M [] rNil := ⟨⟨fun pos pins s σ H Q I ⟨ρ, S, q⟩ => pk_nil.run pos pins s σ H Q I (q [] H (Keep.refl _) (OwnEq.refl _) S rfl)⟩, fun ρ P P' h p => h _ _ p, fun ρ P p => ⟨rfl, p⟩⟩
theorem dk_cons {ks : List Keyword} {nm : Option Str} {kpos : Pos} {ra : RE} {rr : RA} (ha : DE X B M a ra) (hr : DK X B M ks rr) : DK X B M (⟨nm, a, kpos⟩ :: ks) (rCons ra rr) := by
  refine ⟨⟨fun pos pins s σ H Q I ⟨ρ, S, q⟩ => (pk_cons ha.pe hr.pk).run pos pins s σ H Q I ?_⟩, fun ρ P P' h p => ha.mo ρ _ _ (fun w1 ρ1 q => hr.mo ρ1 _ _ (fun ws ρ2 q2 => h _ _ q2) q) p,
    fun ρ P p => ha.mo ρ _ _ (fun w1 ρ1 q => hr.mo ρ1 _ _ (fun ws ρ2 ⟨l, q2⟩ => ⟨congrArg Nat.succ l, q2⟩) (hr.len ρ1 _ q)) p⟩
  refine into ha S q fun w1 ρ1 v H1 p1 k1 o1 S1 r1 => ?_
  refine ⟨ρ1, S1, hr.mo ρ1 _ _ (fun ws ρ2 p2 vs H2 k2 o2 S2 r2 => ?_) p1⟩
  exact p2 (v :: vs) H2 (k1.trans k2) (o1.trans o2) S2 ⟨v, vs, rfl, WOk.keep k2 o2 r1, r2⟩
/-- the def of that name, called with n positional values and keywords ks, in the parameters' order -/
def HasK (P : Program) (w : World) (K : PySem.W.Frag) (mg : Str → Option Value) (base : Heap) (x : Str) (k n : Nat) (ps ks : List Str) (sp : Sp) : Prop :=
  ∃ f fd, mg x = some (.ref f) ∧ PySem.W.keepIn K (.ref f) = true ∧ KBn K fd ps n ks (fun us ws => us ++ ws) (fun us ws => us ++ ws) ∧ FnOk P w K mg base (L2N.CX P w) k f fd ps sp
def rCallK (S : FS) (n m : Nat) (ra rk : RA) (Xp : Exn → Prop) : RE := fun ρ Q => ra ρ fun ws ρ1 => rk ρ1 fun zs ρ2 => ws.length = n ∧ zs.length = m ∧ ∃ g, ws ++ zs = dats (S.args g) ∧ S.pre g ∧ (∀ d, S.post g d → Q (.d d) ρ2) ∧ ∀ x, S.exc g x → Xp x
theorem WOks.length : ∀ {K : PySem.W.Frag} {H : Hp} {ρ : En} {ws : List W} {vs : List V}, WOks K H ρ ws vs → vs.length = ws.length
  | _, _, _, [], _, h => by rw [show _ = [] from h]; rfl
  | _, _, _, w :: ws, _, h => by
    obtain ⟨v, vr, rfl, _, rr⟩ := h
    rw [List.length_cons, List.length_cons, WOks.length rr]
theorem de_callKX {x : Str} {k n : Nat} {ps ks : List Str} {kws : List Keyword} {S : FS} {ra rk : RA} {p : Pos} {E : XK} {Xp : Exn → Prop} (G : HasK X.prog X.w X.K X.mg X.base x k n ps ks (spF X.K S)) (hr : Room k X.A) (hx : Passes (L2N.CX X.prog X.w) X E)
    (hE : ∀ x cls dx H', Xp x → Frm M B H' → XRep X.K H' x cls dx → E cls dx H') (ha : DA X B M (a :: es) ra) (hk : DK X B M kws rk) (hall : (backToKw pos (keywordEach kws X.env)).all (·.1.isSome) = true := by rfl) (hks : (backToKw pos (keywordEach kws X.env)).filterMap (·.1) = ks := by rfl) (hg : Gl X x := by rfl) (hdb : (x == ("__debug__" : Str)) = false := by decide)
    (he : starEach (a :: es) X.env = (false, eval a X.env) :: starEach es X.env := by rfl) (hpl : ((backTo pos (starEach (a :: es) X.env)).any (·.1) || (backToKw pos (keywordEach kws X.env)).any (·.1.isNone)) = false := by rfl) :
    DE X B M (.Call (.Name x p) (a :: es) kws pos) (rCallK S n ks.length ra rk Xp) := by
  obtain ⟨f, fd, hm, hkp, hb, F⟩ := G
  refine DE.mk' (pe_callN F hr hg hm hkp hb hx ha.pa hk.pk hall hks hdb he hpl) (fun ρ P P' w q => ha.mo ρ _ _ (fun ws ρ1 q1 => hk.mo ρ1 _ _ (fun zs ρ2 ⟨l1, l2, g, e, pre, h1, h2⟩ => ⟨l1, l2, g, e, pre, fun d hd => w _ _ (h1 d hd), h2⟩) q1) q) fun σ H Q ρ Sx q => ?_
  refine intoA ha Sx q fun ws ρ1 vs H1 q1 k1 o1 S1 r1 => ?_
  refine ⟨ρ1, S1, hk.mo ρ1 _ _ (fun zs ρ2 ⟨l1, l2, g, e1, pre, h1, h2⟩ us H2 k2 o2 S2 r2 => ?_) q1⟩
  have r12 := woks_app (WOks.keep k2 o2 r1) r2
  rw [e1] at r12
  refine ⟨(WOks.length r1).trans l1, (WOks.length r2).trans l2, g, dats_ok r12, pre, fun d v H' hd fr rv => ?_, fun x cls dx H' hx fr rx => ?_⟩
  · exact h1 d hd v H' ((k1.trans k2).trans fr.keep) (o1.trans o2) (S2.same fr.same) rv
  · exact hE x cls dx H' (h2 x hx) (S2.frm.trans (Frm.of fr.same)) rx
end
section
variable {P : Program} {w : World} {K : PySem.W.Frag} {mg : Str → Option Value} {base : Heap} {x qual : Str} {params : Arguments} {body : List Stmt} {scope : Scope} {f : Addr} {fd : FuncData}
theorem vals_app : ∀ {vs zs : List V} {us ws : List Value}, Vals vs us → Vals zs ws → Vals (vs ++ zs) (us ++ ws)
  | _, _, _, _, .nil, h => h
  | _, _, _, _, .cons r rr, h => .cons r (vals_app rr h)
theorem hasK_of {ps ks : List Str} {k n : Nat} {sp : Sp} (F : FunD K x qual params body scope [] [] f fd) (gm : mg x = some (.ref f)) (ok : FnOk P w K mg base (L2N.CX P w) k f fd ps sp)
    (h : ∀ (kV doc pm : Value) (an : Option Addr) (cdv ct : Value) (us ws : List Value), us.length = n → ws.length = ks.length → bindArgs (PySem.W.fnOf x qual params body scope .none kV doc pm an cdv ct) ⟨us, ks.zip ws⟩ = pure (ps.zip (us ++ ws))) : HasK P w K mg base x k n ps ks sp := by
  refine ⟨f, fd, gm, F.kp, ⟨fun s us ws _ l1 l2 => ?_, fun r1 r2 => vals_app r1 r2⟩, ok⟩
  obtain ⟨oc, od, dV, kV, doc, pm, an, cdv, ct, osl, rfl, lk, hcd, hD, hK⟩ := F.ex
  rcases hD with ⟨_, rfl⟩ | ⟨e, _⟩
  · exact .of_eq (h kV doc pm an cdv ct us ws l1 l2)
  · exact absurd rfl e
end
end N
/-! NU -/
set_option Elab.async false
set_option linter.all false
set_option maxRecDepth 100000
set_option maxHeartbeats 2000000
/-! NU: tuples again and again; two names from a tuple or a list. -/
namespace N
open PySem PySem.Spec PyProof.Rows L2
theorem tuple_mul1 (l : Addr) (items : Array Value) (n : Nat) (dd : Option Addr) (sl : Array (Option Value)) (u : Tok) :
    Meets (Builtin.«tuple.__mul__» ⟨[.ref l, .int 1 u], []⟩) (fun _ R s => s.heap.get? l = some { cls := .type "tuple", dict := dd, data := .seq items n, slots := sl } ∧ R (.ok (.ret (Value.ref l))) s) :=
  .of_wp fun prog w A R s h => by
    obtain ⟨hp, g, d, tk, os⟩ := s
    obtain ⟨hl, h⟩ := h
    have f1 := AutoSeq1.idx_int
    have c0 : (decide ((1 : Int) < -(2 ^ 63)) || decide ((1 : Int) ≥ 2 ^ 63)) = false := by decide
    have c1 : (items.isEmpty || (1 : Int) == 1) = true := by simp
    wp_walk using wpAny_loadPart' hl
    repeat (first
      | (refine wpAny_ite_false (decide_eq_false (by rw [c0]; exact Bool.false_ne_true)) ?_; wp_walk using wpAny_loadPart' hl)
      | (refine wpAny_ite_true (decide_eq_true c1) ?_; wp_walk using wpAny_loadPart' hl))
    exact ⟨_, rfl, h⟩
def rRepTN (K : PySem.W.Frag) : R2 := fun x y H Q => ∃ l k xs, x = .ref l ∧ y = .int k ∧ SqT K H l xs ∧ xs ≠ [] ∧ 1 ≤ k ∧ k < 2 ^ 62 ∧ xs.length * k.toNat ≤ 1000000 ∧ (k = 1 → Q (.ref l) H) ∧ (k ≠ 1 → NewT Q H (List.replicate k.toNat xs).flatten)
theorem op_repTN {X : Cx} : OpR X (binaryOp .Mult) (rRepTN X.K) := by
  intro pins s σ H x y v u Q I rx ry h
  obtain ⟨l, k, xs, rfl, rfl, hT, hne, h1, h2, hz, q1, q⟩ := h
  cases rx
  obtain ⟨t, rfl⟩ := ry
  obtain ⟨its, r, ⟨⟨cls, dd, data, sl⟩, ho, hc, n, hd⟩, hs⟩ := I.tuple hT
  simp only at hc hd
  subst hc hd
  by_cases hk1 : k = 1
  · subst hk1
    refine wpAny_binaryOp_repeat_ref (T := "tuple") (U := "int") (by decide) ⟨_, ho, rfl⟩ (fun s' => typeIs_int s' 1 t) noFill_tuple_mul F.fills_int_mul F.slot_int_rmul repeat_tuple F.slot_int_index.lookup
      (call_meets F.slot_int_rmul (typeIs_int s 1 t) F.entry_int_rmul (F.args_int_rmul_2 _ _) (int_rmul_tuple 1 t l its.toArray n dd sl)
        ⟨ho, rfl, ⟨_, ho, rfl⟩, call_meets F.slot_tuple_mul ⟨_, ho, rfl⟩ F.entry_tuple_mul (F.args_tuple_mul_2 _ _) (tuple_mul1 l its.toArray n dd sl t) ⟨ho, ?_⟩⟩)
    exact ⟨.ref l, H, I, rfl, q1 rfl⟩
  have hle : its.length = xs.length := r.length.symm
  have hn : its ≠ [] := fun e => hne (by
    rw [e] at hle
    exact List.eq_nil_of_length_eq_zero hle.symm)
  have hi : its.toArray.isEmpty = false := by
    cases its with
    | nil => exact absurd rfl hn
    | cons a b => rfl
  have hsz0 : its.toArray.size = xs.length := by rw [List.size_toArray, hle]
  have hm : ((its.toArray.size : Nat) : Int) * k ≤ 1000000 := by
    rw [hsz0]
    have : ((xs.length * k.toNat : Nat) : Int) ≤ 1000000 := by omega
    rw [Int.natCast_mul, Int.toNat_of_nonneg (by omega)] at this
    exact this
  have flen : (List.replicate k.toNat its).flatten.length ≤ sizeLine := by
    rw [PyProof.Rows.lm_len_rep_flat, hle, sizeLine_eq, Nat.mul_comm]
    omega
  have c0 : (decide (k < -(2 ^ 63)) || decide (k ≥ 2 ^ 63)) = false := by
    rw [decide_eq_false (by omega), decide_eq_false (by omega)] <;> rfl
  have c1 : (its.toArray.isEmpty || k == 1) = false := by
    rw [hi, Bool.false_or]
    exact beq_eq_false_iff_ne.mpr (by omega)
  have c2 : (decide (k ≤ 0) || its.toArray.isEmpty) = false := by
    rw [hi, Bool.or_false]
    exact decide_eq_false (by omega)
  have c4 : Builtin.Tuple.tupleTooMany (((its.toArray.size : Nat) : Int) * k) = false := by
    unfold Builtin.Tuple.tupleTooMany
    rw [sizeLine_eq]
    exact decide_eq_false (by omega)
  refine wpAny_binaryOp_repeat_ref (T := "tuple") (U := "int") (by decide) ⟨_, ho, rfl⟩ (fun s' => typeIs_int s' k t) noFill_tuple_mul F.fills_int_mul F.slot_int_rmul repeat_tuple F.slot_int_index.lookup
    (call_meets F.slot_int_rmul (typeIs_int s k t) F.entry_int_rmul (F.args_int_rmul_2 _ _) (int_rmul_tuple k t l its.toArray n dd sl)
      ⟨ho, rfl, ⟨_, ho, rfl⟩, call_meets F.slot_tuple_mul ⟨_, ho, rfl⟩ F.entry_tuple_mul (F.args_tuple_mul_2 _ _) (tuple_mulW l its.toArray n dd sl k t c0 c1 c2 (by omega) c4 (by rw [size_rep, List.size_toArray]; exact flen)) ⟨ho, ?_⟩⟩)
  rw [size_rep]
  exact laid_tupN (k := s.toks) I (r.rep k.toNat) (by rw [PyProof.Rows.lm_len_rep_flat, sizeLine_eq, Nat.mul_comm]; omega) (q hk1)
section
variable {X : Cx} {B : Hp} {M : List Addr} {e a b c : Expr} {es : List Expr} {pos : Pos}
/-- t * k -/
def oRepT : O2 := fun w1 w2 ρ P => match w1, w2 with
  | .d (.tup ds), .d (.int k) => ds ≠ [] ∧ 1 ≤ k ∧ k < 2 ^ 62 ∧ ds.length * k.toNat ≤ 1000000 ∧ P (.tup (List.replicate k.toNat ds).flatten)
  | _, _ => False
theorem oRepT.el {w1 w2 : W} {ρ : En} {P : D → Prop} (h : oRepT w1 w2 ρ P) : ∃ ds k, w1 = .d (.tup ds) ∧ w2 = .d (.int k) ∧ ds ≠ [] ∧ 1 ≤ k ∧ k < 2 ^ 62 ∧ ds.length * k.toNat ≤ 1000000 ∧ P (.tup (List.replicate k.toNat ds).flatten) := by
  unfold oRepT at h
  split at h
  · exact ⟨_, _, rfl, rfl, h⟩
  · exact h.elim
theorem mo_oRepT : MonoO oRepT := fun x y ρ P P' h q => by
  obtain ⟨ds, k, rfl, rfl, h1, h2, h3, h4, q⟩ := q.el
  exact ⟨h1, h2, h3, h4, h _ q⟩
theorem tells_repT {K : PySem.W.Frag} : Tells2 K (rRepTN K) oRepT := fun B M ρ σ H w1 w2 x y Q P S r1 r2 hh q => by
  obtain ⟨ds, k, rfl, rfl, h1, h2, h3, h4, hp⟩ := hh.el
  obtain ⟨a, vs, rfl, ht, rr⟩ := r1
  have hl := RepL.length rr
  refine ⟨a, k, vs, rfl, r2, TpN.sq ht, fun z => h1 (by rw [z] at hl; exact List.length_eq_zero_iff.mp hl.symm), h2, h3, by rw [hl]; exact h4, fun e => ?_, fun e o p hod hp' => ?_⟩
  · subst e
    have e1 : (List.replicate (1 : Int).toNat ds).flatten = ds := by simp
    rw [e1] at hp
    exact q _ _ H hp (Same.refl _) ⟨a, vs, rfl, ht, rr⟩
  · have sm := same_upd (o := .frz o (.tup (List.replicate k.toNat vs).flatten)) hp'
    exact q _ _ _ hp sm ⟨p, _, rfl, .inl ⟨o, hod, upd_same⟩, RepL.keep (Keep.of sm) _ (RepL.flat rr _)⟩
theorem de_repT {ra rb : RE} (ha : DE X B M a ra) (hb : DE X B M b rb) : DE X B M (.BinOp a .Mult b pos) (r2 ra rb oRepT) := de_op op_repTN tells_repT mo_oRepT ha hb
/-! ### a, b = a tuple or a list -/
def kPU (Q : D → D → Prop) : D → Prop := fun d => match d with
  | .tup [x, y] => Q x y
  | .lst [x, y] => Q x y
  | _ => False
theorem kPU.el {Q : D → D → Prop} {d : D} (h : kPU Q d) : ∃ x y, (d = .tup [x, y] ∨ d = .lst [x, y]) ∧ Q x y := by
  unfold kPU at h
  split at h
  · exact ⟨_, _, .inl rfl, h⟩
  · exact ⟨_, _, .inr rfl, h⟩
  · exact h.elim
def rTupAsgU (i j : Nat) (r : RE) : RS := fun e ρ => r ρ (kD fun d ρ1 => kPU (fun x y => e.nx ((ρ1.set i (.v x)).set j (.v y))) d)
theorem pg_or {tg : Expr} {w w' : TG} (h : PG X tg w) (h' : PG X tg w') : PG X tg (fun v σ H Q => w v σ H Q ∨ w' v σ H Q) := ⟨fun pins s σ H v u Q I r q => q.elim (fun q => h.run pins s σ H v u Q I r q) (fun q => h'.run pins s σ H v u Q I r q)⟩
theorem ds_tup2U {i j : Nat} {x y : Str} {r : RE} {px py pt : Pos} {kt} (hN : X.N.Nodup) (he : DE X B M e r) (hc : X.calm = true := by rfl) (hi : X.N[i]? = some x := by rfl) (hj : X.N[j]? = some y := by rfl) (hx : Loc X.env.scope x := by first | exact Or.inl rfl | exact Or.inr rfl) (hy : Loc X.env.scope y := by first | exact Or.inl rfl | exact Or.inr rfl)
    (hn : (assignEach [.Name x px, .Name y py] X.env).length = 2 := by rfl) (hst : (assignEach [.Name x px, .Name y py] X.env).findIdx? (·.1) = none := by rfl)
    (hs1 : (assignEach [.Name x px, .Name y py] X.env).map (·.2) = assign (.Name x px) X.env :: (assignEach [.Name y py] X.env).map (·.2) := by rfl) (hs2 : (assignEach [.Name y py] X.env).map (·.2) = assign (.Name y py) X.env :: (assignEach [] X.env).map (·.2) := by rfl)
    (hs : swapsWithSole [.Tuple [.Name x px, .Name y py] kt pt] e pos.line X.env = pure false := by rfl) (hw : swappedStores [.Tuple [.Name x px, .Name y py] kt pt] e X.env = pure none := by rfl)
    (h1 : (assignEach [.Tuple [.Name x px, .Name y py] kt pt] X.env).map (·.2) = [assign (.Tuple [.Name x px, .Name y py] kt pt) X.env] := by rfl)
    (hfx : X.fn x = true ∨ X.env.scope.names.lookup x = some .local := by first | exact .inl rfl | exact .inr rfl | assumption) (hfy : X.fn y = true ∨ X.env.scope.names.lookup y = some .local := by first | exact .inl rfl | exact .inr rfl | assumption) :
    DS X B M (.Assign [.Tuple [.Name x px, .Name y py] kt pt] e pos) (rTupAsgU i j r) :=
  have gs := pgs_cons (pg_name (pos := px) hN hi hx hfx) (pgs_cons (pg_name (pos := py) hN hj hy hfy) pgs_nil hs2) hs1
  DS.mk' (ps_asg he.pe (pg_or (pg_tup (pos := pt) (k := kt) hc gs hn hst) (pg_unl (pos := pt) (k := kt) hc gs hn hst)) hs hw h1) fun D σ H ρ en S q ok => into he S q fun w ρ1 v H1 hh k1 o1 S1 r1 => by
    obtain ⟨d, e0, hh⟩ := hh.el
    obtain ⟨x, y, e1, q1⟩ := hh.el
    subst e0
    rcases e1 with e1 | e1
    · subst e1
      obtain ⟨a, vs, ev, hs, v1, vr, rfl, r1, v2, vr2, rfl, r2, r3⟩ := r1
      obtain rfl : vr2 = [] := r3
      exact .inl ⟨a, _, ev, TpN.sq hs, rfl, v1, _, rfl, v2, _, rfl, rfl, ok.nx _ _ H1 k1 ((S1.put r1).put r2) q1⟩
    · subst e1
      obtain ⟨a, vs, ev, hs, v1, vr, rfl, r1, v2, vr2, rfl, r2, r3⟩ := r1
      obtain rfl : vr2 = [] := r3
      exact .inr ⟨a, _, ev, FzL.sq hs, rfl, v1, _, rfl, v2, _, rfl, rfl, ok.nx _ _ H1 k1 ((S1.put r1).put r2) q1⟩
end
end N
/-! C0 -/
set_option Elab.async false
set_option linter.all false
set_option maxRecDepth 100000
set_option maxHeartbeats 8000000
namespace Q
open PySem PySem.Spec PyProof.Rows L2 N
def topS (i : Nat) : Stmt := PySem.Challenge.pw_staysandturns_k21_judge_log_words.main.body.getD i (.Pass ⟨0, 0, 0, 0⟩)
abbrev Fd (K : PySem.W.Frag) (x : Str) (st : Stmt) (dv : List V) (f : Addr) (fd : FuncData) : Prop := FunD K x x (defArgs st) (defBody st) (defScope st) dv [] f fd
/-- what is known of the text's names -/
structure Tx (K : PySem.W.Frag) (mg : Str → Option Value) : Prop where
  b_ValueError : mg "ValueError" = none
  b_bool : mg "bool" = none
  b_enumerate : mg "enumerate" = none
  b_int : mg "int" = none
  b_isinstance : mg "isinstance" = none
  b_len : mg "len" = none
  b_list : mg "list" = none
  b_max : mg "max" = none
  b_min : mg "min" = none
  b_range : mg "range" = none
  b_set : mg "set" = none
  b_str : mg "str" = none
  b_super : mg "super" = none
  b_tuple : mg "tuple" = none
  g_KINDS : ∃ t, mg "KINDS" = some (.int 8 t)
  g_PIECES : ∃ t, mg "PIECES" = some (.int 200 t)
  c_BadPaper : mg "BadPaper" = some (.ref (He.ga K "BadPaper"))
  x_BadPaper : PySem.W.excIn K (He.ga K "BadPaper") He.veBase "ValueError.__new__" = true ∧ PySem.W.keepIn K (.ref (He.ga K "BadPaper")) = true ∧ PySem.W.subIn K (.ref (He.ga K "BadPaper")) (.type "BaseException") = some true ∧ PySem.W.typeIn K (.ref (He.ga K "BadPaper")) = some (.type "type")
  c_BadRow : mg "BadRow" = some (.ref (He.ga K "BadRow"))
  x_BadRow : PySem.W.excIn K (He.ga K "BadRow") He.veBase "ValueError.__new__" = true ∧ PySem.W.keepIn K (.ref (He.ga K "BadRow")) = true ∧ PySem.W.subIn K (.ref (He.ga K "BadRow")) (.type "BaseException") = some true ∧ PySem.W.typeIn K (.ref (He.ga K "BadRow")) = some (.type "type")
  c_BadBatch : mg "BadBatch" = some (.ref (He.ga K "BadBatch"))
  c_BadFold : mg "BadFold" = some (.ref (He.ga K "BadFold"))
  c_BadKind : mg "BadKind" = some (.ref (He.ga K "BadKind"))
  c_BadLot : mg "BadLot" = some (.ref (He.ga K "BadLot"))
  c_BadNumber : mg "BadNumber" = some (.ref (He.ga K "BadNumber"))
  c_BadOrder : mg "BadOrder" = some (.ref (He.ga K "BadOrder"))
  c_BadRing : mg "BadRing" = some (.ref (He.ga K "BadRing"))
  c_BadRule : mg "BadRule" = some (.ref (He.ga K "BadRule"))
  c_BadSlot : mg "BadSlot" = some (.ref (He.ga K "BadSlot"))
  c_BadTable : mg "BadTable" = some (.ref (He.ga K "BadTable"))
  c_BadText : mg "BadText" = some (.ref (He.ga K "BadText"))
  c_Gains : mg "Gains" = some (.ref (He.ga K "Gains"))
  c_Outside : mg "Outside" = some (.ref (He.ga K "Outside"))
  c_TooMany : mg "TooMany" = some (.ref (He.ga K "TooMany"))
  c_WorksError : mg "WorksError" = some (.ref (He.ga K "WorksError"))
section
variable {P : Program} {w : World} {K : PySem.W.Frag} {mg : Str → Option Value} {base : Heap}
/-! the law's store -/
def CellOk (d : D) : Prop := ∃ k n : Int, d = .tup [.int k, .int n]
def StOk (s : List D) : Prop := ∃ cells, ∃ place turn left seed : Int, s = [.lst cells, .int place, .int turn, .int left, .int seed] ∧ (∀ c ∈ cells, CellOk c) ∧ 0 ≤ place
def sp_mix : FS := { α := Int × Int, args := fun g => [.int g.1, .int g.2], pre := fun _ => True, post := fun _ r => ∃ i, r = .int i }
def sp_take : SS := { α := Int, args := fun m => [.int m], pre := fun m => m < 2 ^ 1000, post := fun m r => ∃ i, r = .int i ∧ 0 ≤ i ∧ (i < m ∨ i = 0), s0 := fun _ => StOk, s1 := fun _ => StOk }
/-! _law_mix -/
abbrev s_law_mix : Stmt := topS 37
abbrev n_law_mix : List Str := ["cell", "turn", "one", "two", "three"]
theorem sc_law_mix : FnScope n_law_mix ["cell", "turn"] (defScope s_law_mix) := ⟨rfl, rfl, rfl, by decide +kernel, rfl, by decide +kernel, by decide +kernel⟩
theorem ok_law_mix (T : Tx K mg) {f : Addr} {fd : FuncData} (F : Fd K "_law_mix" s_law_mix [] f fd) : FnOk P w K mg base (L2N.CX P w) 1 f fd ["cell", "turn"] (spF K sp_mix) := by
  refine fn_ok F sc_law_mix sp_mix (fun _ => rfl) fun cdv A outer s H E g hr pre hx => ?_
  refine ⟨_, (ds_cons (ds_set (i := 2) sc_law_mix.nd (de_mod (de_int1 T.b_int (da_cons (de_add (de_add (de_mul (dv 0) de_int) (de_mul (dv 1) de_int)) de_int) da_nil)) de_int))
      (ds_cons (ds_set (i := 3) sc_law_mix.nd (de_mod (de_int1 T.b_int (da_cons (de_add (de_add (de_mul (dv 2) (dv 2)) (de_mul (dv 1) de_int)) (dv 0)) da_nil)) de_int))
      (ds_cons (ds_set (i := 4) sc_law_mix.nd (de_mod (de_int1 T.b_int (da_cons (de_add (de_add (de_mul (dv 3) de_int) (de_mul (dv 2) de_int)) (dv 1)) da_nil)) de_int))
      (ds_one (ds_ret (de_add (de_mul (dv 3) de_int) (dv 4))))))), ?_⟩
  obtain ⟨cell, turn⟩ := g
  have p0 : (0 : Int) < 2147483647 := by decide
  have p1 : (0 : Int) < 2147483629 := by decide
  have p2 : (0 : Int) < 2147483587 := by decide
  refine ⟨.inr (by decide), .inr (by decide), p0, ?_⟩
  refine ⟨.inl ⟨by show (-(2 ^ 64) : Int) < (_ : Int) % 2147483647; omega, by show (_ : Int) % 2147483647 < (2 ^ 64 : Int); omega⟩, .inr (by decide), p1, ?_⟩
  exact ⟨.inr (by decide), .inr (by decide), p2, .inr (by decide), _, rfl⟩
theorem has_law_mix (T : Tx K mg) {f : Addr} {fd : FuncData} (F : Fd K "_law_mix" s_law_mix [] f fd) (gm : mg "_law_mix" = some (.ref f)) : Has P w K mg base "_law_mix" 1 ["cell", "turn"] (spF K sp_mix) := by
  exact has_of F gm (ok_law_mix T   F) fun _ _ _ _ _ _ us hl => match us, hl with | [_, _], _ => rfl
/-! _law_take -/
abbrev s_law_take : Stmt := topS 38
abbrev n_law_take : List Str := ["store", "many", "sort_of", "cell", "digit"]
theorem sc_law_take : FnScope n_law_take ["store", "many"] (defScope s_law_take) := ⟨rfl, rfl, rfl, by decide +kernel, rfl, by decide +kernel, by decide +kernel⟩
theorem ok_law_take (T : Tx K mg) (h_law_mix : Has P w K mg base "_law_mix" 1 ["cell", "turn"] (spF K sp_mix)) {f : Addr} {fd : FuncData} (F : Fd K "_law_take" s_law_take [] f fd) : FnOk P w K mg base (L2N.CX P w) 2 f fd ["store", "many"] (spS K sp_take) := by
  refine fnS_ok F sc_law_take sp_take (fun _ => rfl) (by decide) fun cdv A outer s H E g p ss hr pre hs => ?_
  refine ⟨_, (ds_cons (ds_if (dt_lt (dv 1) de_int)
      (ds_one (ds_ret de_int))
      ds_nil)
      (ds_cons (ds_setIx (de_add (de_ix (dv 0) de_int) de_int) (dv 0) de_int)
      (ds_cons (ds_if ((dw_and (dt_eq (de_ix (dv 0) de_int) de_int) (dw_and1 (dt_lt (de_ix (dv 0) de_int) (de_len T.b_len (da_cons (de_ix (dv 0) de_int) da_nil)))))).dt
      (ds_cons (ds_tup2 (i := 2) (j := 3) sc_law_take.nd (de_ix (de_ix (dv 0) de_int) (de_ix (dv 0) de_int)))
      (ds_cons (ds_setIx (de_add (de_ix (dv 0) de_int) de_int) (dv 0) de_int)
      (ds_cons (ds_if (dt_eq (dv 2) de_int)
      (ds_one (ds_ret (de_mod (de_int1 T.b_int (da_cons (de_call h_law_mix hr (da_cons (dv 3) (da_cons (de_ix (dv 0) de_int) da_nil))) da_nil)) (dv 1))))
      ds_nil)
      (ds_one (ds_setIx (dv 3) (dv 0) de_int)))))
      ds_nil)
      (ds_cons (ds_if (dt_gt (de_ix (dv 0) de_int) de_int)
      (ds_cons (ds_set (i := 4) sc_law_take.nd (de_mod (de_int1 T.b_int (da_cons (de_ix (dv 0) de_int) da_nil)) (dv 1)))
      (ds_cons (ds_setIx (de_fdivW (de_ix (dv 0) de_int) (dv 1)) (dv 0) de_int)
      (ds_one (ds_ret (dv 4)))))
      ds_nil)
      (ds_cons (ds_setIx (de_mod (de_int1 T.b_int (da_cons (de_add (de_add (de_mul (de_ix (dv 0) de_int) de_int) (de_mul (de_ix (dv 0) de_int) de_int)) de_int) da_nil)) de_int) (dv 0) de_int)
      (ds_one (ds_ret (de_mod (de_int1 T.b_int (da_cons (de_call h_law_mix hr (da_cons (de_ix (dv 0) de_int) (da_cons (de_ix (dv 0) de_int) da_nil))) da_nil)) (dv 1))))))))), ?_⟩
  obtain ⟨cells, place, turn, left, seed, rfl, hc, hp⟩ := hs
  change Int at g
  have pre : g < 2 ^ 1000 := pre
  have done : ∀ {i : Int} {c : List D} {pl tu le se : Int}, 0 ≤ i → (i < g ∨ i = 0) → (∀ c' ∈ c, CellOk c') → 0 ≤ pl → ∀ {ρ : En}, ρ[0]? = some (Slot.own p [D.lst c, .int pl, .int tu, .int le, .int se]) → (∃ i', D.int i = .int i' ∧ 0 ≤ i' ∧ (i' < g ∨ i' = 0)) ∧ ∃ s', ρ[0]? = some (.own p s') ∧ StOk s' := fun h1 h2 h3 h4 _ e => ⟨⟨_, rfl, h1, h2⟩, _, e, _, _, _, _, _, rfl, h3, h4⟩
  show if decide (g < 2) = true then _ else _
  refine ite2 (fun h => done (Int.le_refl 0) (.inr rfl) hc hp rfl) (fun h => ?_)
  have h0 : 0 < g := by
    have : ¬ g < 2 := fun z => h (decide_eq_true z)
    omega
  have md : ∀ i : Int, 0 ≤ i % g ∧ (i % g < g ∨ i % g = 0) := fun i => ⟨Int.emod_nonneg _ (by omega), .inl (Int.emod_lt_of_pos _ h0)⟩
  have cdiv : ∀ le : Int, CDivW le g := fun le => wide_div h0 (b := 1000) (by omega) (by decide) (by decide)
  have p0 : (0 : Int) < 2147483647 := by decide
  refine ⟨.int turn, rfl, 2, rfl, ?_⟩
  dsimp only
  refine seq_join (r1 := rIf _ _ _) (fun ρ => ∃ pl le so ce, 0 ≤ pl ∧ ρ = [.own p [.lst cells, .int pl, .int (turn + 1), .int le, .int seed], .v (.int g), so, ce, .un]) (fun ρ hJ => ?_) (fun R hR => ?_)
  · obtain ⟨pl, le, so, ce, hpl, rfl⟩ := hJ
    refine ⟨.int le, rfl, ?_⟩
    show if decide (0 < le) = true then _ else _
    refine ite2 (fun hl => ?_) (fun hl => ?_)
    · refine ⟨.int le, rfl, h0, ?_⟩
      refine ⟨.int le, rfl, cdiv le, 3, rfl, ?_⟩
      exact done (md le).1 (md le).2 hc hpl rfl
    · refine ⟨.int seed, rfl, .inr (by decide), .int (turn + 1), rfl, .inr (by decide), p0, 4, rfl, ?_⟩
      refine ⟨_, rfl, .int (turn + 1), rfl, ⟨_, turn + 1⟩, rfl, trivial, fun d hd => ?_, fun _ h => h.elim⟩
      obtain ⟨i, rfl⟩ := hd
      exact ⟨h0, done (md i).1 (md i).2 hc hpl rfl⟩
  · refine ⟨.int left, rfl, ?_⟩
    show if decide (left = 0) = true then _ else _
    refine ite2 (fun hl => ?_) (fun hl => ?_)
    · refine ⟨.int place, rfl, .lst cells, rfl, ?_⟩
      show if decide (place < (cells.length : Nat)) = true then _ else _
      refine ite2 (fun hpl => ?_) (fun hpl => ?_)
      · have hpl := of_decide_eq_true hpl
        have hn : place.toNat < cells.length := by omega
        have hx : atI cells place = some cells[place.toNat] := by
          unfold atI ixN
          rw [if_pos hp, if_pos (by omega)]
          exact List.getElem?_eq_getElem hn
        obtain ⟨k, n, hkn⟩ := hc _ (List.getElem_mem hn)
        refine ⟨.lst cells, rfl, .int place, rfl, _, hx, ?_⟩
        rw [hkn]
        refine ⟨.int place, rfl, 1, rfl, ?_⟩
        show if decide (k = 0) = true then _ else _
        refine ite2 (fun hk => ?_) (fun hk => ?_)
        · refine ⟨.int (turn + 1), rfl, ⟨n, turn + 1⟩, rfl, trivial, fun d hd => ?_, fun _ h => h.elim⟩
          obtain ⟨i, rfl⟩ := hd
          exact ⟨h0, done (md i).1 (md i).2 hc (by omega) rfl⟩
        · exact ⟨3, rfl, hR _ ⟨_, _, _, _, by omega, rfl⟩⟩
      · exact hR _ ⟨_, _, _, _, hp, rfl⟩
    · exact hR _ ⟨_, _, _, _, hp, rfl⟩
theorem has_law_take (T : Tx K mg) (h_law_mix : Has P w K mg base "_law_mix" 1 ["cell", "turn"] (spF K sp_mix)) {f : Addr} {fd : FuncData} (F : Fd K "_law_take" s_law_take [] f fd) (gm : mg "_law_take" = some (.ref f)) : Has P w K mg base "_law_take" 2 ["store", "many"] (spS K sp_take) := by
  exact has_of F gm (ok_law_take T  h_law_mix F) fun _ _ _ _ _ _ us hl => match us, hl with | [_, _], _ => rfl
def sp_pick : SS := { α := Bool × List D, args := fun g => [if g.1 then .tup g.2 else .lst g.2], pre := fun g => g.2 ≠ [] ∧ g.2.length ≤ 16777216, post := fun g r => r ∈ g.2, s0 := fun _ => StOk, s1 := fun _ => StOk }
def sp_edge : SS := { α := Int × Int, args := fun g => [.int g.1, .int g.2], pre := fun g => g.1 ≤ g.2 ∧ g.2 - g.1 + 1 < 2 ^ 1000, post := fun g r => ∃ i, r = .int i ∧ g.1 ≤ i ∧ i ≤ g.2, s0 := fun _ => StOk, s1 := fun _ => StOk }
def noNums : List D := [.bl true, .bl false, .non, .str "", .str "0", .str "a", .tup [], .lst [], .tup [.int 0], .lst [.int 1], .dic [], .dic [(.inl 0, .int 0)]]
def sp_no_number : SS := { α := Unit, args := fun _ => [], pre := fun _ => True, post := fun _ r => r ∈ noNums, s0 := fun _ => StOk, s1 := fun _ => StOk }
def noLists : List D := [.non, .bl true, .bl false, .int 0, .int 1, .int (-1), .str "", .str "0", .str "ab", .dic [], .dic [(.inl 0, .int 0)], .int (10 ^ 40)]
def sp_no_list : SS := { α := Unit, args := fun _ => [], pre := fun _ => True, post := fun _ r => r ∈ noLists, s0 := fun _ => StOk, s1 := fun _ => StOk }
/-- no number of low .. high -/
def Out (low high : Int) (r : D) : Prop := r ∈ noNums ∨ ∃ i, r = .int i ∧ (i < low ∨ high < i)
def sp_outside : SS := { α := Int × Int, args := fun g => [.int g.1, .int g.2], pre := fun g => g.1 ≤ g.2, post := fun g r => Out g.1 g.2 r, s0 := fun _ => StOk, s1 := fun _ => StOk }
theorem tk {n : Int} (h : n < 2 ^ 1000) : sp_take.pre n := h
theorem cp1040 : CPow 10 40 := ⟨by decide, by decide, by decide⟩
theorem mem4 {d a b c e : D} (h : d ∈ [a, b, c, e]) : d = a ∨ d = b ∨ d = c ∨ d = e := by simpa using h
theorem atI_nat {α : Type} {ds : List α} {i : Int} (h0 : 0 ≤ i) (h : i < (ds.length : Nat)) : ∃ d, atI ds i = some d ∧ ds[i.toNat]? = some d ∧ d ∈ ds := by
  have hn : i.toNat < ds.length := by omega
  refine ⟨ds[i.toNat], ?_, List.getElem?_eq_getElem hn, List.getElem_mem hn⟩
  unfold atI ixN
  rw [if_pos h0, if_pos (by omega)]
  exact List.getElem?_eq_getElem hn
/-! _law_pick -/
abbrev s_law_pick : Stmt := topS 39
abbrev n_law_pick : List Str := ["store", "things"]
theorem sc_law_pick : FnScope n_law_pick ["store", "things"] (defScope s_law_pick) := ⟨rfl, rfl, rfl, by decide +kernel, rfl, by decide +kernel, by decide +kernel⟩
theorem ok_law_pick (T : Tx K mg) (h_law_take : Has P w K mg base "_law_take" 2 ["store", "many"] (spS K sp_take)) {f : Addr} {fd : FuncData} (F : Fd K "_law_pick" s_law_pick [] f fd) : FnOk P w K mg base (L2N.CX P w) 3 f fd ["store", "things"] (spS K sp_pick) := by
  refine fnS_ok F sc_law_pick sp_pick (fun _ => rfl) (by decide) fun cdv A outer s H E g p ss hr pre hs => ?_
  refine ⟨_, (ds_one (ds_ret (de_ix (dv 1) (de_callS h_law_take hr (dv 0) (da_cons (de_len T.b_len (da_cons (dv 1) da_nil)) da_nil))))), ?_⟩
  obtain ⟨b, ds⟩ := g
  obtain ⟨h1, h2⟩ := pre
  have hl : 0 < ds.length := List.length_pos_iff.mpr h1
  change ds.length ≤ 16777216 at h2
  have main : ∀ (d0 : D), (∀ ρ, sq ρ (.d d0) = some (b, ds)) → ∃ m : Int, m = (ds.length : Nat) := fun _ _ => ⟨_, rfl⟩
  cases b with
  | true =>
    refine ⟨((ds.length : Nat) : Int), rfl, hs, by show ((ds.length : Nat) : Int) < 2 ^ 1000; omega, fun d s' hd hs' => ?_⟩
    obtain ⟨i, rfl, i0, i1⟩ := hd
    obtain ⟨x, e1, _, e2⟩ := atI_nat (ds := ds) i0 (by omega)
    exact ⟨x, e1, e2, s', rfl, hs'⟩
  | false =>
    refine ⟨((ds.length : Nat) : Int), rfl, hs, by show ((ds.length : Nat) : Int) < 2 ^ 1000; omega, fun d s' hd hs' => ?_⟩
    obtain ⟨i, rfl, i0, i1⟩ := hd
    obtain ⟨x, e1, _, e2⟩ := atI_nat (ds := ds) i0 (by omega)
    exact ⟨x, e1, e2, s', rfl, hs'⟩
theorem has_law_pick (T : Tx K mg) (h_law_take : Has P w K mg base "_law_take" 2 ["store", "many"] (spS K sp_take)) {f : Addr} {fd : FuncData} (F : Fd K "_law_pick" s_law_pick [] f fd) (gm : mg "_law_pick" = some (.ref f)) : Has P w K mg base "_law_pick" 3 ["store", "things"] (spS K sp_pick) := by
  exact has_of F gm (ok_law_pick T  h_law_take F) fun _ _ _ _ _ _ us hl => match us, hl with | [_, _], _ => rfl
/-! _law_edge -/
abbrev s_law_edge : Stmt := topS 40
abbrev n_law_edge : List Str := ["store", "low", "high", "span", "way"]
theorem sc_law_edge : FnScope n_law_edge ["store", "low", "high"] (defScope s_law_edge) := ⟨rfl, rfl, rfl, by decide +kernel, rfl, by decide +kernel, by decide +kernel⟩
theorem ok_law_edge (T : Tx K mg) (h_law_take : Has P w K mg base "_law_take" 2 ["store", "many"] (spS K sp_take)) {f : Addr} {fd : FuncData} (F : Fd K "_law_edge" s_law_edge [] f fd) : FnOk P w K mg base (L2N.CX P w) 3 f fd ["store", "low", "high"] (spS K sp_edge) := by
  refine fnS_ok F sc_law_edge sp_edge (fun _ => rfl) (by decide) fun cdv A outer s H E g p ss hr pre hs => ?_
  refine ⟨_, (ds_cons (ds_set (i := 3) sc_law_edge.nd (de_add (de_sub (dv 2) (dv 1)) de_int))
      (ds_cons (ds_set (i := 4) sc_law_edge.nd (de_callS h_law_take hr (dv 0) (da_cons de_int da_nil)))
      (ds_cons (ds_if (dt_lt (dv 4) de_int)
      (ds_one (ds_ret (de_ix (de_new (dn_lst (da_cons (dv 1) (da_cons (dv 2) (da_cons (de_min rfl T.b_min (da_cons (de_add (dv 1) de_int) (da_cons (dv 2) da_nil))) (da_cons (de_max rfl T.b_max (da_cons (dv 1) (da_cons (de_sub (dv 2) de_int) da_nil))) da_nil)))))) (de_callS h_law_take hr (dv 0) (da_cons de_int da_nil)))))
      ds_nil)
      (ds_cons (ds_if (dt_lt (dv 4) de_int)
      (ds_one (ds_ret (de_add (dv 1) (de_callS h_law_take hr (dv 0) (da_cons (de_min rfl T.b_min (da_cons (dv 3) (da_cons de_int da_nil))) da_nil)))))
      ds_nil)
      (ds_one (ds_ret (de_add (dv 1) (de_callS h_law_take hr (dv 0) (da_cons (dv 3) da_nil))))))))), ?_⟩
  obtain ⟨low, high⟩ := g
  obtain ⟨h1, h2⟩ := pre
  change low ≤ high at h1
  change high - low + 1 < 2 ^ 1000 at h2
  refine ⟨(6 : Int), rfl, hs, tk (by omega), fun d s1 hd hs => ?_⟩
  obtain ⟨way, rfl, w0, w1⟩ := hd
  show if decide (way < 2) = true then _ else _
  refine ite2 (fun h => ?_) (fun h => ?_)
  · refine ⟨(4 : Int), rfl, hs, tk (by omega), fun d s2 hd hs => ?_⟩
    obtain ⟨i, rfl, i0, i1⟩ := hd
    obtain ⟨x, e1, _, e2⟩ := atI_nat (ds := [D.int low, .int high, .int (min (low + 1) high), .int (max low (high - 1))]) i0 (by simp; omega)
    refine ⟨x, e1, ?_, s2, rfl, hs⟩
    show ∃ i, x = .int i ∧ low ≤ i ∧ i ≤ high
    rcases (by simpa using e2 : x = .int low ∨ x = .int high ∨ x = .int (min (low + 1) high) ∨ x = .int (max low (high - 1))) with rfl | rfl | rfl | rfl
    · exact ⟨_, rfl, by omega, by omega⟩
    · exact ⟨_, rfl, by omega, by omega⟩
    · exact ⟨_, rfl, by omega, by omega⟩
    · exact ⟨_, rfl, by omega, by omega⟩
  · show if decide (way < 4) = true then _ else _
    refine ite2 (fun h => ?_) (fun h => ?_)
    · refine ⟨(min (high - low + 1) 4 : Int), rfl, hs, tk (by omega), fun d s2 hd hs => ?_⟩
      obtain ⟨i, rfl, i0, i1⟩ := hd
      exact ⟨⟨_, rfl, by show low ≤ low + i; omega, by show low + i ≤ high; omega⟩, s2, rfl, hs⟩
    · refine ⟨high - low + 1, rfl, hs, h2, fun d s2 hd hs => ?_⟩
      obtain ⟨i, rfl, i0, i1⟩ := hd
      exact ⟨⟨_, rfl, by show low ≤ low + i; omega, by show low + i ≤ high; omega⟩, s2, rfl, hs⟩
theorem has_law_edge (T : Tx K mg) (h_law_take : Has P w K mg base "_law_take" 2 ["store", "many"] (spS K sp_take)) {f : Addr} {fd : FuncData} (F : Fd K "_law_edge" s_law_edge [] f fd) (gm : mg "_law_edge" = some (.ref f)) : Has P w K mg base "_law_edge" 3 ["store", "low", "high"] (spS K sp_edge) := by
  exact has_of F gm (ok_law_edge T  h_law_take F) fun _ _ _ _ _ _ us hl => match us, hl with | [_, _, _], _ => rfl
/-! _law_no_number -/
abbrev s_law_no_number : Stmt := topS 41
abbrev n_law_no_number : List Str := ["store"]
theorem sc_law_no_number : FnScope n_law_no_number ["store"] (defScope s_law_no_number) := ⟨rfl, rfl, rfl, by decide +kernel, rfl, by decide +kernel, by decide +kernel⟩
theorem ok_law_no_number (T : Tx K mg) (h_law_pick : Has P w K mg base "_law_pick" 3 ["store", "things"] (spS K sp_pick)) {f : Addr} {fd : FuncData} (F : Fd K "_law_no_number" s_law_no_number [] f fd) : FnOk P w K mg base (L2N.CX P w) 4 f fd ["store"] (spS K sp_no_number) := by
  refine fnS_ok F sc_law_no_number sp_no_number (fun _ => rfl) (by decide) fun cdv A outer s H E g p ss hr pre hs => ?_
  refine ⟨_, (ds_one (ds_ret (de_callS h_law_pick hr (dv 0) (da_cons (de_new (dn_lst (da_cons de_bl (da_cons de_bl (da_cons de_non (da_cons de_str (da_cons de_str (da_cons de_str (da_cons (de_tup da_nil) (da_cons (de_new (dn_lst da_nil)) (da_cons (de_tup (da_cons de_int da_nil)) (da_cons (de_new (dn_lst (da_cons de_int da_nil))) (da_cons de_dic0 (da_cons de_dic1 da_nil)))))))))))))) da_nil)))), ?_⟩
  refine ⟨⟨false, noNums⟩, rfl, hs, ⟨by simp [noNums], by simp [noNums]⟩, fun d s1 hd hs => ?_⟩
  exact ⟨hd, s1, rfl, hs⟩
theorem has_law_no_number (T : Tx K mg) (h_law_pick : Has P w K mg base "_law_pick" 3 ["store", "things"] (spS K sp_pick)) {f : Addr} {fd : FuncData} (F : Fd K "_law_no_number" s_law_no_number [] f fd) (gm : mg "_law_no_number" = some (.ref f)) : Has P w K mg base "_law_no_number" 4 ["store"] (spS K sp_no_number) := by
  exact has_of F gm (ok_law_no_number T  h_law_pick F) fun _ _ _ _ _ _ us hl => match us, hl with | [_], _ => rfl
/-! _law_no_list -/
abbrev s_law_no_list : Stmt := topS 42
abbrev n_law_no_list : List Str := ["store"]
theorem sc_law_no_list : FnScope n_law_no_list ["store"] (defScope s_law_no_list) := ⟨rfl, rfl, rfl, by decide +kernel, rfl, by decide +kernel, by decide +kernel⟩
theorem ok_law_no_list (T : Tx K mg) (h_law_pick : Has P w K mg base "_law_pick" 3 ["store", "things"] (spS K sp_pick)) {f : Addr} {fd : FuncData} (F : Fd K "_law_no_list" s_law_no_list [] f fd) : FnOk P w K mg base (L2N.CX P w) 4 f fd ["store"] (spS K sp_no_list) := by
  refine fnS_ok F sc_law_no_list sp_no_list (fun _ => rfl) (by decide) fun cdv A outer s H E g p ss hr pre hs => ?_
  refine ⟨_, (ds_one (ds_ret (de_callS h_law_pick hr (dv 0) (da_cons (de_new (dn_lst (da_cons de_non (da_cons de_bl (da_cons de_bl (da_cons de_int (da_cons de_int (da_cons (de_neg de_int) (da_cons de_str (da_cons de_str (da_cons de_str (da_cons de_dic0 (da_cons de_dic1 (da_cons (de_pow de_int de_int) da_nil)))))))))))))) da_nil)))), ?_⟩
  refine ⟨cp1040, ?_⟩
  refine ⟨⟨false, noLists⟩, rfl, hs, ⟨by simp [noLists], by simp [noLists]⟩, fun d s1 hd hs => ?_⟩
  exact ⟨hd, s1, rfl, hs⟩
theorem has_law_no_list (T : Tx K mg) (h_law_pick : Has P w K mg base "_law_pick" 3 ["store", "things"] (spS K sp_pick)) {f : Addr} {fd : FuncData} (F : Fd K "_law_no_list" s_law_no_list [] f fd) (gm : mg "_law_no_list" = some (.ref f)) : Has P w K mg base "_law_no_list" 4 ["store"] (spS K sp_no_list) := by
  exact has_of F gm (ok_law_no_list T  h_law_pick F) fun _ _ _ _ _ _ us hl => match us, hl with | [_], _ => rfl
/-! _law_outside -/
abbrev s_law_outside : Stmt := topS 43
abbrev n_law_outside : List Str := ["store", "low", "high", "way"]
theorem sc_law_outside : FnScope n_law_outside ["store", "low", "high"] (defScope s_law_outside) := ⟨rfl, rfl, rfl, by decide +kernel, rfl, by decide +kernel, by decide +kernel⟩
theorem ok_law_outside (T : Tx K mg) (h_law_take : Has P w K mg base "_law_take" 2 ["store", "many"] (spS K sp_take)) (h_law_no_number : Has P w K mg base "_law_no_number" 4 ["store"] (spS K sp_no_number)) (h_law_pick : Has P w K mg base "_law_pick" 3 ["store", "things"] (spS K sp_pick)) {f : Addr} {fd : FuncData} (F : Fd K "_law_outside" s_law_outside [] f fd) : FnOk P w K mg base (L2N.CX P w) 5 f fd ["store", "low", "high"] (spS K sp_outside) := by
  refine fnS_ok F sc_law_outside sp_outside (fun _ => rfl) (by decide) fun cdv A outer s H E g p ss hr pre hs => ?_
  refine ⟨_, (ds_cons (ds_set (i := 3) sc_law_outside.nd (de_callS h_law_take (hr.mono (by decide : 2 ≤ 4)) (dv 0) (da_cons de_int da_nil)))
      (ds_cons (ds_if (dt_eq (dv 3) de_int)
      (ds_one (ds_ret (de_callS h_law_no_number hr (dv 0) da_nil)))
      ds_nil)
      (ds_cons (ds_if (dt_eq (dv 3) de_int)
      (ds_one (ds_ret (de_sub (dv 1) de_int)))
      ds_nil)
      (ds_cons (ds_if (dt_eq (dv 3) de_int)
      (ds_one (ds_ret (de_add (dv 2) de_int)))
      ds_nil)
      (ds_one (ds_ret (de_callS h_law_pick (hr.mono (by decide : 3 ≤ 4)) (dv 0) (da_cons (de_new (dn_lst (da_cons (de_sub (dv 1) de_int) (da_cons (de_add (dv 2) de_int) (da_cons (de_sub (dv 1) (de_pow de_int de_int)) (da_cons (de_add (dv 2) (de_pow de_int de_int)) da_nil)))))) da_nil)))))))), ?_⟩
  obtain ⟨low, high⟩ := g
  have pre : low ≤ high := pre
  refine ⟨(4 : Int), rfl, hs, tk (by omega), fun d s1 hd hs => ?_⟩
  obtain ⟨way, rfl, w0, w1⟩ := hd
  show if decide (way = 0) = true then _ else _
  refine ite2 (fun h => ?_) (fun h => ?_)
  · exact ⟨(), rfl, hs, trivial, fun d s2 hd hs => ⟨.inl hd, s2, rfl, hs⟩⟩
  · show if decide (way = 1) = true then _ else _
    refine ite2 (fun h => ?_) (fun h => ?_)
    · exact ⟨.inr ⟨_, rfl, .inl (by show low - 1 < low; omega)⟩, s1, rfl, hs⟩
    · show if decide (way = 2) = true then _ else _
      refine ite2 (fun h => ?_) (fun h => ?_)
      · exact ⟨.inr ⟨_, rfl, .inr (by show high < high + 1; omega)⟩, s1, rfl, hs⟩
      · refine ⟨cp1040, cp1040, ?_⟩
        refine ⟨⟨false, [.int (low - 2), .int (high + 2), .int (low - 10 ^ 40), .int (high + 10 ^ 40)]⟩, rfl, hs, ⟨by simp, by simp⟩, fun d s2 hd hs => ?_⟩
        refine ⟨.inr ?_, s2, rfl, hs⟩
        rcases mem4 hd with rfl | rfl | rfl | rfl
        · exact ⟨_, rfl, .inl (by show low - 2 < low; omega)⟩
        · exact ⟨_, rfl, .inr (by show high < high + 2; omega)⟩
        · exact ⟨_, rfl, .inl (by show low - 10 ^ 40 < low; omega)⟩
        · exact ⟨_, rfl, .inr (by show high < high + 10 ^ 40; omega)⟩
theorem has_law_outside (T : Tx K mg) (h_law_take : Has P w K mg base "_law_take" 2 ["store", "many"] (spS K sp_take)) (h_law_no_number : Has P w K mg base "_law_no_number" 4 ["store"] (spS K sp_no_number)) (h_law_pick : Has P w K mg base "_law_pick" 3 ["store", "things"] (spS K sp_pick)) {f : Addr} {fd : FuncData} (F : Fd K "_law_outside" s_law_outside [] f fd) (gm : mg "_law_outside" = some (.ref f)) : Has P w K mg base "_law_outside" 5 ["store", "low", "high"] (spS K sp_outside) := by
  exact has_of F gm (ok_law_outside T  h_law_take h_law_no_number h_law_pick F) fun _ _ _ _ _ _ us hl => match us, hl with | [_, _, _], _ => rfl
end
end Q
/-! C1 -/
set_option Elab.async false
set_option linter.all false
set_option maxRecDepth 100000
set_option maxHeartbeats 8000000
namespace Q
open PySem PySem.Spec PyProof.Rows L2 N
section
variable {P : Program} {w : World} {K : PySem.W.Frag} {mg : Str → Option Value} {base : Heap}
theorem perm_pop {α : Type} : ∀ {rs : List α} {j : Nat} {d : α}, rs[j]? = some d → (d :: rs.eraseIdx j).Perm rs
  | [], _, _, h => by simp at h
  | x :: xs, 0, d, h => by
    have : x = d := by simpa using h
    rw [this]
    exact List.Perm.refl _
  | x :: xs, j + 1, d, h => by
    have ih := perm_pop (rs := xs) (j := j) (by simpa using h)
    rw [List.eraseIdx_cons_succ]
    exact (List.Perm.swap x d _).trans (ih.cons x)
def seqD (b : Bool) (ds : List D) : D := if b then .tup ds else .lst ds
abbrev stS (α : Type) : α → List D → Prop := fun _ => StOk
def BentPost (ds : List D) (low high : Int) (r : D) : Prop := ∃ ds' v, r = .lst ds' ∧ Out low high v ∧ ((ds = [] ∧ ds' = [v]) ∨ ∃ i, i < ds.length ∧ ds' = ds.set i v)
def sp_bent : SS := { α := Bool × List D × Int × Int, args := fun g => [seqD g.1 g.2.1, D.int g.2.2.1, D.int g.2.2.2], pre := fun g => g.2.2.1 ≤ g.2.2.2 ∧ g.2.1.length ≤ 16777216, post := fun g r => BentPost g.2.1 g.2.2.1 g.2.2.2 r, s0 := fun _ => StOk, s1 := fun _ => StOk }
def sp_arr : SS := { α := Bool × List D, args := fun g => [seqD g.1 g.2], pre := fun g => g.2.length ≤ 16777216, post := fun g r => ∃ ds', r = .lst ds' ∧ ds'.Perm g.2, s0 := fun _ => StOk, s1 := fun _ => StOk }
theorem ixN_nat {n : Nat} {i : Int} (h0 : 0 ≤ i) (h : i < (n : Nat)) : ixN n i = some i.toNat := by
  unfold ixN
  rw [if_pos h0, if_pos (by omega)]
/-! _law_bent -/
abbrev s_law_bent : Stmt := topS 44
abbrev n_law_bent : List Str := ["store", "row", "low", "high", "bent", "value", "place"]
theorem sc_law_bent : FnScope n_law_bent ["store", "row", "low", "high"] (defScope s_law_bent) := ⟨rfl, rfl, rfl, by decide +kernel, rfl, by decide +kernel, by decide +kernel⟩
theorem ok_law_bent (T : Tx K mg) (h_law_outside : Has P w K mg base "_law_outside" 5 ["store", "low", "high"] (spS K sp_outside)) (h_law_take : Has P w K mg base "_law_take" 2 ["store", "many"] (spS K sp_take)) {f : Addr} {fd : FuncData} (F : Fd K "_law_bent" s_law_bent [] f fd) : FnOk P w K mg base (L2N.CX P w) 6 f fd ["store", "row", "low", "high"] (spS K sp_bent) := by
  refine fnS_ok F sc_law_bent sp_bent (fun _ => rfl) (by decide) fun cdv A outer s H E g p ss hr pre hs => ?_
  refine ⟨_, (ds_cons (ds_setO (i := 4) sc_law_bent.nd (dn_list T.b_list (da_cons (dv 1) da_nil)))
      (ds_cons (ds_set (i := 5) sc_law_bent.nd (de_callS h_law_outside hr (dv 0) (da_cons (dv 2) (da_cons (dv 3) da_nil))))
      (ds_cons (ds_if (dt_eq (de_len T.b_len (da_cons (dv 4) da_nil)) de_int)
      (ds_one (ds_ret (de_new (dn_lst (da_cons (dv 5) da_nil)))))
      ds_nil)
      (ds_cons (ds_set (i := 6) sc_law_bent.nd (de_callS h_law_take (hr.mono (by decide : 2 ≤ 5)) (dv 0) (da_cons (de_len T.b_len (da_cons (dv 4) da_nil)) da_nil)))
      (ds_cons (ds_setIx (dv 5) (dv 4) (dv 6))
      (ds_lock 4 (ds_one (ds_ret (dv 4))))))))), ?_⟩
  obtain ⟨b, ds, low, high⟩ := g
  obtain ⟨h1, h2⟩ := pre
  change low ≤ high at h1
  change ds.length ≤ 16777216 at h2
  cases b <;> (
    intro q
    refine ⟨(low, high), rfl, hs, h1, fun v s1 hv hs => ?_⟩
    show if decide (((ds.length : Nat) : Int) = 0) = true then _ else _
    refine ite2 (fun h => ?_) (fun h => ?_)
    · have h := of_decide_eq_true h
      have e : ds = [] := List.length_eq_zero_iff.mp (by omega)
      exact ⟨⟨[v], v, rfl, hv, .inl ⟨e, rfl⟩⟩, s1, rfl, hs⟩
    · have h : ¬ ((ds.length : Nat) : Int) = 0 := fun z => h (decide_eq_true z)
      refine ⟨((ds.length : Nat) : Int), rfl, hs, tk (by omega), fun d s2 hd hs => ?_⟩
      obtain ⟨i, rfl, i0, i1⟩ := hd
      refine ⟨i.toNat, ixN_nat i0 (by show i < ((ds.length : Nat) : Int); omega), ?_⟩
      exact ⟨⟨_, v, rfl, hv, .inr ⟨i.toNat, by show i.toNat < ds.length; omega, rfl⟩⟩, s2, rfl, hs⟩)
theorem has_law_bent (T : Tx K mg) (h_law_outside : Has P w K mg base "_law_outside" 5 ["store", "low", "high"] (spS K sp_outside)) (h_law_take : Has P w K mg base "_law_take" 2 ["store", "many"] (spS K sp_take)) {f : Addr} {fd : FuncData} (F : Fd K "_law_bent" s_law_bent [] f fd) (gm : mg "_law_bent" = some (.ref f)) : Has P w K mg base "_law_bent" 6 ["store", "row", "low", "high"] (spS K sp_bent) := by
  exact has_of F gm (ok_law_bent T  h_law_outside h_law_take F) fun _ _ _ _ _ _ us hl => match us, hl with | [_, _, _, _], _ => rfl
/-! _law_arrangement -/
abbrev s_law_arrangement : Stmt := topS 47
abbrev n_law_arrangement : List Str := ["store", "things", "rest", "row", "k"]
theorem sc_law_arrangement : FnScope n_law_arrangement ["store", "things"] (defScope s_law_arrangement) := ⟨rfl, rfl, rfl, by decide +kernel, rfl, by decide +kernel, by decide +kernel⟩
theorem ok_law_arrangement (T : Tx K mg) (h_law_take : Has P w K mg base "_law_take" 2 ["store", "many"] (spS K sp_take)) {f : Addr} {fd : FuncData} (F : Fd K "_law_arrangement" s_law_arrangement [] f fd) : FnOk P w K mg base (L2N.CX P w) 3 f fd ["store", "things"] (spS K sp_arr) := by
  refine fnS_ok F sc_law_arrangement sp_arr (fun _ => rfl) (by decide) fun cdv A outer s H E g p ss hr pre hs => ?_
  refine ⟨_, (ds_cons (ds_setO (i := 2) sc_law_arrangement.nd (dn_list T.b_list (da_cons (dv 1) da_nil)))
      (ds_cons (ds_setO (i := 3) sc_law_arrangement.nd (dn_lst da_nil))
      (ds_cons (ds_for (passes_of rfl) (di_range1 T.b_range (da_cons (de_len T.b_len (da_cons (dv 1) da_nil)) da_nil)) (dg 4 sc_law_arrangement.nd)
      (ds_one (ds_expr (de_append (dv 3) (de_popI (dv 2) (de_callS h_law_take hr (dv 0) (da_cons (de_len T.b_len (da_cons (dv 2) da_nil)) da_nil)))))))
      (ds_lock 3 (ds_one (ds_ret (dv 3))))))), ?_⟩
  obtain ⟨b, ds⟩ := g
  change ds.length ≤ 16777216 at pre
  cases b <;> (
    intro q pr
    refine ⟨by decide, by decide, by show -(2 ^ 62) ≤ ((ds.length : Nat) : Int); omega, by show ((ds.length : Nat) : Int) < 2 ^ 62; omega, ?_⟩
    refine ⟨fun k ρ => ∃ t s rs ro kv, ρ = [.own p s, t, .own q rs, .own pr ro, kv] ∧ StOk s ∧ (ro ++ rs).Perm ds ∧ ro.length = k, ?_, ?_, ?_, ?_⟩
    · exact ⟨_, _, _, _, _, rfl, hs, List.Perm.refl _, rfl⟩
    · exact fun _ _ _ _ => trivial
    · rintro k d ρ hk rfl ⟨t, s, rs, ro, kv, rfl, hs, pm, hl⟩
      have hlen := pm.length_eq
      rw [List.length_append] at hlen
      have hk : k < ds.length := by
        have hk : k < (((ds.length : Nat) : Int) - 0).toNat := hk
        omega
      refine ⟨((rs.length : Nat) : Int), rfl, hs, tk (by omega), fun d s2 hd hs => ?_⟩
      obtain ⟨i, rfl, i0, i1⟩ := hd
      have hi : i.toNat < rs.length := by omega
      refine ⟨i.toNat, rs[i.toNat], i0, by omega, List.getElem?_eq_getElem hi, by omega, by omega, ?_⟩
      refine ⟨_, _, _, _, _, rfl, hs, ?_, by rw [List.length_append]; simp; omega⟩
      rw [List.append_assoc]
      exact (List.Perm.append_left ro (perm_pop (List.getElem?_eq_getElem hi))).trans pm
    · rintro ρ ⟨t, s, rs, ro, kv, rfl, hs, pm, hl⟩
      have hlen := pm.length_eq
      rw [List.length_append] at hlen
      have hl : ro.length = (((ds.length : Nat) : Int) - 0).toNat := hl
      have e : rs = [] := List.length_eq_zero_iff.mp (by omega)
      subst e
      rw [List.append_nil] at pm
      exact ⟨⟨ro, rfl, pm⟩, s, rfl, hs⟩)
theorem has_law_arrangement (T : Tx K mg) (h_law_take : Has P w K mg base "_law_take" 2 ["store", "many"] (spS K sp_take)) {f : Addr} {fd : FuncData} (F : Fd K "_law_arrangement" s_law_arrangement [] f fd) (gm : mg "_law_arrangement" = some (.ref f)) : Has P w K mg base "_law_arrangement" 3 ["store", "things"] (spS K sp_arr) := by
  exact has_of F gm (ok_law_arrangement T  h_law_take F) fun _ _ _ _ _ _ us hl => match us, hl with | [_, _], _ => rfl
end
end Q
/-! C2 -/
set_option Elab.async false
set_option linter.all false
set_option maxRecDepth 100000
set_option maxHeartbeats 8000000
namespace Q
open PySem PySem.Spec PyProof.Rows L2 N
section
variable {P : Program} {w : World} {K : PySem.W.Frag} {mg : Str → Option Value} {base : Heap}
def isK (m : Int) : D → Bool
  | .int i => decide (0 ≤ i ∧ i < m)
  | _ => false
def rowOf : D → Option (List D)
  | .tup ds => some ds
  | .lst ds => some ds
  | _ => none
def isRow (m : Int) (d : D) : Bool := match rowOf d with
  | some ds => decide (ds.length ≤ 200) && ds.all (isK m)
  | none => false
def RowIn (d : D) : Prop := (ty7 d).isSome = true ∧ ∀ ds, rowOf d = some ds → ∀ x ∈ ds, (ty7 x).isSome = true
theorem isK_el {m : Int} {d : D} (h : isK m d = true) : ∃ i, d = .int i ∧ 0 ≤ i ∧ i < m := by
  cases d with
  | int i => exact ⟨i, rfl, of_decide_eq_true h⟩
  | _ => cases h
theorem ints_of {m : Int} : ∀ {ds : List D}, (∀ d ∈ ds, isK m d = true) → ∃ ns : List Int, ds = ns.map D.int ∧ ∀ n ∈ ns, 0 ≤ n ∧ n < m
  | [], _ => ⟨[], rfl, fun _ h => by simp at h⟩
  | d :: ds, h => by
    obtain ⟨i, rfl, hi⟩ := isK_el (h d List.mem_cons_self)
    obtain ⟨ns, rfl, hns⟩ := ints_of (ds := ds) fun x hx => h x (List.mem_cons_of_mem _ hx)
    refine ⟨i :: ns, rfl, fun n hn => ?_⟩
    rcases List.mem_cons.mp hn with rfl | hn
    · exact hi
    · exact hns n hn
theorem isK_take {m : Int} {d : D} (hm : 1 ≤ m) (h : sp_take.post m d) : isK m d = true := by
  obtain ⟨i, rfl, i0, i1⟩ := h
  exact decide_eq_true ⟨i0, by omega⟩
def rgI (n : Int) : List Int := (List.range n.toNat).map fun i : Nat => (i : Int)
theorem rgD_ints (n : Int) : rgD 0 n = (rgI n).map D.int := by
  unfold rgD rgI
  rw [List.map_map, Int.sub_zero]
  exact List.map_congr_left fun i _ => by show D.int (0 + (i : Int)) = D.int (i : Int); rw [Int.zero_add]
theorem rgI_mem {n k : Int} (h : k ∈ rgI n) : 0 ≤ k ∧ k < n := by
  obtain ⟨i, hi, rfl⟩ := List.mem_map.mp h
  have := List.mem_range.mp hi
  omega
theorem rgI_sorted (n : Int) : (rgI n).Pairwise (· < ·) := by
  unfold rgI
  rw [List.pairwise_map]
  exact List.Pairwise.imp (fun {a b} h => by show (a : Int) < (b : Int); omega) List.pairwise_lt_range
theorem rgOk {n : Int} (h0 : 0 ≤ n) (h : n ≤ 16777216) : RgOk 0 n := RgOk.of_le (by omega) h (by omega) h0
/-- a lot: rising kinds below m, at least one -/
def LotOk (m : Int) (ns : List Int) : Prop := ns ≠ [] ∧ ns.Pairwise (· < ·) ∧ ∀ n ∈ ns, 0 ≤ n ∧ n < m
def sp_lot : SS := { α := Int, args := fun m => [.int m], pre := fun m => 1 ≤ m ∧ m ≤ 64, post := fun m r => ∃ ns, r = .tup (ns.map D.int) ∧ LotOk m ns, s0 := fun _ => StOk, s1 := fun _ => StOk }
def sp_row : SS := { α := Int × Int, args := fun g => [.int g.1, .int g.2], pre := fun g => 1 ≤ g.1 ∧ g.1 ≤ 64 ∧ 0 ≤ g.2 ∧ g.2 ≤ 1000, post := fun g r => ∃ ds, r = .lst ds ∧ (ds.length : Int) ≤ g.2 ∧ ∀ d ∈ ds, isK g.1 d = true, s0 := fun _ => StOk, s1 := fun _ => StOk }
def sp_bad_row : SS := { α := Int, args := fun m => [.int m], pre := fun m => 1 ≤ m ∧ m ≤ 64, post := fun m r => isRow m r = false ∧ RowIn r, s0 := fun _ => StOk, s1 := fun _ => StOk }
/-! _law_lot -/
abbrev s_law_lot : Stmt := topS 46
abbrev n_law_lot : List Str := ["store", "many", "way", "lot", "kind"]
theorem sc_law_lot : FnScope n_law_lot ["store", "many"] (defScope s_law_lot) := ⟨rfl, rfl, rfl, by decide +kernel, rfl, by decide +kernel, by decide +kernel⟩
theorem ok_law_lot (T : Tx K mg) (h_law_take : Has P w K mg base "_law_take" 2 ["store", "many"] (spS K sp_take)) {f : Addr} {fd : FuncData} (F : Fd K "_law_lot" s_law_lot [] f fd) : FnOk P w K mg base (L2N.CX P w) 3 f fd ["store", "many"] (spS K sp_lot) := by
  refine fnS_ok F sc_law_lot sp_lot (fun _ => rfl) (by decide) fun cdv A outer s H E g p ss hr pre hs => ?_
  refine ⟨_, (ds_cons (ds_set (i := 2) sc_law_lot.nd (de_callS h_law_take hr (dv 0) (da_cons de_int da_nil)))
      (ds_cons (ds_if (dt_eq (dv 2) de_int)
      (ds_one (ds_ret (de_tup (da_cons (de_callS h_law_take hr (dv 0) (da_cons (dv 1) da_nil)) da_nil))))
      ds_nil)
      (ds_cons (ds_if (dt_eq (dv 2) de_int)
      (ds_one (ds_ret (de_tuprange T.b_tuple T.b_range (dv 1))))
      ds_nil)
      (ds_cons (ds_setLcO (j := 3) sc_law_lot.nd (di_range1 T.b_range (da_cons (dv 1) da_nil)) (blkOk_by (own := [("kind", 4)]) (N := n_law_lot) (sc := defScope s_law_lot) (by decide +kernel)) (fun _ _ _ _ _ _ _ => (dts_one (dt_eq (de_callS h_law_take hr (dv 0) (da_cons de_int da_nil)) de_int))) (fun _ _ _ _ _ _ _ => (dv 4)) (fun _ _ _ _ _ => pg_name (i := 4) sc_law_lot.nd rfl (Or.inl rfl)) (sw_true rfl rfl rfl (by decide +kernel)))
      (ds_cons (ds_if (dt_eq (de_len T.b_len (da_cons (dv 3) da_nil)) de_int)
      (ds_one (ds_setO (i := 3) sc_law_lot.nd (dn_lst (da_cons (de_callS h_law_take hr (dv 0) (da_cons (dv 1) da_nil)) da_nil))))
      ds_nil)
      (ds_one (ds_ret (de_tuple T.b_tuple (da_cons (dv 3) da_nil))))))))), ?_⟩
  change Int at g
  obtain ⟨m1, m2⟩ := pre
  change 1 ≤ g at m1
  change g ≤ 64 at m2
  refine ⟨(4 : Int), rfl, hs, tk (by omega), fun d s1 hd hs => ?_⟩
  obtain ⟨way, rfl, w0, w1⟩ := hd
  show if decide (way = 0) = true then _ else _
  refine ite2 (fun h => ?_) (fun h => ?_)
  · refine ⟨g, rfl, hs, tk (by omega), fun d s2 hd hs => ?_⟩
    obtain ⟨i, rfl, i0, i1⟩ := hd
    refine ⟨⟨[i], rfl, by simp, List.pairwise_singleton _ _, fun n hn => ?_⟩, s2, rfl, hs⟩
    rw [List.mem_singleton.mp hn]
    exact ⟨i0, by omega⟩
  · show if decide (way = 1) = true then _ else _
    refine ite2 (fun h => ?_) (fun h => ?_)
    · refine ⟨rgOk (by omega) (by omega), ⟨rgI g, by rw [rgD_ints], fun z => ?_, rgI_sorted g, fun n hn => rgI_mem hn⟩, s1, rfl, hs⟩
      have : (rgI g).length = g.toNat := by unfold rgI; rw [List.length_map, List.length_range]
      rw [z] at this
      simp at this
      omega
    · refine ⟨trivial, by decide, by decide, by omega, by omega, by show (g - 0).toNat ≤ 16777216; omega, fun k acc ρ => ∃ (s : List D) (ns : List Int) (l : Slot), ρ = [.own p s, .v (.int g), .v (.int way), l, .un] ∧ StOk s ∧ acc = ns.map D.int ∧ ns.Pairwise (· < ·) ∧ ∀ n ∈ ns, 0 ≤ n ∧ n < (k : Int), ?_, ?_, ?_, ?_⟩
      · exact ⟨s1, [], _, rfl, hs, rfl, List.Pairwise.nil, fun n hn => by simp at hn⟩
      · exact fun _ _ _ _ _ => trivial
      · rintro k d acc ρ hk rfl ⟨s, ns, l, rfl, hs, rfl, hp, hn⟩
        refine ⟨(2 : Int), rfl, hs, tk (by omega), fun d s2 hd hs => ?_⟩
        obtain ⟨i, rfl, i0, i1⟩ := hd
        show if decide (i = 1) = true then _ else _
        refine ite2 (fun h => ?_) (fun h => ?_)
        · refine ⟨s2, ns ++ [0 + (k : Int)], l, rfl, hs, by rw [List.map_append]; rfl, ?_, fun n hn' => ?_⟩
          · rw [List.pairwise_append]
            refine ⟨hp, List.pairwise_singleton _ _, fun a ha b hb => ?_⟩
            rw [List.mem_singleton.mp hb]
            have := hn a ha
            omega
          · rcases List.mem_append.mp hn' with h | h
            · have := hn n h
              omega
            · rw [List.mem_singleton.mp h]
              omega
        · exact ⟨s2, ns, l, rfl, hs, rfl, hp, fun n hn' => by have := hn n hn'; omega⟩
      · rintro acc ρ ⟨s, ns, l, rfl, hs, rfl, hp, hn⟩ q
        dsimp only
        refine seq_join (r1 := rIf _ _ _) (fun ρ => ∃ (s : List D) (q : Addr) (ns : List Int) (k : Slot), ρ = [.own p s, .v (.int g), .v (.int way), .own q (ns.map D.int), k] ∧ StOk s ∧ LotOk g ns) (fun ρ hJ => ?_) (fun R hR => ?_)
        · obtain ⟨s, q, ns, k, rfl, hs, hl⟩ := hJ
          exact ⟨⟨ns, rfl, hl⟩, s, rfl, hs⟩
        · show if decide (((ns.map D.int).length : Int) = 0) = true then _ else _
          refine ite2 (fun h => ?_) (fun h => ?_)
          · refine ⟨g, rfl, hs, tk (by omega), fun d s2 hd hs => ?_⟩
            obtain ⟨i, rfl, i0, i1⟩ := hd
            intro q2
            refine hR _ ⟨s2, q2, [i], _, rfl, hs, by simp, List.pairwise_singleton _ _, fun n hn => ?_⟩
            rw [List.mem_singleton.mp hn]
            exact ⟨i0, by omega⟩
          · refine hR _ ⟨s, q, ns, _, rfl, hs, fun z => h ?_, hp, fun n hn' => ?_⟩
            · rw [z]; rfl
            · have := hn n hn'
              have e : ((g - 0).toNat : Int) = g := by omega
              rw [e] at this
              exact this
theorem has_law_lot (T : Tx K mg) (h_law_take : Has P w K mg base "_law_take" 2 ["store", "many"] (spS K sp_take)) {f : Addr} {fd : FuncData} (F : Fd K "_law_lot" s_law_lot [] f fd) (gm : mg "_law_lot" = some (.ref f)) : Has P w K mg base "_law_lot" 3 ["store", "many"] (spS K sp_lot) := by
  exact has_of F gm (ok_law_lot T  h_law_take F) fun _ _ _ _ _ _ us hl => match us, hl with | [_, _], _ => rfl
theorem cut_to {ds : List D} {n : Int} (h : 0 ≤ n) : N.cutD ds none (some n) = ds.take n.toNat := by
  show (ds.drop 0).take ((if n < 0 then (n + (ds.length : Int)).toNat else min n.toNat ds.length) - 0) = ds.take n.toNat
  rw [if_neg (by omega), List.drop_zero, Nat.sub_zero, Nat.min_def]
  split
  · rfl
  · rw [List.take_of_length_le (Nat.le_refl _), List.take_of_length_le (by omega)]
theorem mem_flat {α : Type} {x : α} {ds : List α} {n : Nat} (h : x ∈ (List.replicate n ds).flatten) : x ∈ ds := by
  obtain ⟨l, hl, hx⟩ := List.mem_flatten.mp h
  rw [(List.mem_replicate.mp hl).2] at hx
  exact hx
theorem len_flat {α : Type} {ds : List α} : ∀ n : Nat, (List.replicate n ds).flatten.length = n * ds.length
  | 0 => by simp
  | n + 1 => by rw [List.replicate_succ, List.flatten_cons, List.length_append, len_flat n, Nat.succ_mul, Nat.add_comm]
/-! _law_row -/
abbrev s_law_row : Stmt := topS 48
abbrev n_law_row : List Str := ["store", "many", "top", "size", "way", "word", "pair", "k"]
theorem sc_law_row : FnScope n_law_row ["store", "many", "top"] (defScope s_law_row) := ⟨rfl, rfl, rfl, by decide +kernel, rfl, by decide +kernel, by decide +kernel⟩
theorem ok_law_row (T : Tx K mg) (h_law_edge : Has P w K mg base "_law_edge" 3 ["store", "low", "high"] (spS K sp_edge)) (h_law_take : Has P w K mg base "_law_take" 2 ["store", "many"] (spS K sp_take)) (h_law_pick : Has P w K mg base "_law_pick" 3 ["store", "things"] (spS K sp_pick)) {f : Addr} {fd : FuncData} (F : Fd K "_law_row" s_law_row [] f fd) : FnOk P w K mg base (L2N.CX P w) 4 f fd ["store", "many", "top"] (spS K sp_row) := by
  refine fnS_ok F sc_law_row sp_row (fun _ => rfl) (by decide) fun cdv A outer s H E g p ss hr pre hs => ?_
  refine ⟨_, (ds_cons (ds_set (i := 3) sc_law_row.nd (de_callS h_law_edge hr (dv 0) (da_cons de_int (da_cons (dv 2) da_nil))))
      (ds_cons (ds_set (i := 4) sc_law_row.nd (de_callS h_law_take (hr.mono (by decide : 2 ≤ 3)) (dv 0) (da_cons de_int da_nil)))
      (ds_cons (ds_if (dt_eq (dv 4) de_int)
      (ds_one (ds_ret (de_new (dn_rep (de_new (dn_lst (da_cons (de_callS h_law_take (hr.mono (by decide : 2 ≤ 3)) (dv 0) (da_cons (dv 1) da_nil)) da_nil))) (dv 3)))))
      ds_nil)
      (ds_cons (ds_if (dt_eq (dv 4) de_int)
      (ds_cons (ds_setLcO (j := 5) sc_law_row.nd (di_range1 T.b_range (da_cons (de_add de_int (de_callS h_law_take (hr.mono (by decide : 2 ≤ 3)) (dv 0) (da_cons de_int da_nil))) da_nil)) (blkOk_by (own := [("k", 7)]) (N := n_law_row) (sc := defScope s_law_row) (by decide +kernel)) (fun _ _ _ _ _ _ _ => dts_nil) (fun _ _ _ _ _ _ _ => (de_callS h_law_take (hr.mono (by decide : 2 ≤ 3)) (dv 0) (da_cons (dv 1) da_nil))) (fun _ _ _ _ _ => pg_name (i := 7) sc_law_row.nd rfl (Or.inl rfl)) (sw_true rfl rfl rfl (by decide +kernel)))
      (ds_lock 5 (ds_one (ds_ret (de_new (dn_slice (de_new (dn_rep (dv 5) (de_add (dv 3) de_int))) do_none (do_some (dv 3))))))))
      ds_nil)
      (ds_cons (ds_if (dt_eq (dv 4) de_int)
      (ds_cons (ds_set (i := 6) sc_law_row.nd (de_new (dn_lst (da_cons (de_callS h_law_take (hr.mono (by decide : 2 ≤ 3)) (dv 0) (da_cons (dv 1) da_nil)) (da_cons (de_callS h_law_take (hr.mono (by decide : 2 ≤ 3)) (dv 0) (da_cons (dv 1) da_nil)) da_nil)))))
      (ds_one (ds_ret (de_new (dn_lc sc_law_row.nd (di_range1 T.b_range (da_cons (dv 3) da_nil)) (blkOk_by (own := [("k", 7)]) (N := n_law_row) (sc := defScope s_law_row) (by decide +kernel)) (fun _ _ _ _ _ _ _ => dts_nil) (fun _ _ _ _ _ _ _ => (de_callS h_law_pick hr (dv 0) (da_cons (dv 6) da_nil))) (fun _ _ _ _ _ => pg_name (i := 7) sc_law_row.nd rfl (Or.inl rfl)))))))
      ds_nil)
      (ds_one (ds_ret (de_new (dn_lc sc_law_row.nd (di_range1 T.b_range (da_cons (dv 3) da_nil)) (blkOk_by (own := [("k", 7)]) (N := n_law_row) (sc := defScope s_law_row) (by decide +kernel)) (fun _ _ _ _ _ _ _ => dts_nil) (fun _ _ _ _ _ _ _ => (de_callS h_law_take (hr.mono (by decide : 2 ≤ 3)) (dv 0) (da_cons (dv 1) da_nil))) (fun _ _ _ _ _ => pg_name (i := 7) sc_law_row.nd rfl (Or.inl rfl))))))))))), ?_⟩
  obtain ⟨many, top⟩ := g
  obtain ⟨m1, m2, t1, t2⟩ := pre
  change 1 ≤ many at m1
  change many ≤ 64 at m2
  change 0 ≤ top at t1
  change top ≤ 1000 at t2
  refine ⟨(0, top), rfl, hs, ⟨t1, by show top - 0 + 1 < 2 ^ 1000; omega⟩, fun d s1 hd hs => ?_⟩
  obtain ⟨size, rfl, z0, z1⟩ := hd
  change 0 ≤ size at z0
  change size ≤ top at z1
  have step : ∀ {s : List D} {R : D → List D → Prop}, StOk s → (∀ d s', isK many d = true → StOk s' → R d s') → sp_take.s0 many s ∧ sp_take.pre many ∧ ∀ d s', sp_take.post many d → sp_take.s1 many s' → R d s' := fun hs h => ⟨hs, tk (by omega), fun d s' hd hs' => h d s' (isK_take m1 hd) hs'⟩
  refine ⟨(6 : Int), rfl, hs, tk (by omega), fun d s2 hd hs => ?_⟩
  obtain ⟨way, rfl, w0, w1⟩ := hd
  show if decide (way = 0) = true then _ else _
  refine ite2 (fun h => ?_) (fun h => ?_)
  · refine ⟨many, rfl, hs, tk (by omega), fun d s3 hd hs => ?_⟩
    have hd := isK_take m1 hd
    refine ⟨by omega, by omega, by show 1 * size.toNat ≤ 16777216; omega, ?_⟩
    refine ⟨⟨_, rfl, ?_, fun x hx => ?_⟩, s3, rfl, hs⟩
    · rw [len_flat]
      show ((size.toNat * 1 : Nat) : Int) ≤ top
      omega
    · rw [List.mem_singleton.mp (mem_flat hx)]
      exact hd
  · show if decide (way = 1) = true then _ else _
    refine ite2 (fun h => ?_) (fun h => ?_)
    · refine ⟨trivial, (4 : Int), rfl, hs, tk (by omega), fun d s3 hd hs => ?_⟩
      obtain ⟨i, rfl, i0, i1⟩ := hd
      refine ⟨by decide, by decide, by show -(2 ^ 62) ≤ 1 + i; omega, by show 1 + i < 2 ^ 62; omega, by show (1 + i - 0).toNat ≤ 16777216; omega, fun k acc ρ => ∃ (s : List D) (l : Slot) (l2 : Slot), ρ = [.own p s, .v (.int many), .v (.int top), .v (.int size), .v (.int way), l, l2, .un] ∧ StOk s ∧ acc.length = k ∧ ∀ x ∈ acc, isK many x = true, ?_, ?_, ?_, ?_⟩
      · exact ⟨s3, _, _, rfl, hs, rfl, fun n hn => by simp at hn⟩
      · exact fun _ _ _ _ _ => trivial
      · rintro k d acc ρ hk rfl ⟨s, l, l2, rfl, hs, hl, hn⟩
        refine ⟨many, rfl, hs, tk (by omega), fun d s4 hd hs => ?_⟩
        have hd := isK_take m1 hd
        refine ⟨s4, l, l2, rfl, hs, by rw [List.length_append, hl]; rfl, fun x hx => ?_⟩
        rcases List.mem_append.mp hx with h | h
        · exact hn x h
        · rw [List.mem_singleton.mp h]; exact hd
      · rintro acc ρ ⟨s, l, l2, rfl, hs, hl, hn⟩ q
        have hl : acc.length = (1 + i - 0).toNat := hl
        refine ⟨by show -(2 ^ 63) ≤ size + 1; omega, by show size + 1 < 2 ^ 63; omega, ?_, ?_⟩
        · show acc.length * (size + 1).toNat ≤ 16777216
          have h4 : acc.length ≤ 4 := by omega
          have h5 : (size + 1).toNat ≤ 1001 := by omega
          exact Nat.le_trans (Nat.mul_le_mul h4 h5) (by decide)
        · refine ⟨_, rfl, ⟨_, rfl, ?_, fun x hx => ?_⟩, s, rfl, hs⟩
          · rw [cut_to z0, List.length_take]
            show ((min size.toNat _ : Nat) : Int) ≤ top
            omega
          · rw [cut_to z0] at hx
            exact hn x (mem_flat (List.mem_of_mem_take hx))
    · show if decide (way = 2) = true then _ else _
      refine ite2 (fun h => ?_) (fun h => ?_)
      · refine ⟨many, rfl, hs, tk (by omega), fun d s3 hd hs => ?_⟩
        have hd := isK_take m1 hd
        refine ⟨many, rfl, hs, tk (by omega), fun d2 s4 hd2 hs => ?_⟩
        have hd2 := isK_take m1 hd2
        refine ⟨trivial, by decide, by decide, by omega, by omega, by show (size - 0).toNat ≤ 16777216; omega, fun k acc ρ => ∃ (s : List D) (l : Slot), ρ = [.own p s, .v (.int many), .v (.int top), .v (.int size), .v (.int way), l, .v (.lst [d, d2]), .un] ∧ StOk s ∧ acc.length = k ∧ ∀ x ∈ acc, isK many x = true, ?_, ?_, ?_, ?_⟩
        · exact ⟨s4, _, rfl, hs, rfl, fun n hn => by simp at hn⟩
        · exact fun _ _ _ _ _ => trivial
        · rintro k _ acc ρ hk rfl ⟨s, l, rfl, hs, hl, hn⟩
          refine ⟨⟨false, [d, d2]⟩, rfl, hs, ⟨by simp, by simp⟩, fun x s5 hx hs => ?_⟩
          refine ⟨s5, l, rfl, hs, by rw [List.length_append, hl]; rfl, fun y hy => ?_⟩
          rcases List.mem_append.mp hy with h | h
          · exact hn y h
          · rw [List.mem_singleton.mp h]
            rcases List.mem_cons.mp (show x ∈ [d, d2] from hx) with h | h
            · rw [h]; exact hd
            · rw [List.mem_singleton.mp h]; exact hd2
        · rintro acc ρ ⟨s, l, rfl, hs, hl, hn⟩
          refine ⟨⟨acc, rfl, ?_, hn⟩, s, rfl, hs⟩
          rw [hl]
          show (((size - 0).toNat : Nat) : Int) ≤ top
          omega
      · refine ⟨trivial, by decide, by decide, by omega, by omega, by show (size - 0).toNat ≤ 16777216; omega, fun k acc ρ => ∃ (s : List D) (l : Slot) (l2 : Slot), ρ = [.own p s, .v (.int many), .v (.int top), .v (.int size), .v (.int way), l, l2, .un] ∧ StOk s ∧ acc.length = k ∧ ∀ x ∈ acc, isK many x = true, ?_, ?_, ?_, ?_⟩
        · exact ⟨s2, _, _, rfl, hs, rfl, fun n hn => by simp at hn⟩
        · exact fun _ _ _ _ _ => trivial
        · rintro k _ acc ρ hk rfl ⟨s, l, l2, rfl, hs, hl, hn⟩
          refine ⟨many, rfl, hs, tk (by omega), fun x s5 hx hs => ?_⟩
          have hx := isK_take m1 hx
          refine ⟨s5, l, l2, rfl, hs, by rw [List.length_append, hl]; rfl, fun y hy => ?_⟩
          rcases List.mem_append.mp hy with h | h
          · exact hn y h
          · rw [List.mem_singleton.mp h]; exact hx
        · rintro acc ρ ⟨s, l, l2, rfl, hs, hl, hn⟩
          refine ⟨⟨acc, rfl, ?_, hn⟩, s, rfl, hs⟩
          rw [hl]
          show (((size - 0).toNat : Nat) : Int) ≤ top
          omega
theorem has_law_row (T : Tx K mg) (h_law_edge : Has P w K mg base "_law_edge" 3 ["store", "low", "high"] (spS K sp_edge)) (h_law_take : Has P w K mg base "_law_take" 2 ["store", "many"] (spS K sp_take)) (h_law_pick : Has P w K mg base "_law_pick" 3 ["store", "things"] (spS K sp_pick)) {f : Addr} {fd : FuncData} (F : Fd K "_law_row" s_law_row [] f fd) (gm : mg "_law_row" = some (.ref f)) : Has P w K mg base "_law_row" 4 ["store", "many", "top"] (spS K sp_row) := by
  exact has_of F gm (ok_law_row T  h_law_edge h_law_take h_law_pick F) fun _ _ _ _ _ _ us hl => match us, hl with | [_, _, _], _ => rfl
theorem noNums_bad {m : Int} {v : D} (h : v ∈ noNums) : isK m v = false ∧ (ty7 v).isSome = true := by
  simp only [noNums, List.mem_cons, List.not_mem_nil, or_false] at h
  rcases h with rfl | rfl | rfl | rfl | rfl | rfl | rfl | rfl | rfl | rfl | rfl | rfl <;> exact ⟨rfl, rfl⟩
theorem out_bad {m : Int} {v : D} (h : Out 0 (m - 1) v) : isK m v = false ∧ (ty7 v).isSome = true := by
  rcases h with h | ⟨i, rfl, h⟩
  · exact noNums_bad h
  · exact ⟨decide_eq_false (by omega), rfl⟩
theorem noLists_bad {m : Int} {v : D} (h : v ∈ noLists) : isRow m v = false ∧ RowIn v := by
  simp only [noLists, List.mem_cons, List.not_mem_nil, or_false] at h
  rcases h with rfl | rfl | rfl | rfl | rfl | rfl | rfl | rfl | rfl | rfl | rfl | rfl <;> exact ⟨rfl, rfl, fun ds e => by cases e⟩
theorem isK_ty {m : Int} {d : D} (h : isK m d = true) : (ty7 d).isSome = true := by
  obtain ⟨i, rfl, _⟩ := isK_el h
  rfl
theorem row_bad {m : Int} {ds : List D} {x : D} (h : x ∈ ds) (hx : isK m x = false) : isRow m (.lst ds) = false := by
  show (decide (ds.length ≤ 200) && ds.all (isK m)) = false
  have : ds.all (isK m) = false := by
    rw [List.all_eq_false]
    exact ⟨x, h, by rw [hx]; exact Bool.false_ne_true⟩
  rw [this, Bool.and_false]
theorem rowIn_lst {ds : List D} (h : ∀ x ∈ ds, (ty7 x).isSome = true) : RowIn (.lst ds) := ⟨rfl, fun es e x hx => by cases e; exact h x hx⟩
/-! _law_bad_row -/
abbrev s_law_bad_row : Stmt := topS 50
abbrev n_law_bad_row : List Str := ["store", "many", "row", "way"]
theorem sc_law_bad_row : FnScope n_law_bad_row ["store", "many"] (defScope s_law_bad_row) := ⟨rfl, rfl, rfl, by decide +kernel, rfl, by decide +kernel, by decide +kernel⟩
theorem ok_law_bad_row (T : Tx K mg) (h_law_row : Has P w K mg base "_law_row" 4 ["store", "many", "top"] (spS K sp_row)) (h_law_take : Has P w K mg base "_law_take" 2 ["store", "many"] (spS K sp_take)) (h_law_no_list : Has P w K mg base "_law_no_list" 4 ["store"] (spS K sp_no_list)) (h_law_bent : Has P w K mg base "_law_bent" 6 ["store", "row", "low", "high"] (spS K sp_bent)) {f : Addr} {fd : FuncData} (F : Fd K "_law_bad_row" s_law_bad_row [] f fd) : FnOk P w K mg base (L2N.CX P w) 7 f fd ["store", "many"] (spS K sp_bad_row) := by
  refine fnS_ok F sc_law_bad_row sp_bad_row (fun _ => rfl) (by decide) fun cdv A outer s H E g p ss hr pre hs => ?_
  refine ⟨_, (ds_cons (ds_set (i := 2) sc_law_bad_row.nd (de_callS h_law_row (hr.mono (by decide : 4 ≤ 6)) (dv 0) (da_cons (dv 1) (da_cons de_int da_nil))))
      (ds_cons (ds_set (i := 3) sc_law_bad_row.nd (de_callS h_law_take (hr.mono (by decide : 2 ≤ 6)) (dv 0) (da_cons de_int da_nil)))
      (ds_cons (ds_if (dt_eq (dv 3) de_int)
      (ds_one (ds_ret (de_callS h_law_no_list (hr.mono (by decide : 4 ≤ 6)) (dv 0) da_nil)))
      ds_nil)
      (ds_cons (ds_if (dt_eq (dv 3) de_int)
      (ds_one (ds_ret (de_new (dn_rep (de_new (dn_lst (da_cons (de_callS h_law_take (hr.mono (by decide : 2 ≤ 6)) (dv 0) (da_cons (dv 1) da_nil)) da_nil))) de_int))))
      ds_nil)
      (ds_cons (ds_if (dt_eq (dv 3) de_int)
      (ds_one (ds_ret (de_new (dn_lst (da_cons (dv 2) da_nil)))))
      ds_nil)
      (ds_cons (ds_if (dt_eq (dv 3) de_int)
      (ds_one (ds_ret (de_new (dn_cat (dv 2) (de_new (dn_lst (da_cons (dv 1) da_nil)))))))
      ds_nil)
      (ds_one (ds_ret (de_callS h_law_bent hr (dv 0) (da_cons (dv 2) (da_cons de_int (da_cons (de_sub (dv 1) de_int) da_nil)))))))))))), ?_⟩
  change Int at g
  obtain ⟨m1, m2⟩ := pre
  change 1 ≤ g at m1
  change g ≤ 64 at m2
  refine ⟨(g, 12), rfl, hs, ⟨m1, m2, (by decide : (0 : Int) ≤ 12), (by decide : (12 : Int) ≤ 1000)⟩, fun d s1 hd hs => ?_⟩
  obtain ⟨ds, rfl, hl, hd⟩ := hd
  change (ds.length : Int) ≤ 12 at hl
  refine ⟨(6 : Int), rfl, hs, tk (by omega), fun d s2 hw hs => ?_⟩
  obtain ⟨way, rfl, w0, w1⟩ := hw
  show if decide (way = 0) = true then _ else _
  refine ite2 (fun h => ?_) (fun h => ?_)
  · exact ⟨(), rfl, hs, trivial, fun d s3 hd hs => ⟨noLists_bad hd, s3, rfl, hs⟩⟩
  · show if decide (way = 1) = true then _ else _
    refine ite2 (fun h => ?_) (fun h => ?_)
    · refine ⟨g, rfl, hs, tk (by omega), fun x s3 hx hs => ?_⟩
      have hx := isK_take m1 hx
      refine ⟨by decide, by decide, (by decide : 1 * 201 ≤ 16777216), ⟨?_, rowIn_lst fun y hy => ?_⟩, s3, rfl, hs⟩
      · show (decide ((List.replicate 201 [x]).flatten.length ≤ 200) && (List.replicate 201 [x]).flatten.all (isK g)) = false
        rw [len_flat]
        rfl
      · rw [List.mem_singleton.mp (mem_flat hy)]
        exact isK_ty hx
    · show if decide (way = 2) = true then _ else _
      refine ite2 (fun h => ?_) (fun h => ?_)
      · exact ⟨⟨row_bad List.mem_cons_self rfl, rowIn_lst fun y hy => by rw [List.mem_singleton.mp hy]; rfl⟩, s2, rfl, hs⟩
      · show if decide (way = 3) = true then _ else _
        refine ite2 (fun h => ?_) (fun h => ?_)
        · refine ⟨by show ds.length + 1 ≤ 16777216; omega, ⟨row_bad (x := .int g) (List.mem_append_right _ List.mem_cons_self) (decide_eq_false (by omega)), rowIn_lst fun y hy => ?_⟩, s2, rfl, hs⟩
          rcases List.mem_append.mp hy with h | h
          · exact isK_ty (hd y h)
          · rw [List.mem_singleton.mp h]; rfl
        · refine ⟨(false, ds, 0, g - 1), rfl, hs, ⟨by show (0 : Int) ≤ g - 1; omega, by show ds.length ≤ 16777216; omega⟩, fun d s3 hb hs => ⟨?_, s3, rfl, hs⟩⟩
          obtain ⟨ds', v, rfl, hv, hc⟩ := hb
          obtain ⟨v1, v2⟩ := out_bad hv
          rcases hc with ⟨_, rfl⟩ | ⟨i, hi, rfl⟩
          · exact ⟨row_bad List.mem_cons_self v1, rowIn_lst fun y hy => by rw [List.mem_singleton.mp hy]; exact v2⟩
          · refine ⟨row_bad (x := v) (List.mem_iff_getElem?.mpr ⟨i, List.getElem?_set_self hi⟩) v1, rowIn_lst fun y hy => ?_⟩
            rcases List.mem_or_eq_of_mem_set hy with h | h
            · exact isK_ty (hd y h)
            · rw [h]; exact v2
theorem has_law_bad_row (T : Tx K mg) (h_law_row : Has P w K mg base "_law_row" 4 ["store", "many", "top"] (spS K sp_row)) (h_law_take : Has P w K mg base "_law_take" 2 ["store", "many"] (spS K sp_take)) (h_law_no_list : Has P w K mg base "_law_no_list" 4 ["store"] (spS K sp_no_list)) (h_law_bent : Has P w K mg base "_law_bent" 6 ["store", "row", "low", "high"] (spS K sp_bent)) {f : Addr} {fd : FuncData} (F : Fd K "_law_bad_row" s_law_bad_row [] f fd) (gm : mg "_law_bad_row" = some (.ref f)) : Has P w K mg base "_law_bad_row" 7 ["store", "many"] (spS K sp_bad_row) := by
  exact has_of F gm (ok_law_bad_row T  h_law_row h_law_take h_law_no_list h_law_bent F) fun _ _ _ _ _ _ us hl => match us, hl with | [_, _], _ => rfl
end
end Q
/-! C3 -/
set_option Elab.async false
set_option linter.all false
set_option maxRecDepth 100000
set_option maxHeartbeats 8000000
namespace Q
open PySem PySem.Spec PyProof.Rows L2 N
section
variable {P : Program} {w : World} {K : PySem.W.Frag} {mg : Str → Option Value} {base : Heap}
theorem fn_none {ps : List Str} {k : Nat} {f : Addr} {fd : FuncData} {sp : Sp} (h : ∀ vs H Q E, ¬ sp vs H Q E) : FnOk P w K mg base (L2N.CX P w) k f fd ps sp := ⟨fun vs H Q E z => absurd z (h vs H Q E), fun A outer s H args us vs Q E _ _ _ _ z => absurd z (h vs H Q E)⟩
/-! what the law takes apart and puts together -/
mutual
def sameOk : D → Bool
  | .non => true
  | .bl _ => true
  | .int _ => true
  | .str _ => true
  | .tup ds => sameOkL ds
  | .lst ds => sameOkL ds
  | .dic _ => false
  | .obj _ => false
  | .ins _ _ _ => false
  | .ty _ => false
def sameOkL : List D → Bool
  | [] => true
  | d :: ds => sameOk d && sameOkL ds
end
mutual
def wt : D → Nat
  | .tup ds => 1 + wtL ds
  | .lst ds => 1 + wtL ds
  | .non => 1
  | .bl _ => 1
  | .int _ => 1
  | .str _ => 1
  | .dic _ => 1
  | .obj _ => 1
  | .ins _ _ _ => 1
  | .ty _ => 1
def wtL : List D → Nat
  | [] => 0
  | d :: ds => wt d + wtL ds
end
theorem wt_pos (d : D) : 1 ≤ wt d := by cases d <;> simp only [wt] <;> omega
theorem wtL_len : ∀ ds : List D, ds.length ≤ wtL ds
  | [] => Nat.le_refl _
  | d :: ds => by
    have := wtL_len ds
    have := wt_pos d
    simp only [List.length_cons, wtL]
    omega
theorem wtL_app : ∀ as bs : List D, wtL (as ++ bs) = wtL as + wtL bs
  | [], bs => by simp [wtL]
  | a :: as, bs => by simp only [List.cons_append, wtL, wtL_app as bs]; omega
theorem sameOkL_mem : ∀ {ds : List D}, sameOkL ds = true ↔ ∀ d ∈ ds, sameOk d = true
  | [] => by simp [sameOkL]
  | d :: ds => by
    rw [sameOkL, Bool.and_eq_true, sameOkL_mem (ds := ds), List.forall_mem_cons]
theorem sameOk_ints (ns : List Int) : sameOkL (ns.map D.int) = true := sameOkL_mem.mpr fun d hd => by
  obtain ⟨n, _, rfl⟩ := List.mem_map.mp hd
  rfl
theorem wt_ints : ∀ ns : List Int, wtL (ns.map D.int) = ns.length
  | [] => rfl
  | n :: ns => by rw [List.map_cons, wtL, wt_ints ns, wt, List.length_cons]; omega
def sp_same : FS := { α := D, args := fun d => [d, d], pre := fun d => sameOk d = true ∧ wt d ≤ 1000000, post := fun _ r => r = .bl true }
def pr2 (d : D) : D := .tup [d, d]
theorem take_one {α : Type} (l : List α) (k : Nat) (h : k < l.length) : l.take (k + 1) = l.take k ++ [l[k]] := by rw [List.take_add_one, List.getElem?_eq_getElem h]; rfl
theorem last_of {α : Type} {l : List α} (h : 0 < l.length) : ∃ r x, l = r ++ [x] := ⟨l.dropLast, l.getLast (List.length_pos_iff.mp h), (List.dropLast_concat_getLast _).symm⟩
theorem at_last {α : Type} (r : List α) (x : α) : (r ++ [x])[(r ++ [x]).length - 1]? = some x := by simp
/-! _law_same -/
abbrev s_law_same : Stmt := topS 51
abbrev n_law_same : List Str := ["actual", "due", "pairs", "told", "asked", "k"]
theorem sc_law_same : FnScope n_law_same ["actual", "due"] (defScope s_law_same) := ⟨rfl, rfl, rfl, by decide +kernel, rfl, by decide +kernel, by decide +kernel⟩
theorem ok_law_same (T : Tx K mg) {f : Addr} {fd : FuncData} (F : Fd K "_law_same" s_law_same [] f fd) : FnOk P w K mg base (L2N.CX P w) 1 f fd ["actual", "due"] (spF K sp_same) := by
  refine fn_ok F sc_law_same sp_same (fun _ => rfl) fun cdv A outer s H E g hr pre hx => ?_
  refine ⟨_, (ds_cons (ds_setO (i := 2) sc_law_same.nd (dn_lst (da_cons (de_tup (da_cons (dv 0) (da_cons (dv 1) da_nil))) da_nil)))
      (ds_cons (ds_while (passes_of rfl) (dt_gt (de_len T.b_len (da_cons (dv 2) da_nil)) de_int)
      (ds_cons (ds_tup2 (i := 3) (j := 4) sc_law_same.nd (de_pop (dv 2)))
      (ds_one (ds_if ((dw_or (dt_isN (dv 4)) (dw_or (dt_isB (dv 4)) (dw_or1 (dt_isB (dv 4)))))).dt
      (ds_cons (ds_if ((dw_and (dt_not (dt_val (de_isi T.b_isinstance (da_cons (dv 3) (da_cons (de_ty T.b_bool bt_bool) da_nil))))) (dw_and1 (dt_notN (dv 3))))).dt
      (ds_one (ds_ret de_bl))
      ds_nil)
      (ds_one (ds_if ((dw_or (dt_ne (de_isN (dv 3)) (de_isN (dv 4))) (dw_or1 (dt_ne (de_isB (dv 3)) (de_isB (dv 4)))))).dt
      (ds_one (ds_ret de_bl))
      ds_nil)))
      (ds_one (ds_if (dt_val (de_isi T.b_isinstance (da_cons (dv 4) (da_cons (de_ty T.b_int boot_int) da_nil))))
      (ds_one (ds_if ((dw_or (dt_not (dt_val (de_isi T.b_isinstance (da_cons (dv 3) (da_cons (de_ty T.b_int boot_int) da_nil))))) (dw_or (dt_val (de_isi T.b_isinstance (da_cons (dv 3) (da_cons (de_ty T.b_bool bt_bool) da_nil)))) (dw_or1 (dt_ne (dv 3) (dv 4)))))).dt
      (ds_one (ds_ret de_bl))
      ds_nil))
      (ds_one (ds_if (dt_val (de_isi T.b_isinstance (da_cons (dv 4) (da_cons (de_ty T.b_str bt_str) da_nil))))
      (ds_one (ds_if ((dw_or (dt_not (dt_val (de_isi T.b_isinstance (da_cons (dv 3) (da_cons (de_ty T.b_str bt_str) da_nil))))) (dw_or1 (dt_ne (dv 3) (dv 4))))).dt
      (ds_one (ds_ret de_bl))
      ds_nil))
      (ds_one (ds_if (dt_val (de_isi2 T.b_isinstance (da_cons (dv 4) (da_cons (de_tup (da_cons (de_ty T.b_list bt_list) (da_cons (de_ty T.b_tuple bt_tuple) da_nil))) da_nil))))
      (ds_cons (ds_if ((dw_or (dt_not (dt_val (de_isi2 T.b_isinstance (da_cons (dv 3) (da_cons (de_tup (da_cons (de_ty T.b_list bt_list) (da_cons (de_ty T.b_tuple bt_tuple) da_nil))) da_nil))))) (dw_or1 (dt_ne (de_isi T.b_isinstance (da_cons (dv 3) (da_cons (de_ty T.b_list bt_list) da_nil))) (de_isi T.b_isinstance (da_cons (dv 4) (da_cons (de_ty T.b_list bt_list) da_nil))))))).dt
      (ds_one (ds_ret de_bl))
      ds_nil)
      (ds_cons (ds_if (dt_ne (de_len T.b_len (da_cons (dv 3) da_nil)) (de_len T.b_len (da_cons (dv 4) da_nil)))
      (ds_one (ds_ret de_bl))
      ds_nil)
      (ds_one (ds_for (passes_of rfl) (di_range1 T.b_range (da_cons (de_len T.b_len (da_cons (dv 4) da_nil)) da_nil)) (dg 5 sc_law_same.nd)
      (ds_one (ds_expr (de_append (dv 2) (de_tup (da_cons (de_ix (dv 3) (dv 5)) (da_cons (de_ix (dv 4) (dv 5)) da_nil))))))))))
      (ds_one (ds_ret de_bl))))))))))))
      (ds_one (ds_ret de_bl)))), ?_⟩
  change D at g
  obtain ⟨h1, h2⟩ := pre
  intro q
  dsimp only
  refine ⟨fun m ρ => ∃ (st : List D) (a b t1 t2 kk : Slot), ρ = [a, b, .own q (st.map pr2), t1, t2, kk] ∧ (∀ d ∈ st, sameOk d = true) ∧ wtL st = m ∧ m ≤ 1000000, ⟨wt g, [g], _, _, _, _, _, rfl, ?_, ?_, h2⟩, ?_⟩
  · intro d hd
    rw [List.mem_singleton.mp hd]
    exact h1
  · simp [wtL]
  rintro m ρ ⟨st, a, b, t1, t2, kk, rfl, hst, hm, hm2⟩
  show if decide ((0 : Int) < ((st.map pr2).length : Nat)) = true then _ else _
  refine ite2 (fun h => ?_) (fun h => rfl)
  have hl : 0 < st.length := by
    have := of_decide_eq_true h
    rw [List.length_map] at this
    omega
  obtain ⟨r, x, rfl⟩ := last_of hl
  refine ⟨pr2 x, ?_, ?_⟩
  · rw [List.map_append, List.map_singleton]
    exact at_last _ _
  have ed : ((r ++ [x]).map pr2).dropLast = r.map pr2 := by rw [List.map_append, List.map_singleton, List.dropLast_concat]
  rw [ed]
  have hr' : ∀ d ∈ r, sameOk d = true := fun d hd => hst d (List.mem_append_left _ hd)
  have hx : sameOk x = true := hst x (List.mem_append_right _ List.mem_cons_self)
  have hw : wtL r + wt x = m := by rw [← hm, wtL_app]; simp [wtL]
  have hp := wt_pos x
  have next : ∀ {a b t1 t2 kk : Slot}, ∃ m', m' < m ∧ ∃ (st : List D) (a' b' t1' t2' kk' : Slot), [a, b, .own q (r.map pr2), t1, t2, kk] = [a', b', Slot.own q (st.map pr2), t1', t2', kk'] ∧ (∀ d ∈ st, sameOk d = true) ∧ wtL st = m' ∧ m' ≤ 1000000 := fun {a b t1 t2 kk} => ⟨wtL r, by omega, r, _, _, _, _, _, rfl, hr', rfl, by omega⟩
  cases x with
  | non => exact next
  | bl k => cases k <;> exact next
  | int i =>
    show if (!decide (i = i)) = true then _ else _
    rw [if_neg (by simp)]
    exact next
  | str i =>
    show if (!decide (i = i)) = true then _ else _
    rw [if_neg (by simp)]
    exact next
  | tup ds =>
    have hds : sameOkL ds = true := hx
    have hwd : wt (.tup ds) = 1 + wtL ds := by simp only [wt]
    have hln := wtL_len ds
    have hrn := wtL_len r
    have eN : (((ds.length : Nat) : Int) - 0).toNat = ds.length := by omega
    show if (!decide (((ds.length : Nat) : Int) = ((ds.length : Nat) : Int))) = true then _ else _
    rw [if_neg (by simp)]
    refine ⟨by decide, by decide, by show -(2 ^ 62) ≤ ((ds.length : Nat) : Int); omega, by show ((ds.length : Nat) : Int) < 2 ^ 62; omega, fun k ρ => ∃ (a b kk : Slot), ρ = [a, b, .own q ((r ++ ds.take k).map pr2), .v (.tup ds), .v (.tup ds), kk], ⟨_, _, _, by rw [List.take_zero, List.append_nil]; rfl⟩, fun _ _ _ _ => trivial, ?_, ?_⟩
    · rintro k _ ρ hk rfl ⟨a, b, kk, rfl⟩
      have hk : k < ds.length := by
        have hk : k < (((ds.length : Nat) : Int) - 0).toNat := hk
        omega
      have e1 : atI ds (0 + (k : Int)) = some ds[k] := by
        rw [Int.zero_add]
        unfold atI
        rw [ixN_nat (by omega) (by omega), Int.toNat_natCast]
        exact List.getElem?_eq_getElem hk
      refine ⟨_, e1, _, e1, ?_, a, b, .v (.int (0 + (k : Int))), ?_⟩
      · show ((r ++ ds.take k).map pr2).length < 16777216
        rw [List.length_map, List.length_append, List.length_take]
        omega
      · have em : (r ++ ds.take (k + 1)).map pr2 = (r ++ ds.take k).map pr2 ++ [pr2 ds[k]] := by rw [take_one ds k hk, ← List.append_assoc, List.map_append (l₁ := r ++ ds.take k)]; rfl
        rw [em]
        rfl
    · rintro ρ ⟨a, b, kk, rfl⟩
      refine ⟨wtL (r ++ ds), by rw [wtL_app]; omega, r ++ ds, a, b, .v (.tup ds), .v (.tup ds), kk, ?_, fun d hd => ?_, rfl, by rw [wtL_app]; omega⟩
      · rw [show ds.take (((ds.length : Nat) : Int) - 0).toNat = ds from by rw [eN, List.take_length]]
      · rcases List.mem_append.mp hd with h | h
        · exact hr' d h
        · exact sameOkL_mem.mp hds d h
  | lst ds =>
    have hds : sameOkL ds = true := hx
    have hwd : wt (.lst ds) = 1 + wtL ds := by simp only [wt]
    have hln := wtL_len ds
    have hrn := wtL_len r
    have eN : (((ds.length : Nat) : Int) - 0).toNat = ds.length := by omega
    show if (!decide (((ds.length : Nat) : Int) = ((ds.length : Nat) : Int))) = true then _ else _
    rw [if_neg (by simp)]
    refine ⟨by decide, by decide, by show -(2 ^ 62) ≤ ((ds.length : Nat) : Int); omega, by show ((ds.length : Nat) : Int) < 2 ^ 62; omega, fun k ρ => ∃ (a b kk : Slot), ρ = [a, b, .own q ((r ++ ds.take k).map pr2), .v (.lst ds), .v (.lst ds), kk], ⟨_, _, _, by rw [List.take_zero, List.append_nil]; rfl⟩, fun _ _ _ _ => trivial, ?_, ?_⟩
    · rintro k _ ρ hk rfl ⟨a, b, kk, rfl⟩
      have hk : k < ds.length := by
        have hk : k < (((ds.length : Nat) : Int) - 0).toNat := hk
        omega
      have e1 : atI ds (0 + (k : Int)) = some ds[k] := by
        rw [Int.zero_add]
        unfold atI
        rw [ixN_nat (by omega) (by omega), Int.toNat_natCast]
        exact List.getElem?_eq_getElem hk
      refine ⟨_, e1, _, e1, ?_, a, b, .v (.int (0 + (k : Int))), ?_⟩
      · show ((r ++ ds.take k).map pr2).length < 16777216
        rw [List.length_map, List.length_append, List.length_take]
        omega
      · have em : (r ++ ds.take (k + 1)).map pr2 = (r ++ ds.take k).map pr2 ++ [pr2 ds[k]] := by rw [take_one ds k hk, ← List.append_assoc, List.map_append (l₁ := r ++ ds.take k)]; rfl
        rw [em]
        rfl
    · rintro ρ ⟨a, b, kk, rfl⟩
      refine ⟨wtL (r ++ ds), by rw [wtL_app]; omega, r ++ ds, a, b, .v (.lst ds), .v (.lst ds), kk, ?_, fun d hd => ?_, rfl, by rw [wtL_app]; omega⟩
      · rw [show ds.take (((ds.length : Nat) : Int) - 0).toNat = ds from by rw [eN, List.take_length]]
      · rcases List.mem_append.mp hd with h | h
        · exact hr' d h
        · exact sameOkL_mem.mp hds d h
  | _ => cases hx
theorem has_law_same (T : Tx K mg) {f : Addr} {fd : FuncData} (F : Fd K "_law_same" s_law_same [] f fd) (gm : mg "_law_same" = some (.ref f)) : Has P w K mg base "_law_same" 1 ["actual", "due"] (spF K sp_same) := by
  exact has_of F gm (ok_law_same T   F) fun _ _ _ _ _ _ us hl => match us, hl with | [_, _], _ => rfl
end
end Q
/-! C4 -/
set_option Elab.async false
set_option linter.all false
set_option maxRecDepth 100000
set_option maxHeartbeats 8000000
namespace Q
open PySem PySem.Spec PyProof.Rows L2 N
section
variable {P : Program} {w : World} {K : PySem.W.Frag} {mg : Str → Option Value} {base : Heap}
def inB (low high : Int) : D → Bool
  | .int i => decide (low ≤ i ∧ i ≤ high)
  | _ => false
def sp_number_in : FS := { α := D × Int × Int, args := fun g => [g.1, .int g.2.1, .int g.2.2], pre := fun g => (ty7 g.1).isSome = true, post := fun g r => r = .bl (inB g.2.1 g.2.2 g.1) }
def sp_tuple_of_kinds : FS := { α := List Int × Int × Int × Int, args := fun g => [.tup (g.1.map D.int), .int g.2.1, .int g.2.2.1, .int g.2.2.2], pre := fun g => g.2.2.1 ≤ (g.1.length : Nat) ∧ (g.1.length : Nat) ≤ g.2.2.2 ∧ ∀ n ∈ g.1, 0 ≤ n ∧ n ≤ g.2.1 - 1, post := fun _ r => r = .bl true }
def sp_refused : FS := { α := Str × D, args := fun g => [.tup [.str "raised", .lst [.str g.1], g.2], .str g.1, g.2], pre := fun g => sameOk g.2 = true ∧ wt g.2 ≤ 1000000 ∧ g.1 ≠ "Gains" ∧ SeqAt.shaped (.list [.str g.1]) = true, post := fun _ r => r = .bl true }
/-! _law_refused -/
abbrev s_law_refused : Stmt := topS 53
abbrev n_law_refused : List Str := ["answer", "name", "value"]
theorem sc_law_refused : FnScope n_law_refused ["answer", "name", "value"] (defScope s_law_refused) := ⟨rfl, rfl, rfl, by decide +kernel, rfl, by decide +kernel, by decide +kernel⟩
theorem ok_law_refused (T : Tx K mg) (h_law_same : Has P w K mg base "_law_same" 1 ["actual", "due"] (spF K sp_same)) {f : Addr} {fd : FuncData} (F : Fd K "_law_refused" s_law_refused [] f fd) : FnOk P w K mg base (L2N.CX P w) 2 f fd ["answer", "name", "value"] (spF K sp_refused) := by
  refine fn_ok F sc_law_refused sp_refused (fun _ => rfl) fun cdv A outer s H E g hr pre hx => ?_
  refine ⟨_, (ds_cons (ds_if ((dw_or (dt_ne (de_ix (dv 0) de_int) de_str) (dw_or1 (dt_neD hr (de_ix (dv 0) de_int) (de_new (dn_lst (da_cons (dv 1) da_nil))))))).dt
      (ds_one (ds_ret de_bl))
      ds_nil)
      (ds_one (ds_ret (de_or (de_eq (dv 1) de_str) (de_one (de_call h_law_same hr (da_cons (de_ix (dv 0) de_int) (da_cons (dv 2) da_nil)))))))), ?_⟩
  obtain ⟨nm, v⟩ := g
  obtain ⟨h1, h2, h3, h4⟩ := pre
  refine ⟨_, rfl, ?_⟩
  refine ⟨_, rfl, .list [.str nm], .list [.str nm], rfl, rfl, h4, h4, ?_⟩
  have e : PyData.eqv (.list [.str nm]) (.list [.str nm]) = true := by simp [PyData.eqv, PyData.eqvAll]
  show if (!PyData.eqv (.list [.str nm]) (.list [.str nm])) = true then _ else _
  rw [if_neg (by rw [e]; decide)]
  show if decide (nm = "Gains") = true then _ else _
  rw [if_neg (by simpa using h3)]
  refine ⟨v, rfl, v, rfl, ⟨h1, h2⟩, fun r hr => ?_, fun _ h => h.elim⟩
  have hr : r = .bl true := hr
  subst hr
  exact rfl
theorem has_law_refused (T : Tx K mg) (h_law_same : Has P w K mg base "_law_same" 1 ["actual", "due"] (spF K sp_same)) {f : Addr} {fd : FuncData} (F : Fd K "_law_refused" s_law_refused [] f fd) (gm : mg "_law_refused" = some (.ref f)) : Has P w K mg base "_law_refused" 2 ["answer", "name", "value"] (spF K sp_refused) := by
  exact has_of F gm (ok_law_refused T  h_law_same F) fun _ _ _ _ _ _ us hl => match us, hl with | [_, _, _], _ => rfl
/-! lists and tuples made anew -/
mutual
def shp : D → Int → D
  | .lst ds, w => if w % 2 = 0 then .lst (shpL ds (w / 2)) else .tup (shpL ds (w / 2))
  | .tup ds, w => if w % 2 = 0 then .lst (shpL ds (w / 2)) else .tup (shpL ds (w / 2))
  | d, _ => d
def shpL : List D → Int → List D
  | [], _ => []
  | d :: ds, w => shp d w :: shpL ds w
end
theorem shpL_map : ∀ (ds : List D) (w : Int), shpL ds w = ds.map fun d => shp d w
  | [], _ => rfl
  | d :: ds, w => by rw [shpL, shpL_map ds w, List.map_cons]
mutual
/-- how many lists stand in one another -/
def dep : D → Nat
  | .lst ds => 1 + depL ds
  | .tup ds => 1 + depL ds
  | .non => 0
  | .bl _ => 0
  | .int _ => 0
  | .str _ => 0
  | .dic _ => 0
  | .obj _ => 0
  | .ins _ _ _ => 0
  | .ty _ => 0
def depL : List D → Nat
  | [] => 0
  | d :: ds => max (dep d) (depL ds)
end
theorem depL_mem : ∀ {ds : List D} {d : D}, d ∈ ds → dep d ≤ depL ds
  | [], _, h => by simp at h
  | x :: ds, d, h => by
    rw [depL]
    rcases List.mem_cons.mp h with rfl | h
    · omega
    · have := depL_mem h
      omega
mutual
/-- of the seven types, no list too long -/
def shOk : D → Bool
  | .lst ds => decide (ds.length ≤ 16777216) && shOkL ds
  | .tup ds => decide (ds.length ≤ 16777216) && shOkL ds
  | .non => true
  | .bl _ => true
  | .int _ => true
  | .str _ => true
  | .dic _ => true
  | .obj _ => false
  | .ins _ _ _ => false
  | .ty _ => false
def shOkL : List D → Bool
  | [] => true
  | d :: ds => shOk d && shOkL ds
end
theorem shOkL_mem : ∀ {ds : List D}, shOkL ds = true ↔ ∀ d ∈ ds, shOk d = true
  | [] => by simp [shOkL]
  | d :: ds => by
    rw [shOkL, Bool.and_eq_true, shOkL_mem (ds := ds), List.forall_mem_cons]
def sp_shaped (n : Nat) : FS := { α := D × Int, args := fun g => [g.1, .int g.2], pre := fun g => dep g.1 < n ∧ shOk g.1 = true, post := fun g r => r = shp g.1 g.2 }
/-! _law_shaped -/
abbrev s_law_shaped : Stmt := topS 45
abbrev n_law_shaped : List Str := ["thing", "way", "parts", "part"]
theorem sc_law_shaped : FnScope n_law_shaped ["thing", "way"] (defScope s_law_shaped) := ⟨rfl, rfl, rfl, by decide +kernel, rfl, by decide +kernel, by decide +kernel⟩
theorem ok_law_shaped (T : Tx K mg) (n : Nat) (ih : Has P w K mg base "_law_shaped" n ["thing", "way"] (spO K (sp_shaped n))) {f : Addr} {fd : FuncData} (F : Fd K "_law_shaped" s_law_shaped [] f fd) : FnOk P w K mg base (L2N.CX P w) (n + 1) f fd ["thing", "way"] (spO K (sp_shaped (n + 1))) := by
  refine fnO_ok F sc_law_shaped (sp_shaped (n + 1)) (fun _ => rfl) fun cdv A outer s H E g hr pre => ?_
  refine ⟨_, (ds_cons (ds_if (dt_not (dt_val (de_isi2 T.b_isinstance (da_cons (dv 0) (da_cons (de_tup (da_cons (de_ty T.b_list bt_list) (da_cons (de_ty T.b_tuple bt_tuple) da_nil))) da_nil)))))
      (ds_one (ds_ret (dv 0)))
      ds_nil)
      (ds_cons (ds_setLcO (j := 2) sc_law_shaped.nd (di_seq (dv 0)) (blkOk_by (own := [("part", 3)]) (N := n_law_shaped) (sc := defScope s_law_shaped) (by decide +kernel)) (fun _ _ _ _ _ _ _ => dts_nil) (fun _ _ _ _ _ _ _ => (de_callO ih hr (da_cons (dv 3) (da_cons (de_fdiv (dv 1) de_int) da_nil)))) (fun _ _ _ _ _ => pg_name (i := 3) sc_law_shaped.nd rfl (Or.inl rfl)) (sw_true rfl rfl rfl (by decide +kernel)))
      (ds_cons (ds_if (dt_eq (de_mod (de_int1 T.b_int (da_cons (dv 1) da_nil)) de_int) de_int)
      (ds_one (ds_retO (dv 2)))
      ds_nil)
      (ds_one (ds_ret (de_tuple T.b_tuple (da_cons (dv 2) da_nil))))))), ?_⟩
  obtain ⟨d, w⟩ := g
  obtain ⟨p1, p2⟩ := pre
  cases d with
  | lst ds =>
    have p2 : (decide (ds.length ≤ 16777216) && shOkL ds) = true := p2
    obtain ⟨q1, q2⟩ := Bool.and_eq_true_iff.mp p2
    have q1 := of_decide_eq_true q1
    have p1 : 1 + depL ds < n + 1 := p1
    refine ⟨trivial, q1, fun k acc ρ => (∃ l : Slot, ρ = [.v (.lst ds), .v (.int w), l, .un]) ∧ acc = (ds.take k).map (fun d => shp d (w / 2)), ⟨⟨_, rfl⟩, rfl⟩, fun _ _ _ _ _ => trivial, ?_, ?_⟩
    · rintro k d acc ρ hk hd ⟨⟨l, rfl⟩, rfl⟩
      have hd : ds[k]? = some d := hd
      have hm := List.mem_of_getElem? hd
      refine ⟨⟨by decide, by decide⟩, (d, w / 2), rfl, ⟨?_, shOkL_mem.mp q2 d hm⟩, fun r hr => ⟨⟨l, rfl⟩, ?_⟩, fun _ _ => trivial⟩
      · have := depL_mem hm
        show dep d < n
        omega
      · have hr : r = shp d (w / 2) := hr
        rw [hr, List.take_add_one, hd, List.map_append]
        rfl
    · rintro acc ρ ⟨⟨l, rfl⟩, rfl⟩ q
      have el : ds.take ds.length = ds := List.take_length
      refine ⟨(by decide : (0 : Int) < 2), ?_⟩
      show if decide (w % 2 = 0) = true then _ else _
      refine ite2 (fun h => ?_) (fun h => ?_)
      · have h : w % 2 = 0 := of_decide_eq_true h
        show D.lst ((ds.take ds.length).map fun d => shp d (w / 2)) = shp (.lst ds) w
        rw [el, shp, if_pos h, shpL_map]
      · have h : ¬ w % 2 = 0 := fun z => h (decide_eq_true z)
        refine ⟨?_, rfl⟩
        show D.tup ((ds.take ds.length).map fun d => shp d (w / 2)) = shp (.lst ds) w
        rw [el, shp, if_neg h, shpL_map]
  | tup ds =>
    have p2 : (decide (ds.length ≤ 16777216) && shOkL ds) = true := p2
    obtain ⟨q1, q2⟩ := Bool.and_eq_true_iff.mp p2
    have q1 := of_decide_eq_true q1
    have p1 : 1 + depL ds < n + 1 := p1
    refine ⟨trivial, q1, fun k acc ρ => (∃ l : Slot, ρ = [.v (.tup ds), .v (.int w), l, .un]) ∧ acc = (ds.take k).map (fun d => shp d (w / 2)), ⟨⟨_, rfl⟩, rfl⟩, fun _ _ _ _ _ => trivial, ?_, ?_⟩
    · rintro k d acc ρ hk hd ⟨⟨l, rfl⟩, rfl⟩
      have hd : ds[k]? = some d := hd
      have hm := List.mem_of_getElem? hd
      refine ⟨⟨by decide, by decide⟩, (d, w / 2), rfl, ⟨?_, shOkL_mem.mp q2 d hm⟩, fun r hr => ⟨⟨l, rfl⟩, ?_⟩, fun _ _ => trivial⟩
      · have := depL_mem hm
        show dep d < n
        omega
      · have hr : r = shp d (w / 2) := hr
        rw [hr, List.take_add_one, hd, List.map_append]
        rfl
    · rintro acc ρ ⟨⟨l, rfl⟩, rfl⟩ q
      have el : ds.take ds.length = ds := List.take_length
      refine ⟨(by decide : (0 : Int) < 2), ?_⟩
      show if decide (w % 2 = 0) = true then _ else _
      refine ite2 (fun h => ?_) (fun h => ?_)
      · have h : w % 2 = 0 := of_decide_eq_true h
        show D.lst ((ds.take ds.length).map fun d => shp d (w / 2)) = shp (.tup ds) w
        rw [el, shp, if_pos h, shpL_map]
      · have h : ¬ w % 2 = 0 := fun z => h (decide_eq_true z)
        refine ⟨?_, rfl⟩
        show D.tup ((ds.take ds.length).map fun d => shp d (w / 2)) = shp (.tup ds) w
        rw [el, shp, if_neg h, shpL_map]
  | non => exact ⟨rfl, rfl⟩
  | bl b => exact ⟨rfl, rfl⟩
  | int b => exact ⟨rfl, rfl⟩
  | str b => exact ⟨rfl, rfl⟩
  | dic b => exact ⟨rfl, rfl⟩
  | _ => cases p2
theorem has_law_shaped (T : Tx K mg) {f : Addr} {fd : FuncData} (F : Fd K "_law_shaped" s_law_shaped [] f fd) (gm : mg "_law_shaped" = some (.ref f)) : ∀ n : Nat, Has P w K mg base "_law_shaped" n ["thing", "way"] (spO K (sp_shaped n))
  | 0 => has_of F gm (fn_none (by rintro vs H Q E ⟨g, _, z, _⟩; exact absurd z.1 (Nat.not_lt_zero _))) (fun _ _ _ _ _ _ us hl => match us, hl with | [_, _], _ => rfl)
  | n + 1 => has_of F gm (ok_law_shaped T  n (has_law_shaped T  F gm n) F) (fun _ _ _ _ _ _ us hl => match us, hl with | [_, _], _ => rfl)
end
end Q
/-! C5 -/
set_option Elab.async false
set_option linter.all false
set_option maxRecDepth 100000
set_option maxHeartbeats 8000000
namespace Q
open PySem PySem.Spec PyProof.Rows L2 N
section
variable {P : Program} {w : World} {K : PySem.W.Frag} {mg : Str → Option Value} {base : Heap}
/-! a short row: plain -/
/-- between two equal pieces stands one of S -/
def SepBy (S rs : List Int) : Prop := ∀ (i j : Nat) (x : Int), i < j → rs[i]? = some x → rs[j]? = some x → ∃ m s, i < m ∧ m < j ∧ rs[m]? = some s ∧ s ∈ S
structure RowI (kd : List Int) (M : Nat) (sps : List (List Int)) (k : Nat) (row : List Int) : Prop where
  mem : ∀ x, x ∈ row ↔ (x ∈ kd.take k ∨ ∃ j l, j ≤ k ∧ sps[j]? = some l ∧ x ∈ l)
  one : ∀ s ∈ kd.take k, row.count s = 1
  sep : SepBy (kd.take k) row
  len : row.length ≤ k + (k + 1) * M
structure Spots (kd : List Int) (c M : Nat) (sps : List (List Int)) : Prop where
  nd : kd.Nodup
  hc : c ≤ kd.length
  ln : sps.length = c + 1
  hM : M = kd.length - c
  ok : ∀ l ∈ sps, l.Nodup ∧ ∀ x ∈ l, x ∈ kd.drop c
theorem len_le_of : ∀ {l r : List Int}, l.Nodup → (∀ x ∈ l, x ∈ r) → l.length ≤ r.length
  | [], _, _, _ => Nat.zero_le _
  | x :: l, r, h, hs => by
    obtain ⟨h1, h2⟩ := List.nodup_cons.mp h
    have hx := hs x List.mem_cons_self
    have ih := len_le_of (l := l) (r := r.erase x) h2 fun y hy => by
      have hne : y ≠ x := fun z => h1 (z ▸ hy)
      exact (List.mem_erase_of_ne hne).mpr (hs y (List.mem_cons_of_mem _ hy))
    rw [List.length_erase_of_mem hx] at ih
    have := List.length_pos_of_mem hx
    rw [List.length_cons]
    omega
theorem Spots.short {kd : List Int} {c M : Nat} {sps : List (List Int)} (P : Spots kd c M sps) {l : List Int} (h : l ∈ sps) : l.length ≤ M := by
  obtain ⟨h1, h2⟩ := P.ok l h
  have := len_le_of h1 h2
  rw [List.length_drop, ← P.hM] at this
  exact this
theorem SepBy.nodup {S p : List Int} (h : p.Nodup) : SepBy S p := fun i j x hij hi hj => by
  exfalso
  obtain ⟨h1, e1⟩ := List.getElem?_eq_some_iff.mp hi
  obtain ⟨h2, e2⟩ := List.getElem?_eq_some_iff.mp hj
  exact List.pairwise_iff_getElem.mp h i j h1 h2 hij (e1.trans e2.symm)
theorem RowI.start {kd : List Int} {c M : Nat} {sps : List (List Int)} (P : Spots kd c M sps) {l row : List Int} (e : sps[0]? = some l) (p : row.Perm l) : RowI kd M sps 0 row := by
  have hl := List.mem_of_getElem? e
  refine ⟨fun x => ?_, fun s hs => by simp at hs, SepBy.nodup (p.nodup_iff.mpr (P.ok l hl).1), ?_⟩
  · rw [p.mem_iff]
    constructor
    · intro h
      exact .inr ⟨0, l, Nat.le_refl _, e, h⟩
    · rintro (h | ⟨j, l', hj, e', h⟩)
      · simp at h
      · have : j = 0 := by omega
        subst this
        rw [e] at e'
        cases e'
        exact h
  · rw [p.length_eq]
    have := P.short hl
    omega
theorem take_succ' (l : List Int) (k : Nat) (h : k < l.length) : l.take (k + 1) = l.take k ++ [l[k]] := by rw [List.take_add_one, List.getElem?_eq_getElem h]; rfl
theorem notin_take {l : List Int} (h : l.Nodup) {k : Nat} (hk : k < l.length) : l[k] ∉ l.take k := fun hm => by
  obtain ⟨i, hi, e⟩ := List.mem_iff_getElem.mp hm
  rw [List.length_take] at hi
  rw [List.getElem_take] at e
  exact List.pairwise_iff_getElem.mp h i k (by omega) hk (by omega) e
theorem notin_drop {l : List Int} (h : l.Nodup) {k c : Nat} (hk : k < c) (hl : k < l.length) : l[k] ∉ l.drop c := fun hm => by
  obtain ⟨i, hi, e⟩ := List.mem_iff_getElem.mp hm
  rw [List.length_drop] at hi
  rw [List.getElem_drop] at e
  exact List.pairwise_iff_getElem.mp h k (c + i) hl (by omega) (by omega) e.symm
theorem take_drop_dis {l : List Int} (h : l.Nodup) {c : Nat} {x : Int} (h1 : x ∈ l.take c) (h2 : x ∈ l.drop c) : False := by
  obtain ⟨i, hi, e⟩ := List.mem_iff_getElem.mp h1
  rw [List.length_take] at hi
  rw [List.getElem_take] at e
  have := notin_drop h (k := i) (c := c) (by omega) (by omega)
  rw [e] at this
  exact this h2
theorem RowI.step {kd : List Int} {c M : Nat} {sps : List (List Int)} (P : Spots kd c M sps) {k : Nat} {row l p : List Int} (R : RowI kd M sps k row) (hk : k < c) (hkl : k < kd.length) (e : sps[k + 1]? = some l) (pm : p.Perm l) : RowI kd M sps (k + 1) (row ++ [kd[k]] ++ p) := by
  have hl := List.mem_of_getElem? e
  obtain ⟨l1, l2⟩ := P.ok l hl
  have pnd : p.Nodup := pm.nodup_iff.mpr l1
  have pdr : ∀ x ∈ p, x ∈ kd.drop c := fun x hx => l2 x (pm.mem_iff.mp hx)
  have x0p : kd[k] ∉ p := fun h => notin_drop P.nd hk hkl (pdr _ h)
  have x0r : kd[k] ∉ row := fun h => by
    rcases (R.mem _).mp h with h | ⟨j, l', hj, e', h⟩
    · exact notin_take P.nd hkl h
    · exact notin_drop P.nd hk hkl ((P.ok l' (List.mem_of_getElem? e')).2 _ h)
  have tdr : ∀ s ∈ kd.take k, s ∉ p := fun s hs hp => take_drop_dis P.nd (c := c) (List.Sublist.mem hs (List.take_sublist_take_left (by omega))) (pdr s hp)
  refine ⟨fun x => ?_, fun s hs => ?_, fun i j x hij hi hj => ?_, ?_⟩
  · rw [List.append_assoc, List.mem_append, List.mem_append, R.mem x, pm.mem_iff, take_succ' kd k hkl, List.mem_append, List.mem_singleton]
    constructor
    · rintro ((h | ⟨j, l', hj, e', h⟩) | h | h)
      · exact .inl (.inl h)
      · exact .inr ⟨j, l', by omega, e', h⟩
      · exact .inl (.inr h)
      · exact .inr ⟨k + 1, l, Nat.le_refl _, e, h⟩
    · rintro ((h | h) | ⟨j, l', hj, e', h⟩)
      · exact .inl (.inl h)
      · exact .inr (.inl h)
      · by_cases hj' : j ≤ k
        · exact .inl (.inr ⟨j, l', hj', e', h⟩)
        · have : j = k + 1 := by omega
          subst this
          rw [e] at e'
          cases e'
          exact .inr (.inr h)
  · rw [take_succ' kd k hkl] at hs
    rw [List.count_append, List.count_append]
    rcases List.mem_append.mp hs with h | h
    · have h1 := R.one s h
      have h2 : ([kd[k]] : List Int).count s = 0 := List.count_eq_zero.mpr fun z => x0r ((R.mem _).mpr (.inl (by rw [← List.mem_singleton.mp z]; exact h)))
      have h3 : p.count s = 0 := List.count_eq_zero.mpr (tdr s h)
      omega
    · rw [List.mem_singleton.mp h]
      have h1 : row.count kd[k] = 0 := List.count_eq_zero.mpr x0r
      have h3 : p.count kd[k] = 0 := List.count_eq_zero.mpr x0p
      have h2 : ([kd[k]] : List Int).count kd[k] = 1 := by simp
      omega
  · rw [List.append_assoc] at hi hj ⊢
    have inS : ∀ s ∈ kd.take k, s ∈ kd.take (k + 1) := fun s h => by rw [take_succ' kd k hkl]; exact List.mem_append_left _ h
    have xS : kd[k] ∈ kd.take (k + 1) := by rw [take_succ' kd k hkl]; exact List.mem_append_right _ List.mem_cons_self
    by_cases hjl : j < row.length
    · rw [List.getElem?_append_left hjl] at hj
      rw [List.getElem?_append_left (by omega)] at hi
      obtain ⟨m, s, h1, h2, h3, h4⟩ := R.sep i j x hij hi hj
      exact ⟨m, s, h1, h2, by rw [List.getElem?_append_left (by omega)]; exact h3, inS s h4⟩
    · rw [List.getElem?_append_right (by omega)] at hj
      have at0 : (row ++ ([kd[k]] ++ p))[row.length]? = some kd[k] := by rw [List.getElem?_append_right (Nat.le_refl _), Nat.sub_self]; rfl
      by_cases hj0 : j = row.length
      · subst hj0
        rw [Nat.sub_self] at hj
        have ex : kd[k] = x := by simpa using hj
        rw [List.getElem?_append_left hij] at hi
        rw [← ex] at hi
        exact absurd (List.mem_of_getElem? hi) x0r
      · have hj2 : p[j - row.length - 1]? = some x := by
          have : j - row.length = (j - row.length - 1) + 1 := by omega
          rw [this] at hj
          exact hj
        by_cases hil : i < row.length
        · exact ⟨row.length, kd[k], hil, by omega, at0, xS⟩
        · rw [List.getElem?_append_right (by omega)] at hi
          by_cases hi0 : i = row.length
          · subst hi0
            rw [Nat.sub_self] at hi
            have ex : kd[k] = x := by simpa using hi
            rw [← ex] at hj2
            exact absurd (List.mem_of_getElem? hj2) x0p
          · have hi2 : p[i - row.length - 1]? = some x := by
              have : i - row.length = (i - row.length - 1) + 1 := by omega
              rw [this] at hi
              exact hi
            obtain ⟨m, s, h1, h2, h3, h4⟩ := SepBy.nodup (S := kd.take k) pnd (i - row.length - 1) (j - row.length - 1) x (by omega) hi2 hj2
            exact ⟨m + row.length + 1, s, by omega, by omega, by
              rw [List.getElem?_append_right (by omega)]
              have : m + row.length + 1 - row.length = m + 1 := by omega
              rw [this]
              exact h3, inS s h4⟩
  · rw [List.length_append, List.length_append, List.length_singleton, pm.length_eq]
    have h1 := P.short hl
    have h2 := R.len
    have h3 : (k + 1 + 1) * M = (k + 1) * M + M := Nat.succ_mul _ _
    omega
def ShortOf (ns rs : List Int) : Prop := rs ≠ [] ∧ (∀ x, x ∈ rs ↔ x ∈ ns) ∧ rs.length ≤ 200 ∧ (ns.length ≤ 8 → rs.length ≤ 24) ∧ ∃ S : List Int, (∀ s ∈ S, rs.count s = 1) ∧ SepBy S rs
theorem bound200 : ∀ n : Fin 25, ∀ c : Fin 25, c.val ≤ n.val → c.val + (c.val + 1) * (n.val - c.val) ≤ 200 := by decide +kernel
theorem bound24 : ∀ n : Fin 9, ∀ c : Fin 9, c.val ≤ n.val → c.val + (c.val + 1) * (n.val - c.val) ≤ 24 := by decide +kernel
theorem RowI.fin {kd ns : List Int} {c M : Nat} {sps : List (List Int)} (P : Spots kd c M sps) {row : List Int} (R : RowI kd M sps c row) (pm : kd.Perm ns) (hn : ns ≠ []) (hl : ns.length ≤ 24) (cov : ∀ x ∈ kd.drop c, ∃ l ∈ sps, x ∈ l) : ShortOf ns row := by
  have mem : ∀ x, x ∈ row ↔ x ∈ ns := fun x => by
    rw [R.mem x, ← pm.mem_iff]
    constructor
    · rintro (h | ⟨j, l, _, e, h⟩)
      · exact List.mem_of_mem_take h
      · exact List.mem_of_mem_drop ((P.ok l (List.mem_of_getElem? e)).2 x h)
    · intro h
      rw [← List.take_append_drop c kd] at h
      rcases List.mem_append.mp h with h | h
      · exact .inl h
      · obtain ⟨l, hl, hx⟩ := cov x h
        obtain ⟨j, hj, e⟩ := List.mem_iff_getElem.mp hl
        exact .inr ⟨j, l, by have := P.ln; omega, by rw [← e]; exact List.getElem?_eq_getElem hj, hx⟩
  refine ⟨fun z => ?_, mem, ?_, fun h8 => ?_, kd.take c, R.one, R.sep⟩
  · obtain ⟨x, hx⟩ := List.exists_mem_of_ne_nil ns hn
    have := (mem x).mpr hx
    rw [z] at this
    simp at this
  · have h1 := R.len
    have h2 := P.hM
    have h3 := P.hc
    have h4 := pm.length_eq
    have := bound200 ⟨kd.length, by omega⟩ ⟨c, by omega⟩ h3
    rw [h2] at h1
    exact Nat.le_trans h1 this
  · have h1 := R.len
    have h2 := P.hM
    have h3 := P.hc
    have h4 := pm.length_eq
    have := bound24 ⟨kd.length, by omega⟩ ⟨c, by omega⟩ h3
    rw [h2] at h1
    exact Nat.le_trans h1 this
/-! a short row: the walk -/
def sp_short_row : SS := { α := Bool × List Int, args := fun g => [seqD g.1 (g.2.map D.int)], pre := fun g => g.2 ≠ [] ∧ g.2.Nodup ∧ g.2.length ≤ 24, post := fun g r => ∃ rs, r = .lst (rs.map D.int) ∧ ShortOf g.2 rs, s0 := fun _ => StOk, s1 := fun _ => StOk }
def ghs : List Addr → List (List Int) → En
  | a :: as, l :: ls => N.Slot.own a (l.map D.int) :: ghs as ls
  | _, _ => []
theorem ghs_snoc : ∀ {as : List Addr} {ls : List (List Int)} (a : Addr) (l : List Int), as.length = ls.length → ghs (as ++ [a]) (ls ++ [l]) = ghs as ls ++ [N.Slot.own a (l.map D.int)]
  | [], [], _, _, _ => rfl
  | a :: as, l :: ls, b, m, h => by
    rw [List.cons_append, List.cons_append, ghs, ghs, List.cons_append, ghs_snoc b m (by simpa using h)]
theorem ghs_at : ∀ {as : List Addr} {ls : List (List Int)} {j : Nat} {a : Addr} {l : List Int}, as[j]? = some a → ls[j]? = some l → (ghs as ls)[j]? = some (N.Slot.own a (l.map D.int))
  | [], _, _, _, _, h, _ => by simp at h
  | _ :: _, [], _, _, _, _, h => by simp at h
  | a :: as, l :: ls, 0, b, m, h, h' => by
    have h : a = b := by simpa using h
    have h' : l = m := by simpa using h'
    rw [ghs, h, h']
    rfl
  | a :: as, l :: ls, j + 1, _, _, h, h' => by
    rw [ghs, List.getElem?_cons_succ]
    exact ghs_at (by simpa using h) (by simpa using h')
theorem ghs_set : ∀ {as : List Addr} {ls : List (List Int)} {j : Nat} {a : Addr} {l : List Int}, as[j]? = some a → (ghs as ls).set j (N.Slot.own a (l.map D.int)) = ghs as (ls.set j l)
  | [], _, _, _, _, h => by simp at h
  | _ :: _, [], _, _, _, _ => by simp [ghs]
  | a :: as, l :: ls, 0, b, _, h => by
    have h : a = b := by simpa using h
    rw [ghs, List.set_cons_zero, List.set_cons_zero, ghs, h]
  | a :: as, l :: ls, j + 1, _, _, h => by
    rw [ghs, List.set_cons_succ, List.set_cons_succ, ghs, ghs_set (by simpa using h)]
theorem ghs_mem : ∀ {as : List Addr} {ls : List (List Int)} {a : Addr}, as.length = ls.length → a ∈ as → ∃ (j : Nat) (es : List D), (ghs as ls)[j]? = some (N.Slot.own a es)
  | b :: as, l :: ls, a, hl, h => by
    rcases List.mem_cons.mp h with rfl | h
    · exact ⟨0, _, rfl⟩
    · obtain ⟨j, es, e⟩ := ghs_mem (ls := ls) (by simpa using hl) h
      exact ⟨j + 1, es, by rw [ghs, List.getElem?_cons_succ]; exact e⟩
theorem ghs_Gh (base : En) : ∀ {as : List Addr} {ls : List (List Int)} (pre : En), as.length = ls.length → Gh (base ++ pre ++ ghs as ls) base.length as (ls.map fun l => l.map D.int)
  | [], [], _, _ => .nil
  | a :: as, l :: ls, pre, h => by
    have ih := ghs_Gh base (as := as) (ls := ls) (pre ++ [N.Slot.own a (l.map D.int)]) (by simpa using h)
    have e : base ++ (pre ++ [N.Slot.own a (l.map D.int)]) ++ ghs as ls = base ++ pre ++ ghs (a :: as) (l :: ls) := by
      rw [ghs, List.append_assoc, List.append_assoc, List.append_assoc]
      rfl
    rw [e] at ih
    refine .cons (j := base.length + pre.length) (by omega) ?_ ih
    rw [List.getElem?_append_right (by simp), List.length_append, Nat.sub_self]
    rfl
theorem atI_obj {as : List Addr} {i : Int} (h0 : 0 ≤ i) (h : i < (as.length : Nat)) : ∃ a, as[i.toNat]? = some a ∧ atI (as.map D.obj) i = some (.obj a) := by
  have hn : i.toNat < as.length := by omega
  refine ⟨as[i.toNat], List.getElem?_eq_getElem hn, ?_⟩
  unfold atI
  rw [ixN_nat h0 (by rw [List.length_map]; exact h)]
  show (as.map D.obj)[i.toNat]? = _
  rw [List.getElem?_map, List.getElem?_eq_getElem hn]
  rfl
theorem cut_from {ds : List D} {n : Nat} (h : n ≤ ds.length) : N.cutD ds (some (n : Int)) none = ds.drop n := by
  show (ds.drop (if (n : Int) < 0 then ((n : Int) + (ds.length : Int)).toNat else min (n : Int).toNat ds.length)).take (ds.length - (if (n : Int) < 0 then ((n : Int) + (ds.length : Int)).toNat else min (n : Int).toNat ds.length)) = ds.drop n
  rw [if_neg (by omega), Int.toNat_natCast, Nat.min_eq_left h]
  exact List.take_of_length_le (by rw [List.length_drop]; omega)
/-- the spots behind t of the kinds -/
structure Fill (rest : List Int) (c : Nat) (t : Nat) (sps : List (List Int)) : Prop where
  ln : sps.length = c + 1
  ok : ∀ l ∈ sps, l.Nodup ∧ ∀ x ∈ l, x ∈ rest.take t
  cov : ∀ x ∈ rest.take t, ∃ l ∈ sps, x ∈ l
/-- the spots while x is laid into the places -/
def Laid (x : Int) (pls : List Int) (u : Nat) (sps sps' : List (List Int)) : Prop := sps'.length = sps.length ∧ ∀ j, sps'[j]? = (sps[j]?).map fun l => if ((j : Nat) : Int) ∈ pls.take u then l ++ [x] else l
theorem Laid.start {x : Int} {pls : List Int} {sps : List (List Int)} : Laid x pls 0 sps sps := ⟨rfl, fun j => by cases h : sps[j]? <;> simp⟩
theorem Laid.step {x : Int} {pls : List Int} {u : Nat} {sps sps' : List (List Int)} (L : Laid x pls u sps sps') (hnd : pls.Nodup) (hu : u < pls.length) (h0 : 0 ≤ pls[u]) {l : List Int} (e : sps'[pls[u].toNat]? = some l) : Laid x pls (u + 1) sps (sps'.set pls[u].toNat (l ++ [x])) := by
  refine ⟨by rw [List.length_set]; exact L.1, fun j => ?_⟩
  have ts := take_succ' pls u hu
  by_cases hj : j = pls[u].toNat
  · subst hj
    have hlt : pls[u].toNat < sps'.length := (List.getElem?_eq_some_iff.mp e).1
    rw [List.getElem?_set_self hlt]
    have h1 := L.2 pls[u].toNat
    have ec : ((pls[u].toNat : Nat) : Int) = pls[u] := by omega
    rw [e, ec] at h1
    rw [ec, ts]
    cases hs : sps[pls[u].toNat]? with
    | none => rw [hs] at h1; cases h1
    | some l0 =>
      rw [hs] at h1
      have h1 : l = if pls[u] ∈ pls.take u then l0 ++ [x] else l0 := by simpa using h1
      rw [if_neg (notin_take hnd hu)] at h1
      rw [h1]
      show some (l0 ++ [x]) = some (if pls[u] ∈ pls.take u ++ [pls[u]] then l0 ++ [x] else l0)
      rw [if_pos (List.mem_append_right _ List.mem_cons_self)]
  · rw [List.getElem?_set_ne (Ne.symm hj), L.2 j, ts]
    have : (((j : Nat) : Int) ∈ pls.take u ++ [pls[u]]) ↔ (((j : Nat) : Int) ∈ pls.take u) := by
      rw [List.mem_append, List.mem_singleton]
      constructor
      · rintro (h | h)
        · exact h
        · omega
      · exact .inl
    simp only [this]
theorem Fill.next {rest : List Int} {c t : Nat} {sps sps' : List (List Int)} {pls : List Int} (F : Fill rest c t sps) (nd : rest.Nodup) (ht : t < rest.length) (L : Laid rest[t] pls pls.length sps sps') (hne : pls ≠ []) (hp : ∀ q ∈ pls, 0 ≤ q ∧ q < (c : Int) + 1) : Fill rest c (t + 1) sps' := by
  have ts := take_succ' rest t ht
  have hx := notin_take nd ht
  have eT : pls.take pls.length = pls := List.take_length
  refine ⟨L.1.trans F.ln, fun l' hl' => ?_, fun y hy => ?_⟩
  · obtain ⟨j, hj, e⟩ := List.mem_iff_getElem.mp hl'
    have h1 := L.2 j
    rw [List.getElem?_eq_getElem hj, e, eT] at h1
    cases hs : sps[j]? with
    | none => rw [hs] at h1; cases h1
    | some l =>
      rw [hs] at h1
      have h1 : l' = if ((j : Nat) : Int) ∈ pls then l ++ [rest[t]] else l := by simpa using h1
      obtain ⟨o1, o2⟩ := F.ok l (List.mem_of_getElem? hs)
      rw [h1, ts]
      split
      · refine ⟨List.nodup_append.mpr ⟨o1, by simp, fun a ha b hb => ?_⟩, fun y hy => ?_⟩
        · rw [List.mem_singleton.mp hb]
          exact fun z => hx (z ▸ o2 a ha)
        · rcases List.mem_append.mp hy with h | h
          · exact List.mem_append_left _ (o2 y h)
          · exact List.mem_append_right _ h
      · exact ⟨o1, fun y hy => List.mem_append_left _ (o2 y hy)⟩
  · rw [ts] at hy
    rcases List.mem_append.mp hy with h | h
    · obtain ⟨l, hl, hyl⟩ := F.cov y h
      obtain ⟨j, hj, e⟩ := List.mem_iff_getElem.mp hl
      have h1 := L.2 j
      rw [List.getElem?_eq_getElem hj, e] at h1
      refine ⟨_, List.mem_of_getElem? h1, ?_⟩
      split
      · exact List.mem_append_left _ hyl
      · exact hyl
    · rw [List.mem_singleton.mp h]
      obtain ⟨q, hq⟩ := List.exists_mem_of_ne_nil pls hne
      obtain ⟨q0, q1⟩ := hp q hq
      have hj : q.toNat < sps.length := by rw [F.ln]; omega
      have h1 := L.2 q.toNat
      have ec : ((q.toNat : Nat) : Int) = q := by omega
      rw [List.getElem?_eq_getElem hj, eT, ec] at h1
      refine ⟨_, List.mem_of_getElem? h1, ?_⟩
      show rest[t] ∈ (if q ∈ pls then sps[q.toNat] ++ [rest[t]] else sps[q.toNat])
      rw [if_pos hq]
      exact List.mem_append_right _ List.mem_cons_self
def toI : D → Int
  | .int i => i
  | _ => 0
theorem toI_map (ns : List Int) : (ns.map D.int).map toI = ns := by
  rw [List.map_map]
  exact (List.map_congr_left fun _ _ => rfl).trans (List.map_id _)
theorem perm_ints {ds : List D} {ns : List Int} (h : ds.Perm (ns.map D.int)) : ∃ ms : List Int, ds = ms.map D.int ∧ ms.Perm ns := by
  have hd : ∀ d ∈ ds, ∃ i, d = .int i := fun d hd => by
    obtain ⟨n, _, rfl⟩ := List.mem_map.mp (h.mem_iff.mp hd)
    exact ⟨n, rfl⟩
  refine ⟨ds.map toI, ?_, ?_⟩
  · rw [List.map_map]
    conv => lhs; rw [← List.map_id ds]
    refine List.map_congr_left fun d hd' => ?_
    obtain ⟨i, rfl⟩ := hd d hd'
    rfl
  · have := h.map toI
    rw [toI_map] at this
    exact this
theorem at_ints {ns : List Int} {k : Nat} {n : Int} (h : ns[k]? = some n) : atI (ns.map D.int) (k : Int) = some (.int n) := by
  have hk := (List.getElem?_eq_some_iff.mp h).1
  unfold atI
  rw [ixN_nat (by omega) (by rw [List.length_map]; omega), Int.toNat_natCast]
  show (ns.map D.int)[k]? = _
  rw [List.getElem?_map, h]
  rfl
theorem at_lsts {sps : List (List Int)} {k : Nat} {l : List Int} (h : sps[k]? = some l) : atI ((sps.map fun l => l.map D.int).map D.lst) (k : Int) = some (.lst (l.map D.int)) := by
  have hk := (List.getElem?_eq_some_iff.mp h).1
  unfold atI
  rw [ixN_nat (by omega) (by rw [List.length_map, List.length_map]; omega), Int.toNat_natCast]
  show ((sps.map fun l => l.map D.int).map D.lst)[k]? = _
  rw [List.getElem?_map, List.getElem?_map, h]
  rfl
/-! _law_short_row -/
abbrev s_law_short_row : Stmt := topS 49
abbrev n_law_short_row : List Str := ["store", "lot", "kinds", "cut", "spots", "kind", "places", "place", "row", "k"]
theorem sc_law_short_row : FnScope n_law_short_row ["store", "lot"] (defScope s_law_short_row) := ⟨rfl, rfl, rfl, by decide +kernel, rfl, by decide +kernel, by decide +kernel⟩
theorem ok_law_short_row (T : Tx K mg) (h_law_arrangement : Has P w K mg base "_law_arrangement" 3 ["store", "things"] (spS K sp_arr)) (h_law_take : Has P w K mg base "_law_take" 2 ["store", "many"] (spS K sp_take)) {f : Addr} {fd : FuncData} (F : Fd K "_law_short_row" s_law_short_row [] f fd) : FnOk P w K mg base (L2N.CX P w) 4 f fd ["store", "lot"] (spS K sp_short_row) := by
  refine fnS_ok F sc_law_short_row sp_short_row (fun _ => rfl) (by decide) fun cdv A outer s H E g p ss hr pre hs => ?_
  refine ⟨_, (ds_cons (ds_set (i := 2) sc_law_short_row.nd (de_callS h_law_arrangement hr (dv 0) (da_cons (dv 1) da_nil)))
      (ds_cons (ds_set (i := 3) sc_law_short_row.nd (de_callS h_law_take (hr.mono (by decide : 2 ≤ 3)) (dv 0) (da_cons (de_add (de_len T.b_len (da_cons (dv 2) da_nil)) de_int) da_nil)))
      (ds_cons (ds_setLcO (j := 4) sc_law_short_row.nd (di_range1 T.b_range (da_cons (de_add (dv 3) de_int) da_nil)) (blkOk_by (own := [("k", 9)]) (N := n_law_short_row) (sc := defScope s_law_short_row) (by decide +kernel)) (fun _ _ _ _ _ _ _ => dts_nil) (fun _ _ _ _ _ _ _ => (de_gnew 10 (dn_lst da_nil))) (fun _ _ _ _ _ => pg_name (i := 9) sc_law_short_row.nd rfl (Or.inl rfl)) (sw_true rfl rfl rfl (by decide +kernel)))
      (ds_cons (ds_for (passes_of rfl) (di_seq (de_new (dn_slice (dv 2) (do_some (dv 3)) do_none))) (dg 5 sc_law_short_row.nd)
      (ds_cons (ds_setLcO (j := 6) sc_law_short_row.nd (di_range1 T.b_range (da_cons (de_add (dv 3) de_int) da_nil)) (blkOk_by (own := [("k", 9)]) (N := n_law_short_row) (sc := defScope s_law_short_row) (by decide +kernel)) (fun _ _ _ _ _ _ _ => (dts_one (dt_eq (de_callS h_law_take (hr.mono (by decide : 2 ≤ 3)) (dv 0) (da_cons de_int da_nil)) de_int))) (fun _ _ _ _ _ _ _ => (dv 9)) (fun _ _ _ _ _ => pg_name (i := 9) sc_law_short_row.nd rfl (Or.inl rfl)) (sw_true rfl rfl rfl (by decide +kernel)))
      (ds_lock 6 (ds_cons (ds_if (dt_eq (de_len T.b_len (da_cons (dv 6) da_nil)) de_int)
      (ds_one (ds_set (i := 6) sc_law_short_row.nd (de_new (dn_lst (da_cons (de_callS h_law_take (hr.mono (by decide : 2 ≤ 3)) (dv 0) (da_cons (de_add (dv 3) de_int) da_nil)) da_nil)))))
      ds_nil)
      (ds_one (ds_for (passes_of rfl) (di_seq (dv 6)) (dg 7 sc_law_short_row.nd)
      (ds_one (ds_expr (de_appendG (de_ix (dv 4) (dv 7)) (dv 5))))))))))
      (ds_glock 10 4 (ds_cons (ds_set (i := 8) sc_law_short_row.nd (de_callS h_law_arrangement hr (dv 0) (da_cons (de_ix (dv 4) de_int) da_nil)))
      (ds_cons (ds_for (passes_of rfl) (di_range1 T.b_range (da_cons (dv 3) da_nil)) (dg 9 sc_law_short_row.nd)
      (ds_one (ds_set (i := 8) sc_law_short_row.nd (de_new (dn_cat (de_new (dn_cat (dv 8) (de_new (dn_lst (da_cons (de_ix (dv 2) (dv 9)) da_nil))))) (de_callS h_law_arrangement hr (dv 0) (da_cons (de_ix (dv 4) (de_add (dv 9) de_int)) da_nil)))))))
      (ds_one (ds_ret (dv 8)))))))))), ?_⟩
  obtain ⟨b, ns⟩ := g
  obtain ⟨h1, h2, h3⟩ := pre
  change ns ≠ [] at h1
  change ns.Nodup at h2
  change ns.length ≤ 24 at h3
  refine ⟨(b, ns.map D.int), rfl, hs, by show (ns.map D.int).length ≤ 16777216; rw [List.length_map]; omega, fun d s1 hd hs => ?_⟩
  obtain ⟨kds, rfl, pm⟩ := hd
  obtain ⟨kd, rfl, pk⟩ := perm_ints pm
  have knd : kd.Nodup := pk.nodup_iff.mpr h2
  have kln := pk.length_eq
  have el : ((kd.map D.int).length : Nat) = kd.length := List.length_map _
  refine ⟨((kd.map D.int).length : Int) + 1, rfl, hs, tk (by rw [el]; omega), fun d s2 hd hs => ?_⟩
  obtain ⟨ci, rfl, c0, c1⟩ := hd
  rw [el] at c1
  obtain ⟨c, rfl⟩ := Int.eq_ofNat_of_zero_le c0
  have hc : c ≤ kd.length := by omega
  have rg : -(2 ^ 62) ≤ ((c : Nat) : Int) + 1 ∧ ((c : Nat) : Int) + 1 < 2 ^ 62 ∧ (((c : Nat) : Int) + 1 - 0).toNat ≤ 16777216 ∧ (((c : Nat) : Int) + 1 - 0).toNat = c + 1 := by omega
  refine ⟨trivial, by decide, by decide, rg.1, rg.2.1, rg.2.2.1, fun k acc ρ => ∃ (t : Slot) (sp : Slot) (as : List Addr), ρ = [.own p s2, t, .v (.lst (kd.map D.int)), .v (.int c), sp, .un, .un, .un, .un, .un] ++ ghs as (List.replicate k []) ∧ acc = as.map D.obj ∧ as.length = k ∧ as.Nodup, ?_, ?_, ?_, ?_⟩
  · exact ⟨_, _, [], rfl, rfl, rfl, List.nodup_nil⟩
  · exact fun _ _ _ _ _ => trivial
  · rintro k d acc ρ hk rfl ⟨t, sp, as, rfl, rfl, hl, nd⟩
    refine ⟨by show 10 ≤ (ghs as (List.replicate k [])).length + 10; omega, fun a ha => ⟨t, sp, as ++ [a], ?_, by rw [List.map_append]; rfl, by rw [List.length_append, hl]; rfl, ?_⟩⟩
    · rw [List.replicate_succ', ghs_snoc a [] (by rw [hl, List.length_replicate])]
      rfl
    · refine List.nodup_append.mpr ⟨nd, by simp, fun x hx y hy => ?_⟩
      rw [List.mem_singleton.mp hy]
      rintro rfl
      obtain ⟨j, es, e⟩ := ghs_mem (ls := List.replicate k []) (by rw [hl, List.length_replicate]) hx
      exact ha (j + 10) x es e rfl
  rintro acc ρ ⟨t, sp, as, rfl, rfl, hal, nd⟩ q
  have hal : as.length = c + 1 := hal.trans rg.2.2.2
  refine ⟨_, rfl, ?_⟩
  have ecut : N.cutD (kd.map D.int) (some (c : Int)) none = (kd.drop c).map D.int := by rw [cut_from (by rw [el]; exact hc), List.map_drop]
  have rest_nd : (kd.drop c).Nodup := List.Sublist.nodup (List.drop_sublist c kd) knd
  have rest_ln : (kd.drop c).length ≤ 24 := by rw [List.length_drop]; omega
  refine ⟨fun t ρ => ∃ (s : List D) (lt kv pls plc row : Slot) (sps : List (List Int)), ρ = [.own p s, lt, .v (.lst (kd.map D.int)), .v (.int c), .own q (as.map D.obj), kv, pls, plc, row, .un] ++ ghs as sps ∧ StOk s ∧ Fill (kd.drop c) c t sps, ?_, fun _ _ _ _ => trivial, ?_, ?_⟩
  · refine ⟨s2, _, _, _, _, _, List.replicate (c + 1) [], by rw [← hal, hal, ← rg.2.2.2]; rfl, hs, by rw [List.length_replicate], fun l hl => ?_, fun x hx => ?_⟩
    · rw [(List.mem_replicate.mp hl).2]
      exact ⟨List.nodup_nil, fun x hx => by simp at hx⟩
    · simp at hx
  · rintro t d ρ ht hd ⟨s, lt, kv, pls, plc, row, sps, rfl, hs, F⟩
    have hd : (N.cutD (kd.map D.int) (some (c : Int)) none)[t]? = some d := hd
    rw [ecut, List.getElem?_map] at hd
    obtain ⟨x, hx, rfl⟩ := Option.map_eq_some_iff.mp hd
    obtain ⟨htl, hxe⟩ := List.getElem?_eq_some_iff.mp hx
    have hln : as.length = sps.length := by rw [F.ln, hal]
    refine ⟨trivial, by decide, by decide, rg.1, rg.2.1, rg.2.2.1, fun k acc ρ => ∃ (s : List D) (pls : Slot) (ls : List Int), ρ = [.own p s, lt, .v (.lst (kd.map D.int)), .v (.int c), .own q (as.map D.obj), .v (.int x), pls, plc, row, .un] ++ ghs as sps ∧ StOk s ∧ acc = ls.map D.int ∧ ls.Nodup ∧ ∀ l ∈ ls, 0 ≤ l ∧ l < (k : Int), ?_, fun _ _ _ _ _ => trivial, ?_, ?_⟩
    · exact ⟨s, _, [], rfl, hs, rfl, List.nodup_nil, fun l hl => by simp at hl⟩
    · rintro k d acc ρ hk rfl ⟨s, pls, ls, rfl, hs, rfl, lnd, lb⟩
      refine ⟨(2 : Int), rfl, hs, tk (by omega), fun d s2 hd hs => ?_⟩
      obtain ⟨i, rfl, i0, i1⟩ := hd
      show if decide (i = 1) = true then _ else _
      refine ite2 (fun h => ?_) (fun h => ?_)
      · refine ⟨s2, pls, ls ++ [0 + (k : Int)], rfl, hs, by rw [List.map_append]; rfl, List.nodup_append.mpr ⟨lnd, by simp, fun a ha b hb => ?_⟩, fun l hl => ?_⟩
        · rw [List.mem_singleton.mp hb]
          have := lb a ha
          omega
        · rcases List.mem_append.mp hl with h | h
          · have := lb l h
            omega
          · rw [List.mem_singleton.mp h]
            omega
      · exact ⟨s2, pls, ls, rfl, hs, rfl, lnd, fun l hl => by have := lb l hl; omega⟩
    rintro acc ρ ⟨s, pls, ls, rfl, hs, rfl, lnd, lb⟩ q2
    rw [rg.2.2.2] at lb
    dsimp only
    refine seq_join (r1 := rIf _ _ _) (fun ρ => ∃ (s : List D) (ls : List Int), ρ = [.own p s, lt, .v (.lst (kd.map D.int)), .v (.int c), .own q (as.map D.obj), .v (.int x), .v (.lst (ls.map D.int)), plc, row, .un] ++ ghs as sps ∧ StOk s ∧ ls ≠ [] ∧ ls.Nodup ∧ ∀ l ∈ ls, 0 ≤ l ∧ l < (c : Int) + 1) (fun ρ hJ => ?_) (fun R hR => ?_)
    · obtain ⟨s, ls, rfl, hs, lne, lnd, lb⟩ := hJ
      refine ⟨fun u ρ => ∃ (plc : Slot) (sps' : List (List Int)), ρ = [.own p s, lt, .v (.lst (kd.map D.int)), .v (.int c), .own q (as.map D.obj), .v (.int x), .v (.lst (ls.map D.int)), plc, row, .un] ++ ghs as sps' ∧ Laid x ls u sps sps', ⟨_, sps, rfl, Laid.start⟩, fun _ _ _ _ => trivial, ?_, ?_⟩
      · rintro u d ρ hu hd ⟨plc, sps', rfl, L⟩
        have hd : (ls.map D.int)[u]? = some d := hd
        rw [List.getElem?_map] at hd
        obtain ⟨pl, hpl, rfl⟩ := Option.map_eq_some_iff.mp hd
        obtain ⟨hul, hpe⟩ := List.getElem?_eq_some_iff.mp hpl
        obtain ⟨p0, p1⟩ := lb pl (by rw [← hpe]; exact List.getElem_mem hul)
        obtain ⟨a, ea, eo⟩ := atI_obj (as := as) p0 (by rw [hal]; omega)
        have hjs : pl.toNat < sps'.length := by rw [L.1, F.ln]; omega
        have e' : sps'[pl.toNat]? = some sps'[pl.toNat] := List.getElem?_eq_getElem hjs
        have own := ghs_at ea e'
        have hlen : ((sps'[pl.toNat]).map D.int).length < 16777216 := by
          rw [List.length_map]
          have h1 := L.2 pl.toNat
          rw [e'] at h1
          cases hs' : sps[pl.toNat]? with
          | none => rw [hs'] at h1; cases h1
          | some l0 =>
            rw [hs'] at h1
            have h1 : sps'[pl.toNat] = if ((pl.toNat : Nat) : Int) ∈ ls.take u then l0 ++ [x] else l0 := by simpa using h1
            obtain ⟨o1, o2⟩ := F.ok l0 (List.mem_of_getElem? hs')
            have o3 := len_le_of o1 o2
            rw [List.length_take] at o3
            rw [h1]
            split
            · rw [List.length_append, List.length_singleton]; omega
            · omega
        refine ⟨_, eo, a, rfl, ⟨pl.toNat + 10, _, own⟩, pl.toNat + 10, _, own, hlen, ?_⟩
        refine ⟨.v (.int pl), sps'.set pl.toNat (sps'[pl.toNat] ++ [x]), ?_, ?_⟩
        · rw [← ghs_set ea, List.map_append]
          rfl
        · have := Laid.step L lnd hul (by rw [hpe]; exact p0) (l := sps'[pl.toNat]) (by rw [hpe]; exact e')
          rw [hpe] at this
          exact this
      · rintro ρ ⟨plc, sps', rfl, L⟩
        have L : Laid x ls ls.length sps sps' := by
          have e : (ls.map D.int).length = ls.length := List.length_map _
          rw [← e]
          exact L
        rw [← hxe] at L
        exact ⟨s, lt, _, _, _, _, sps', rfl, hs, F.next rest_nd htl L lne lb⟩
    · show if decide (((ls.map D.int).length : Int) = 0) = true then _ else _
      refine ite2 (fun h => ?_) (fun h => ?_)
      · refine ⟨(c : Int) + 1, rfl, hs, tk (by omega), fun d s2 hd hs => ?_⟩
        obtain ⟨i, rfl, i0, i1⟩ := hd
        exact hR _ ⟨s2, [i], rfl, hs, by simp, by simp, fun l hl => by rw [List.mem_singleton.mp hl]; exact ⟨i0, by omega⟩⟩
      · refine hR _ ⟨s, ls, rfl, hs, fun z => h ?_, lnd, fun l hl => lb l hl⟩
        rw [z]
        rfl
  rintro ρ ⟨s, lt, kv, pls, plc, row, sps, rfl, hs, F⟩
  have hlt : (N.cutD (kd.map D.int) (some (c : Int)) none).length = (kd.drop c).length := by rw [ecut, List.length_map]
  have F : Fill (kd.drop c) c (kd.drop c).length sps := by rw [← hlt]; exact F
  have P : Spots kd c (kd.length - c) sps := ⟨knd, hc, F.ln, rfl, fun l hl => by
    have := F.ok l hl
    rw [List.take_length] at this
    exact this⟩
  have cov : ∀ x ∈ kd.drop c, ∃ l ∈ sps, x ∈ l := fun x hx => F.cov x (by rw [List.take_length]; exact hx)
  refine ⟨q, as, sps.map (fun (l : List Int) => l.map D.int), rfl, ghs_Gh (as := as) (ls := sps) [.own p s, lt, .v (.lst (kd.map D.int)), .v (.int c), .own q (as.map D.obj), kv, pls, plc, row, .un] [] (by rw [F.ln, hal]), nd, ?_⟩
  have sl : ∀ k : Nat, k ≤ c → ∃ l, sps[k]? = some l ∧ l.length ≤ 24 := fun k hk => by
    have h : k < sps.length := by rw [F.ln]; omega
    have h2 := P.short (List.getElem_mem h)
    exact ⟨sps[k], List.getElem?_eq_getElem h, by omega⟩
  obtain ⟨l0, e0, b0⟩ := sl 0 (Nat.zero_le _)
  refine ⟨_, at_lsts e0, (false, l0.map D.int), rfl, hs, by show (l0.map D.int).length ≤ 16777216; rw [List.length_map]; omega, fun d s3 hd hs => ?_⟩
  obtain ⟨ds0, rfl, pm0⟩ := hd
  obtain ⟨r0, rfl, pr0⟩ := perm_ints pm0
  have bM : ∀ k : Nat, k ≤ c → k + (k + 1) * (kd.length - c) ≤ 1000 := fun k hk => by
    have h4 : (k + 1) * (kd.length - c) ≤ 25 * 24 := Nat.mul_le_mul (by omega) (by omega)
    omega
  refine ⟨by decide, by decide, by show -(2 ^ 62) ≤ ((c : Nat) : Int); omega, by show ((c : Nat) : Int) < 2 ^ 62; omega, fun k ρ => ∃ (s : List D) (kk : Slot) (rw_ : List Int), ρ = [.own p s, lt, .v (.lst (kd.map D.int)), .v (.int c), .own q ((sps.map fun l => l.map D.int).map D.lst), kv, pls, plc, .v (.lst (rw_.map D.int)), kk] ∧ StOk s ∧ RowI kd (kd.length - c) sps k rw_, ?_, fun _ _ _ _ => trivial, ?_, ?_⟩
  · exact ⟨s3, _, r0, rfl, hs, RowI.start P e0 pr0⟩
  · rintro k _ ρ hk rfl ⟨s, kk, rw_, rfl, hs, R⟩
    have hk : k < c := by
      have hk : k < (((c : Nat) : Int) - 0).toNat := hk
      omega
    have hkl : k < kd.length := by omega
    obtain ⟨l1, e1, b1⟩ := sl (k + 1) (by omega)
    have hrl := R.len
    have hb := bM k (by omega)
    have ez : (0 : Int) + (k : Int) = (k : Int) := Int.zero_add _
    refine ⟨_, by rw [ez]; exact at_ints (List.getElem?_eq_getElem hkl), ?_, ?_⟩
    · show (rw_.map D.int).length + 1 ≤ 16777216
      rw [List.length_map]
      omega
    refine ⟨_, by rw [ez]; exact at_lsts e1, (false, l1.map D.int), rfl, hs, by show (l1.map D.int).length ≤ 16777216; rw [List.length_map]; omega, fun d s4 hd hs => ?_⟩
    obtain ⟨ds1, rfl, pm1⟩ := hd
    obtain ⟨r1, rfl, pr1⟩ := perm_ints pm1
    refine ⟨?_, s4, .v (.int (0 + (k : Int))), rw_ ++ [kd[k]] ++ r1, ?_, hs, RowI.step P R hk hkl e1 pr1⟩
    · show (rw_.map D.int ++ [D.int kd[k]]).length + (r1.map D.int).length ≤ 16777216
      rw [List.length_append, List.length_map, List.length_map, pr1.length_eq, List.length_singleton]
      omega
    · rw [List.map_append, List.map_append]
      rfl
  · rintro ρ ⟨s, kk, rw_, rfl, hs, R⟩
    have ec : (((c : Nat) : Int) - 0).toNat = c := by omega
    rw [ec] at R
    exact ⟨⟨rw_, rfl, R.fin P pk h1 h3 cov⟩, s, rfl, hs⟩
theorem has_law_short_row (T : Tx K mg) (h_law_arrangement : Has P w K mg base "_law_arrangement" 3 ["store", "things"] (spS K sp_arr)) (h_law_take : Has P w K mg base "_law_take" 2 ["store", "many"] (spS K sp_take)) {f : Addr} {fd : FuncData} (F : Fd K "_law_short_row" s_law_short_row [] f fd) (gm : mg "_law_short_row" = some (.ref f)) : Has P w K mg base "_law_short_row" 4 ["store", "lot"] (spS K sp_short_row) := by
  exact has_of F gm (ok_law_short_row T  h_law_arrangement h_law_take F) fun _ _ _ _ _ _ us hl => match us, hl with | [_, _], _ => rfl
end
end Q
/-! C6 -/
set_option Elab.async false
set_option linter.all false
set_option maxRecDepth 100000
set_option maxHeartbeats 8000000
namespace Q
open PySem PySem.Spec PyProof.Rows L2 N
section
variable {P : Program} {w : World} {K : PySem.W.Frag} {mg : Str → Option Value} {base : Heap}
/-! _law_store -/
abbrev s_law_store : Stmt := topS 36
abbrev n_law_store : List Str := ["script", "cells", "seed", "cell", "small"]
theorem sc_law_store : FnScope n_law_store ["script"] (defScope s_law_store) := ⟨rfl, rfl, rfl, by decide +kernel, rfl, by decide +kernel, by decide +kernel⟩
theorem ok_law_store (T : Tx K mg) {f : Addr} {fd : FuncData} (F : Fd K "_law_store" s_law_store [] f fd) : FnOk P w K mg base (L2N.CX P w) 1 f fd ["script"] (spRaw K StOk) := by
  refine fnRaw_ok F sc_law_store fun cdv A outer s H E a ns hr hln hs => ?_
  refine ⟨_, (ds_cons (ds_setO (i := 1) sc_law_store.nd (dn_lst da_nil))
      (ds_cons (ds_set (i := 2) sc_law_store.nd de_int)
      (ds_cons (ds_for (passes_of rfl) (di_raw hs (by simp) (dv 0)) (dg 3 sc_law_store.nd)
      (ds_cons (ds_set (i := 4) sc_law_store.nd (de_mod (de_int1 T.b_int (da_cons (dv 3) da_nil)) de_int))
      (ds_cons (ds_set (i := 2) sc_law_store.nd (de_mod (de_int1 T.b_int (da_cons (de_add (de_add (de_mul (dv 2) de_int) (dv 4)) de_int) da_nil)) de_int))
      (ds_one (ds_if (dt_lt (dv 3) (de_powW de_int de_int))
      (ds_one (ds_expr (de_append (dv 1) (de_tup (da_cons de_int (da_cons (dv 4) da_nil))))))
      (ds_one (ds_expr (de_append (dv 1) (de_tup (da_cons de_int (da_cons (de_mod (de_int1 T.b_int (da_cons (dv 3) da_nil)) (de_powW (de_powW de_int de_int) de_int)) da_nil)))))))))))
      (ds_lock 1 (ds_one (ds_retL 5 (dn_lst (da_cons (dv 1) (da_cons de_int (da_cons de_int (da_cons de_int (da_cons (dv 2) da_nil)))))))))))), ?_⟩
  intro q
  have p0 : (0 : Int) < 2147483647 := by decide
  have c18 : CPowW 10 18 := ⟨by decide, by decide⟩
  have c60 : CPowW 10 60 := ⟨by decide, by decide⟩
  have c600 : CPowW (10 ^ (60 : Int).toNat) 10 := ⟨by decide, by decide +kernel⟩
  have p600 : (0 : Int) < (10 ^ (60 : Int).toNat) ^ (10 : Int).toNat := by decide +kernel
  refine ⟨rfl, fun k ρ => ∃ (cs : List D) (z : Int) (a1 a2 : Slot), ρ = [.v (.obj a), .own q cs, .v (.int z), a1, a2] ∧ cs.length = k ∧ ∀ c ∈ cs, CellOk c, ⟨[], _, _, _, rfl, rfl, fun c hc => by simp at hc⟩, fun _ _ _ _ => trivial, ?_, ?_⟩
  · rintro k d ρ hk ⟨i, hi, rfl⟩ ⟨cs, z, a1, a2, rfl, hl, hc⟩
    refine ⟨p0, .inr (by decide), p0, c18, ?_⟩
    have add : ∀ {m n : Int}, ∀ c ∈ cs ++ [D.tup [.int m, .int n]], CellOk c := fun {m n} c h => by
      rcases List.mem_append.mp h with h | h
      · exact hc c h
      · exact ⟨m, n, List.mem_singleton.mp h⟩
    have hlen : cs.length < 16777216 := by omega
    show if decide (i < 10 ^ (18 : Int).toNat) = true then _ else _
    refine ite2 (fun h => ?_) (fun h => ?_)
    · exact ⟨hlen, _, _, _, _, rfl, by rw [List.length_append, hl]; rfl, add⟩
    · exact ⟨c60, c600, p600, hlen, _, _, _, _, rfl, by rw [List.length_append, hl]; rfl, add⟩
  · rintro ρ ⟨cs, z, a1, a2, rfl, hl, hc⟩
    refine ⟨by show 5 ≤ 5; decide, fun p => ⟨cs, 0, 0, 0, z, rfl, hc, Int.le_refl 0⟩⟩
theorem has_law_store (T : Tx K mg) {f : Addr} {fd : FuncData} (F : Fd K "_law_store" s_law_store [] f fd) (gm : mg "_law_store" = some (.ref f)) : Has P w K mg base "_law_store" 1 ["script"] (spRaw K StOk) := by
  exact has_of F gm (ok_law_store T   F) fun _ _ _ _ _ _ us hl => match us, hl with | [_], _ => rfl
/-! the law's answering def -/
theorem bt_ValueError : bootBuiltins "ValueError" = some (.type "ValueError") := by decide +kernel
def suiteOf : List Stmt → List Stmt
  | [.Try _ [.ExceptHandler _ _ b _] _ _ _] => b
  | _ => []
def cls16 : List Str := ["BadNumber", "BadTable", "BadKind", "BadLot", "BadOrder", "BadBatch", "BadRow", "BadFold", "BadRing", "BadSlot", "BadPaper", "BadRule", "Outside", "BadText", "TooMany", "Gains"]
/-- what must be known of the class nm -/
structure KitX (K : PySem.W.Frag) (nm : Str) : Prop where
  ex : ExcC K (He.ga K nm)
  w : PySem.W.exmOne K (.ref (He.ga K nm)) (.ref (He.ga K "WorksError")) = some true
  kit : ∀ x ∈ cls16, PySem.W.kitOne K (.ref (He.ga K nm)) (.ref (He.ga K x)) = some (decide (x = nm))
  ve : PySem.W.kitOne K (.ref (He.ga K nm)) (.type "ValueError") = some true
def exBad (K : PySem.W.Frag) (x : Str) : Exn := ⟨He.ga K x, none⟩
def raisedD (nm : Str) : D := .tup [.str "raised", .lst [.str nm], .non]
def cls13 : List Str := ["BadNumber", "BadTable", "BadKind", "BadLot", "BadOrder", "BadBatch", "BadRow", "BadFold", "BadRing", "BadSlot", "BadPaper", "BadRule", "Outside"]
def AnsN (K : PySem.W.Frag) : Exn → D → Prop := fun y d => ∃ nm ∈ cls13, y = exBad K nm ∧ d = raisedD nm
def names17 : List Str := ["BadNumber", "BadTable", "BadKind", "BadLot", "BadOrder", "BadBatch", "BadRow", "BadFold", "BadRing", "BadSlot", "BadPaper", "BadRule", "Outside", "BadText", "TooMany", "Gains", "odd"]
def picked (bs : List Bool) (k : Nat) : List D := ((List.range k).filter fun j => bs.getD j false).map fun j => D.str (names17.getD j "")
theorem picked_step {bs : List Bool} {k : Nat} : picked bs (k + 1) = picked bs k ++ if bs.getD k false = true then [D.str (names17.getD k "")] else [] := by
  unfold picked
  rw [List.range_succ, List.filter_append, List.map_append]
  congr 1
  by_cases h : bs.getD k false = true
  · rw [if_pos h, List.filter_cons_of_pos (p := fun j => bs.getD j false) h]
    rfl
  · rw [if_neg h, List.filter_cons_of_neg (p := fun j => bs.getD j false) h]
    rfl
theorem at_map {α : Type} {f : α → D} {l : List α} {k : Nat} {d : α} (h : k < l.length) : atI (l.map f) (0 + (k : Int)) = some (f (l.getD k d)) := by
  rw [Int.zero_add]
  unfold atI
  rw [ixN_nat (by omega) (by rw [List.length_map]; omega), Int.toNat_natCast]
  show (l.map f)[k]? = _
  rw [List.getElem?_map, List.getD_eq_getElem?_getD, List.getElem?_eq_getElem h]
  rfl
def bsOf (nm : Str) : List Bool := cls16.map (fun x => decide (x = nm)) ++ [false]
theorem picked_all {nm : Str} (h : nm ∈ cls13) : picked (bsOf nm) 17 = [D.str nm] := by
  have h2 : ∀ nm ∈ cls13, ((List.range 17).filter fun j => (bsOf nm).getD j false).map (fun j => names17.getD j "") = [nm] := by decide +kernel
  have h3 := congrArg (List.map D.str) (h2 nm h)
  rw [List.map_map] at h3
  exact h3
theorem not3 {nm : Str} (h : nm ∈ cls13) : (decide (("BadText" : Str) = nm) = false ∧ decide (("TooMany" : Str) = nm) = false) ∧ decide (("Gains" : Str) = nm) = false := by
  have h2 : ∀ nm ∈ cls13, (decide (("BadText" : Str) = nm) = false ∧ decide (("TooMany" : Str) = nm) = false) ∧ decide (("Gains" : Str) = nm) = false := by decide +kernel
  exact h2 nm h
/-! _law_answer -/
abbrev s_law_answer : Stmt := topS 52
abbrev n_law_answer : List Str := ["call", "e", "found", "names", "value", "k"]
theorem sc_law_answer : FnScope n_law_answer ["call"] (defScope s_law_answer) := ⟨rfl, rfl, rfl, by decide +kernel, rfl, by decide +kernel, by decide +kernel⟩
abbrev su_law_answer : List Stmt := suiteOf (defBody s_law_answer)
theorem suite_law_answer (T : Tx K mg) {A : Around} {st : List Env} {s : Shared} {H : Hp} {g a C : Addr} {cdg : Value} {oe : Obj} {pn : List (Addr × Obj)} (hC : ExcC K C) (hz : L2N.Zn (.ref C) none oe) (hf : ∃ vs, oe.data = .fields vs) {nm : Str} (hnm : nm ∈ cls13) (e : C = He.ga K nm) (k : KitX K nm) :
    ∃ r, (∀ B, DSs ((cxOf C8.CX0 P w K mg base n_law_answer "_law_answer" (defScope s_law_answer) g cdg A st s H C8.E0).nox.suite a ((a, oe) :: pn)) B [] su_law_answer r) ∧ r { nx := fun _ => False, rt := fun d' _ => d' = raisedD nm } (iniE n_law_answer.length a) := by
  refine ⟨_, fun B => (ds_cons (ds_setO (i := 2) sc_law_answer.nd (dn_lst (da_cons (de_isE hC hz hf T.b_isinstance (da_cons (dv 1) (da_cons (de_obj T.c_BadNumber) da_nil))) (da_cons (de_isE hC hz hf T.b_isinstance (da_cons (dv 1) (da_cons (de_obj T.c_BadTable) da_nil))) (da_cons (de_isE hC hz hf T.b_isinstance (da_cons (dv 1) (da_cons (de_obj T.c_BadKind) da_nil))) (da_cons (de_isE hC hz hf T.b_isinstance (da_cons (dv 1) (da_cons (de_obj T.c_BadLot) da_nil))) da_nil))))))
      (ds_cons (ds_setO (i := 2) sc_law_answer.nd (dn_cat (dv 2) (de_new (dn_lst (da_cons (de_isE hC hz hf T.b_isinstance (da_cons (dv 1) (da_cons (de_obj T.c_BadOrder) da_nil))) (da_cons (de_isE hC hz hf T.b_isinstance (da_cons (dv 1) (da_cons (de_obj T.c_BadBatch) da_nil))) (da_cons (de_isE hC hz hf T.b_isinstance (da_cons (dv 1) (da_cons (de_obj T.c_BadRow) da_nil))) da_nil)))))))
      (ds_cons (ds_setO (i := 2) sc_law_answer.nd (dn_cat (dv 2) (de_new (dn_lst (da_cons (de_isE hC hz hf T.b_isinstance (da_cons (dv 1) (da_cons (de_obj T.c_BadFold) da_nil))) (da_cons (de_isE hC hz hf T.b_isinstance (da_cons (dv 1) (da_cons (de_obj T.c_BadRing) da_nil))) (da_cons (de_isE hC hz hf T.b_isinstance (da_cons (dv 1) (da_cons (de_obj T.c_BadSlot) da_nil))) da_nil)))))))
      (ds_cons (ds_setO (i := 2) sc_law_answer.nd (dn_cat (dv 2) (de_new (dn_lst (da_cons (de_isE hC hz hf T.b_isinstance (da_cons (dv 1) (da_cons (de_obj T.c_BadPaper) da_nil))) (da_cons (de_isE hC hz hf T.b_isinstance (da_cons (dv 1) (da_cons (de_obj T.c_BadRule) da_nil))) (da_cons (de_isE hC hz hf T.b_isinstance (da_cons (dv 1) (da_cons (de_obj T.c_Outside) da_nil))) da_nil)))))))
      (ds_cons (ds_setO (i := 2) sc_law_answer.nd (dn_cat (dv 2) (de_new (dn_lst (da_cons (de_isE hC hz hf T.b_isinstance (da_cons (dv 1) (da_cons (de_obj T.c_BadText) da_nil))) (da_cons (de_isE hC hz hf T.b_isinstance (da_cons (dv 1) (da_cons (de_obj T.c_TooMany) da_nil))) (da_cons (de_isE hC hz hf T.b_isinstance (da_cons (dv 1) (da_cons (de_obj T.c_Gains) da_nil))) da_nil)))))))
      (ds_cons (ds_expr (de_append (dv 2) (de_not (de_isT hC hz hf T.b_isinstance (da_cons (dv 1) (da_cons (de_ty T.b_ValueError bt_ValueError) da_nil))))))
      (ds_cons (ds_set (i := 3) sc_law_answer.nd (de_new (dn_lst (da_cons de_str (da_cons de_str (da_cons de_str (da_cons de_str (da_cons de_str (da_cons de_str (da_cons de_str (da_cons de_str (da_cons de_str da_nil))))))))))))
      (ds_cons (ds_set (i := 3) sc_law_answer.nd (de_new (dn_cat (dv 3) (de_new (dn_lst (da_cons de_str (da_cons de_str (da_cons de_str (da_cons de_str (da_cons de_str (da_cons de_str (da_cons de_str (da_cons de_str da_nil)))))))))))))
      (ds_cons (ds_set (i := 4) sc_law_answer.nd de_non)
      (ds_cons (ds_if (dt_val (de_isE hC hz hf T.b_isinstance (da_cons (dv 1) (da_cons (de_obj T.c_BadText) da_nil))))
      (ds_one (ds_set (i := 4) sc_law_answer.nd de_never))
      (ds_one (ds_if (dt_val (de_isE hC hz hf T.b_isinstance (da_cons (dv 1) (da_cons (de_obj T.c_TooMany) da_nil))))
      (ds_one (ds_set (i := 4) sc_law_answer.nd de_never))
      (ds_one (ds_if (dt_val (de_isE hC hz hf T.b_isinstance (da_cons (dv 1) (da_cons (de_obj T.c_Gains) da_nil))))
      (ds_one (ds_set (i := 4) sc_law_answer.nd de_never))
      ds_nil)))))
      (ds_one (ds_ret (de_tup (da_cons de_str (da_cons (de_new (dn_lcH (hot_suite hz hf) sc_law_answer.nd (di_range1H T.b_range (da_cons de_int da_nil)) (blkOk_by (own := [("k", 5)]) (N := n_law_answer) (sc := defScope s_law_answer) (by decide +kernel)) (fun _ _ _ _ _ _ _ => (dts_one (dt_val (de_ix (dv 2) (dv 5))))) (fun _ _ _ _ _ _ _ => (de_ix (dv 3) (dv 5))) (fun _ _ _ _ _ => pg_name (i := 5) sc_law_answer.nd rfl (Or.inl rfl)))) (da_cons (dv 4) da_nil)))))))))))))))), ?_⟩
  subst e
  have kk : ∀ x ∈ cls16, PySem.W.kitOne K (.ref (He.ga K nm)) (.ref (He.ga K x)) = some (decide (x = nm)) := k.kit
  obtain ⟨⟨n1, n2⟩, n3⟩ := not3 hnm
  refine ⟨_, _, rfl, kk "BadNumber" (by decide), _, _, rfl, kk "BadTable" (by decide), _, _, rfl, kk "BadKind" (by decide), _, _, rfl, kk "BadLot" (by decide), ?_⟩
  intro q1
  refine ⟨_, _, rfl, kk "BadOrder" (by decide), _, _, rfl, kk "BadBatch" (by decide), _, _, rfl, kk "BadRow" (by decide), (by decide : 4 + 3 ≤ 16777216), ?_⟩
  intro q2
  refine ⟨_, _, rfl, kk "BadFold" (by decide), _, _, rfl, kk "BadRing" (by decide), _, _, rfl, kk "BadSlot" (by decide), (by decide : 7 + 3 ≤ 16777216), ?_⟩
  intro q3
  refine ⟨_, _, rfl, kk "BadPaper" (by decide), _, _, rfl, kk "BadRule" (by decide), _, _, rfl, kk "Outside" (by decide), (by decide : 10 + 3 ≤ 16777216), ?_⟩
  intro q4
  refine ⟨_, _, rfl, kk "BadText" (by decide), _, _, rfl, kk "TooMany" (by decide), _, _, rfl, kk "Gains" (by decide), (by decide : 13 + 3 ≤ 16777216), ?_⟩
  intro q5
  refine ⟨_, _, rfl, k.ve, (by decide : 16 < 16777216), ?_⟩
  refine ⟨(by decide : 9 + 8 ≤ 16777216), ?_⟩
  refine ⟨_, false, rfl, (kk "BadText" (by decide)).trans (congrArg some n1), ?_⟩
  refine ⟨_, false, rfl, (kk "TooMany" (by decide)).trans (congrArg some n2), ?_⟩
  refine ⟨_, false, rfl, (kk "Gains" (by decide)).trans (congrArg some n3), ?_⟩
  refine ⟨trivial, by decide, by decide, by decide, by decide, by decide, fun k acc ρ => ρ = [.un, .v (.obj a), .own q5 ((bsOf nm).map D.bl), .v (.lst (names17.map D.str)), .v .non, .un] ∧ acc = picked (bsOf nm) k, ⟨rfl, rfl⟩, fun _ _ _ _ _ => trivial, ?_, ?_⟩
  · rintro k d acc ρ hk rfl ⟨rfl, rfl⟩
    have hk : k < 17 := hk
    have hkb : k < (bsOf nm).length := by show k < 17; exact hk
    refine ⟨_, at_map (d := false) hkb, ?_⟩
    show if (bsOf nm).getD k false = true then _ else _
    refine ite2 (fun h => ?_) (fun h => ?_)
    · refine ⟨_, at_map (f := D.str) (l := names17) (d := "") hk, rfl, ?_⟩
      rw [picked_step, if_pos h]
    · refine ⟨rfl, ?_⟩
      rw [picked_step, if_neg h, List.append_nil]
  · rintro acc ρ ⟨rfl, rfl⟩
    show D.tup [.str "raised", .lst (picked (bsOf nm) 17), .non] = raisedD nm
    rw [picked_all hnm]
    rfl
theorem gives_law_answer {X : Cx} (T : Tx X.K X.mg) (kx : ∀ nm ∈ cls13, KitX X.K nm) {q : Str} {g : Addr} {cdg : Value} : LamN.GivesToN X n_law_answer "_law_answer" (defScope s_law_answer) g cdg (defBody s_law_answer) "call" q (TTans X.K (AnsN X.K)) :=
  answer_gives (CW := He.ga X.K "WorksError") rfl T.c_WorksError (by decide) (fun _ => rfl) sc_law_answer.nd rfl rfl fun y d h => by
    obtain ⟨nm, hnm, e1, e2⟩ := h
    subst e1 e2
    exact ⟨rfl, (kx nm hnm).w, fun A st s H a oe pn hz hf => suite_law_answer T (kx nm hnm).ex hz hf hnm rfl (kx nm hnm)⟩
end
end Q
/-! C7 -/
set_option Elab.async false
set_option linter.all false
set_option maxRecDepth 100000
set_option maxHeartbeats 8000000
namespace Q
open PySem PySem.Spec PyProof.Rows L2 N
section
variable {P : Program} {w : World} {K : PySem.W.Frag} {mg : Str → Option Value} {base : Heap}
/-! rows, singles, gaps -/
def isW : D → Bool
  | .int _ => true
  | _ => false
def sp_is_whole : FS := { α := D, args := fun d => [d], pre := fun d => (ty7 d).isSome = true, post := fun d r => r = .bl (isW d) }
def sp_is_kind : FS := { α := D × Int, args := fun g => [g.1, .int g.2], pre := fun g => (ty7 g.1).isSome = true, post := fun g r => r = .bl (isK g.2 g.1) }
def sp_is_row : FS := { α := D × Int, args := fun g => [g.1, .int g.2], pre := fun g => RowIn g.1, post := fun g r => r = .bl (isRow g.2 g.1) }
def RowV (m : Int) (ns : List Int) : Prop := ns.length ≤ 200 ∧ ∀ n ∈ ns, 0 ≤ n ∧ n < m
def sp_is_row_R : SS := { α := List Int × Int, args := fun g => [.int g.2], pre := fun g => RowV g.2 g.1, post := fun g r => r = .bl true, s0 := fun g s => s = g.1.map D.int, s1 := fun g s => s = g.1.map D.int }
theorem isRow_el {m : Int} {d : D} (h : isRow m d = true) : ∃ ns : List Int, rowOf d = some (ns.map D.int) ∧ RowV m ns := by
  unfold isRow at h
  cases e : rowOf d with
  | none => rw [e] at h; cases h
  | some ds =>
    rw [e] at h
    obtain ⟨h1, h2⟩ := Bool.and_eq_true_iff.mp h
    obtain ⟨ns, rfl, hn⟩ := ints_of fun x hx => List.all_eq_true.mp h2 x hx
    exact ⟨ns, rfl, by have := of_decide_eq_true h1; rw [List.length_map] at this; exact this, hn⟩
theorem all_step {m : Int} {ds : List D} {k : Nat} (h : ∀ x ∈ ds.take k, isK m x = true) (hk : ds.length ≤ k) : ds.all (isK m) = true := by
  rw [List.take_of_length_le hk] at h
  exact List.all_eq_true.mpr h
def sp_checked_row (K : PySem.W.Frag) : FS := { α := D × Int, args := fun g => [g.1, .int g.2], pre := fun g => RowIn g.1, post := fun g r => isRow g.2 g.1 = true ∧ ∃ ds, rowOf g.1 = some ds ∧ r = .tup ds, exc := fun g x => isRow g.2 g.1 = false ∧ x = exBad K "BadRow" }
def sp_checked_row_R : SS := { α := List Int × Int, args := fun g => [.int g.2], pre := fun g => RowV g.2 g.1, post := fun g r => r = .tup (g.1.map D.int), s0 := fun g s => s = g.1.map D.int, s1 := fun g s => s = g.1.map D.int }
/-! is_whole -/
abbrev s_is_whole : Stmt := topS 21
abbrev n_is_whole : List Str := ["value"]
theorem sc_is_whole : FnScope n_is_whole ["value"] (defScope s_is_whole) := ⟨rfl, rfl, rfl, by decide +kernel, rfl, by decide +kernel, by decide +kernel⟩
theorem ok_is_whole (T : Tx K mg) {f : Addr} {fd : FuncData} (F : Fd K "is_whole" s_is_whole [] f fd) : FnOk P w K mg base (L2N.CX P w) 1 f fd ["value"] (spF K sp_is_whole) := by
  refine fn_ok F sc_is_whole sp_is_whole (fun _ => rfl) fun cdv A outer s H E g hr pre hx => ?_
  refine ⟨_, (ds_one (ds_ret (de_and (de_isi T.b_isinstance (da_cons (dv 0) (da_cons (de_ty T.b_int boot_int) da_nil))) (de_one (de_not (de_isi T.b_isinstance (da_cons (dv 0) (da_cons (de_ty T.b_bool bt_bool) da_nil)))))))), ?_⟩
  cases g <;> first | exact rfl | cases pre
theorem has_is_whole (T : Tx K mg) {f : Addr} {fd : FuncData} (F : Fd K "is_whole" s_is_whole [] f fd) (gm : mg "is_whole" = some (.ref f)) : Has P w K mg base "is_whole" 1 ["value"] (spF K sp_is_whole) := by
  exact has_of F gm (ok_is_whole T   F) fun _ _ _ _ _ _ us hl => match us, hl with | [_], _ => rfl
/-! is_kind -/
abbrev s_is_kind : Stmt := topS 22
abbrev n_is_kind : List Str := ["value", "many"]
theorem sc_is_kind : FnScope n_is_kind ["value", "many"] (defScope s_is_kind) := ⟨rfl, rfl, rfl, by decide +kernel, rfl, by decide +kernel, by decide +kernel⟩
theorem ok_is_kind (T : Tx K mg) (h_is_whole : Has P w K mg base "is_whole" 1 ["value"] (spF K sp_is_whole)) {f : Addr} {fd : FuncData} (F : Fd K "is_kind" s_is_kind [] f fd) : FnOk P w K mg base (L2N.CX P w) 2 f fd ["value", "many"] (spF K sp_is_kind) := by
  refine fn_ok F sc_is_kind sp_is_kind (fun _ => rfl) fun cdv A outer s H E g hr pre hx => ?_
  refine ⟨_, (ds_one (ds_ret (de_and (de_call h_is_whole hr (da_cons (dv 0) da_nil)) (de_one (de_chain op_le op_lt de_int (dv 0) (dv 1)))))), ?_⟩
  obtain ⟨d, m⟩ := g
  refine ⟨d, rfl, pre, fun r hr => ?_, fun _ h => h.elim⟩
  cases hr
  cases d with
  | int i =>
    show if decide (0 ≤ i) = true then _ else _
    refine ite2 (fun h => ?_) (fun h => ?_)
    · have h0 : 0 ≤ i := of_decide_eq_true h
      show D.bl (decide (i < m)) = D.bl (decide (0 ≤ i ∧ i < m))
      simp [h0]
    · have h0 : ¬ 0 ≤ i := fun z => h (decide_eq_true z)
      show D.bl false = D.bl (decide (0 ≤ i ∧ i < m))
      simp [h0]
  | _ => first | exact rfl | cases pre
theorem has_is_kind (T : Tx K mg) (h_is_whole : Has P w K mg base "is_whole" 1 ["value"] (spF K sp_is_whole)) {f : Addr} {fd : FuncData} (F : Fd K "is_kind" s_is_kind [] f fd) (gm : mg "is_kind" = some (.ref f)) : Has P w K mg base "is_kind" 2 ["value", "many"] (spF K sp_is_kind) := by
  exact has_of F gm (ok_is_kind T  h_is_whole F) fun _ _ _ _ _ _ us hl => match us, hl with | [_, _], _ => rfl
/-! is_row -/
abbrev s_is_row : Stmt := topS 23
abbrev n_is_row : List Str := ["value", "many", "kind"]
theorem sc_is_row : FnScope n_is_row ["value", "many"] (defScope s_is_row) := ⟨rfl, rfl, rfl, by decide +kernel, rfl, by decide +kernel, by decide +kernel⟩
theorem ok_is_row (T : Tx K mg) (h_is_kind : Has P w K mg base "is_kind" 2 ["value", "many"] (spF K sp_is_kind)) {f : Addr} {fd : FuncData} (F : Fd K "is_row" s_is_row [] f fd) : FnOk P w K mg base (L2N.CX P w) 3 f fd ["value", "many"] (spF K sp_is_row) := by
  refine fn_ok F sc_is_row sp_is_row (fun _ => rfl) fun cdv A outer s H E g hr pre hx => ?_
  refine ⟨_, (ds_cons (ds_if ((dw_or (dt_not (dt_val (de_isi2 T.b_isinstance (da_cons (dv 0) (da_cons (de_tup (da_cons (de_ty T.b_list bt_list) (da_cons (de_ty T.b_tuple bt_tuple) da_nil))) da_nil))))) (dw_or1 (dt_gt (de_len T.b_len (da_cons (dv 0) da_nil)) (de_globI (by rfl) T.g_PIECES))))).dt
      (ds_one (ds_ret de_bl))
      ds_nil)
      (ds_cons (ds_for (passes_of rfl) (di_seq (dv 0)) (dg 2 sc_is_row.nd)
      (ds_one (ds_if (dt_not (dt_val (de_call h_is_kind hr (da_cons (dv 2) (da_cons (dv 1) da_nil)))))
      (ds_one (ds_ret de_bl))
      ds_nil)))
      (ds_one (ds_ret de_bl)))), ?_⟩
  obtain ⟨d, m⟩ := g
  obtain ⟨p1, p2⟩ := pre
  change (ty7 d).isSome = true at p1
  cases d with
  | tup ds =>
    have p2 : ∀ x ∈ ds, (ty7 x).isSome = true := p2 ds rfl
    show if decide ((200 : Int) < ((ds.length : Nat) : Int)) = true then _ else _
    refine ite2 (fun h => ?_) (fun h => ?_)
    · have h := of_decide_eq_true h
      show D.bl false = D.bl (decide (ds.length ≤ 200) && ds.all (isK m))
      rw [decide_eq_false (by omega), Bool.false_and]
    · have h : ¬ (200 : Int) < ((ds.length : Nat) : Int) := fun z => h (decide_eq_true z)
      refine ⟨fun k ρ => (∃ kk : Slot, ρ = [.v (.tup ds), .v (.int m), kk]) ∧ ∀ x ∈ ds.take k, isK m x = true, ⟨⟨_, rfl⟩, fun x hx => by simp at hx⟩, fun _ _ _ _ => trivial, ?_, ?_⟩
      · rintro k d ρ hk hd ⟨⟨kk, rfl⟩, hall⟩
        have hd : ds[k]? = some d := hd
        have hm := List.mem_of_getElem? hd
        refine ⟨(d, m), rfl, p2 d hm, fun r hr => ?_, fun _ h => h.elim⟩
        have hr : r = .bl (isK m d) := hr
        subst hr
        show if (!isK m d) = true then _ else _
        refine ite2 (fun h2 => ?_) (fun h2 => ?_)
        · have h2 : isK m d = false := by simpa using h2
          show D.bl false = D.bl (decide (ds.length ≤ 200) && ds.all (isK m))
          have : ds.all (isK m) = false := by
            rw [List.all_eq_false]
            exact ⟨d, hm, by rw [h2]; exact Bool.false_ne_true⟩
          rw [this, Bool.and_false]
        · have h2 : isK m d = true := by simpa using h2
          refine ⟨⟨_, rfl⟩, fun x hx => ?_⟩
          rw [List.take_add_one, hd] at hx
          rcases List.mem_append.mp hx with h | h
          · exact hall x h
          · rw [List.mem_singleton.mp h]
            exact h2
      · rintro ρ ⟨⟨kk, rfl⟩, hall⟩
        show D.bl true = D.bl (decide (ds.length ≤ 200) && ds.all (isK m))
        rw [decide_eq_true (by omega), all_step hall (Nat.le_refl _)]
        rfl
  | lst ds =>
    have p2 : ∀ x ∈ ds, (ty7 x).isSome = true := p2 ds rfl
    show if decide ((200 : Int) < ((ds.length : Nat) : Int)) = true then _ else _
    refine ite2 (fun h => ?_) (fun h => ?_)
    · have h := of_decide_eq_true h
      show D.bl false = D.bl (decide (ds.length ≤ 200) && ds.all (isK m))
      rw [decide_eq_false (by omega), Bool.false_and]
    · have h : ¬ (200 : Int) < ((ds.length : Nat) : Int) := fun z => h (decide_eq_true z)
      refine ⟨fun k ρ => (∃ kk : Slot, ρ = [.v (.lst ds), .v (.int m), kk]) ∧ ∀ x ∈ ds.take k, isK m x = true, ⟨⟨_, rfl⟩, fun x hx => by simp at hx⟩, fun _ _ _ _ => trivial, ?_, ?_⟩
      · rintro k d ρ hk hd ⟨⟨kk, rfl⟩, hall⟩
        have hd : ds[k]? = some d := hd
        have hm := List.mem_of_getElem? hd
        refine ⟨(d, m), rfl, p2 d hm, fun r hr => ?_, fun _ h => h.elim⟩
        have hr : r = .bl (isK m d) := hr
        subst hr
        show if (!isK m d) = true then _ else _
        refine ite2 (fun h2 => ?_) (fun h2 => ?_)
        · have h2 : isK m d = false := by simpa using h2
          show D.bl false = D.bl (decide (ds.length ≤ 200) && ds.all (isK m))
          have : ds.all (isK m) = false := by
            rw [List.all_eq_false]
            exact ⟨d, hm, by rw [h2]; exact Bool.false_ne_true⟩
          rw [this, Bool.and_false]
        · have h2 : isK m d = true := by simpa using h2
          refine ⟨⟨_, rfl⟩, fun x hx => ?_⟩
          rw [List.take_add_one, hd] at hx
          rcases List.mem_append.mp hx with h | h
          · exact hall x h
          · rw [List.mem_singleton.mp h]
            exact h2
      · rintro ρ ⟨⟨kk, rfl⟩, hall⟩
        show D.bl true = D.bl (decide (ds.length ≤ 200) && ds.all (isK m))
        rw [decide_eq_true (by omega), all_step hall (Nat.le_refl _)]
        rfl
  | _ => first | exact rfl | cases p1
theorem has_is_row (T : Tx K mg) (h_is_kind : Has P w K mg base "is_kind" 2 ["value", "many"] (spF K sp_is_kind)) {f : Addr} {fd : FuncData} (F : Fd K "is_row" s_is_row [] f fd) (gm : mg "is_row" = some (.ref f)) : Has P w K mg base "is_row" 3 ["value", "many"] (spF K sp_is_row) := by
  exact has_of F gm (ok_is_row T  h_is_kind F) fun _ _ _ _ _ _ us hl => match us, hl with | [_, _], _ => rfl
/-! is_row -/
theorem ok_is_row_R (T : Tx K mg) (h_is_kind : Has P w K mg base "is_kind" 2 ["value", "many"] (spF K sp_is_kind)) {f : Addr} {fd : FuncData} (F : Fd K "is_row" s_is_row [] f fd) : FnOk P w K mg base (L2N.CX P w) 3 f fd ["value", "many"] (spS K sp_is_row_R) := by
  refine fnS_ok F sc_is_row sp_is_row_R (fun _ => rfl) (by decide) fun cdv A outer s H E g p ss hr pre hs => ?_
  refine ⟨_, (ds_cons (ds_if ((dw_or (dt_not (dt_val (de_isi2 T.b_isinstance (da_cons (dv 0) (da_cons (de_tup (da_cons (de_ty T.b_list bt_list) (da_cons (de_ty T.b_tuple bt_tuple) da_nil))) da_nil))))) (dw_or1 (dt_gt (de_len T.b_len (da_cons (dv 0) da_nil)) (de_globI (by rfl) T.g_PIECES))))).dt
      (ds_one (ds_ret de_bl))
      ds_nil)
      (ds_cons (ds_for (passes_of rfl) (di_seq (dv 0)) (dg 2 sc_is_row.nd)
      (ds_one (ds_if (dt_not (dt_val (de_call h_is_kind hr (da_cons (dv 2) (da_cons (dv 1) da_nil)))))
      (ds_one (ds_ret de_bl))
      ds_nil)))
      (ds_one (ds_ret de_bl)))), ?_⟩
  obtain ⟨ns, m⟩ := g
  obtain ⟨p1, p2⟩ := pre
  change ns.length ≤ 200 at p1
  have hs : ss = ns.map D.int := hs
  subst hs
  have el : ((ns.map D.int).length : Nat) = ns.length := List.length_map _
  show if decide ((200 : Int) < (((ns.map D.int).length : Nat) : Int)) = true then _ else _
  rw [if_neg (by rw [el]; simp; omega)]
  refine ⟨fun k ρ => ∃ kk : Slot, ρ = [.own p (ns.map D.int), .v (.int m), kk], ⟨_, rfl⟩, fun k ρ _ ⟨kk, e⟩ => ⟨p, rfl, by rw [e]; rfl⟩, ?_, ?_⟩
  · rintro k d ρ hk hd ⟨kk, rfl⟩
    have hd : (ns.map D.int)[k]? = some d := hd
    obtain ⟨n, hn, rfl⟩ := List.mem_map.mp (List.mem_of_getElem? hd)
    refine ⟨(.int n, m), rfl, rfl, fun r hr => ?_, fun _ h => h.elim⟩
    have hr : r = .bl (decide (0 ≤ n ∧ n < m)) := hr
    rw [decide_eq_true (p2 n hn)] at hr
    subst hr
    exact ⟨_, rfl⟩
  · rintro ρ ⟨kk, rfl⟩
    exact ⟨rfl, _, rfl, rfl⟩
theorem has_is_row_R (T : Tx K mg) (h_is_kind : Has P w K mg base "is_kind" 2 ["value", "many"] (spF K sp_is_kind)) {f : Addr} {fd : FuncData} (F : Fd K "is_row" s_is_row [] f fd) (gm : mg "is_row" = some (.ref f)) : Has P w K mg base "is_row" 3 ["value", "many"] (spS K sp_is_row_R) := by
  exact has_of F gm (ok_is_row_R T  h_is_kind F) fun _ _ _ _ _ _ us hl => match us, hl with | [_, _], _ => rfl
/-! checked_row -/
abbrev s_checked_row : Stmt := topS 24
abbrev n_checked_row : List Str := ["row", "many"]
theorem sc_checked_row : FnScope n_checked_row ["row", "many"] (defScope s_checked_row) := ⟨rfl, rfl, rfl, by decide +kernel, rfl, by decide +kernel, by decide +kernel⟩
theorem ok_checked_row (T : Tx K mg) (h_is_row : Has P w K mg base "is_row" 3 ["value", "many"] (spF K sp_is_row)) {f : Addr} {fd : FuncData} (F : Fd K "checked_row" s_checked_row (intD [8]) f fd) : FnOk P w K mg base (L2N.CX P w) 4 f fd ["row", "many"] (spF K (sp_checked_row K)) := by
  refine fn_ok F sc_checked_row (sp_checked_row K) (fun _ => rfl) fun cdv A outer s H E g hr pre hx => ?_
  refine ⟨_, (ds_cons (ds_if (dt_not (dt_val (de_call h_is_row hr (da_cons (dv 0) (da_cons (dv 1) da_nil)))))
      (ds_one (ds_raise (L2N.takes_of rfl rfl rfl rfl) hx PySem.F.excBase_ValueError T.x_BadRow.1 T.c_BadRow T.x_BadRow.2.1 (raises_own T.x_BadRow.2.2.1 T.x_BadRow.2.2.2)))
      ds_nil)
      (ds_one (ds_ret (de_tuple T.b_tuple (da_cons (dv 0) da_nil))))), ?_⟩
  obtain ⟨d, m⟩ := g
  refine ⟨(d, m), rfl, pre, fun r hr => ?_, fun _ h => h.elim⟩
  have hr : r = .bl (isRow m d) := hr
  subst hr
  show if (!isRow m d) = true then _ else _
  refine ite2 (fun h => ?_) (fun h => ?_)
  · exact ⟨by simpa using h, rfl⟩
  · have h : isRow m d = true := by simpa using h
    cases d with
    | tup ds => exact ⟨h, ds, rfl, rfl⟩
    | lst ds => exact ⟨h, ds, rfl, rfl⟩
    | _ => cases h
theorem has_checked_row (T : Tx K mg) (h_is_row : Has P w K mg base "is_row" 3 ["value", "many"] (spF K sp_is_row)) {f : Addr} {fd : FuncData} (F : Fd K "checked_row" s_checked_row (intD [8]) f fd) (gm : mg "checked_row" = some (.ref f)) : HasD P w K mg base "checked_row" 4 ["row", "many"] (intD [8]) (spF K (sp_checked_row K)) := by
  exact hasD_of (n := 1) (j := 0) F gm (ok_checked_row T  h_is_row F) (by simp [N.intD]) rfl fun T kV doc pm an cdv ct us its h1 h2 => match us, its, h1, h2 with | [_], [_], _, _ => ⟨_, rfl, rfl⟩
/-! checked_row -/
theorem ok_checked_row_R (T : Tx K mg) (h_is_row_R : Has P w K mg base "is_row" 3 ["value", "many"] (spS K sp_is_row_R)) {f : Addr} {fd : FuncData} (F : Fd K "checked_row" s_checked_row (intD [8]) f fd) : FnOk P w K mg base (L2N.CX P w) 4 f fd ["row", "many"] (spS K sp_checked_row_R) := by
  refine fnS_ok F sc_checked_row sp_checked_row_R (fun _ => rfl) (by decide) fun cdv A outer s H E g p ss hr pre hs => ?_
  refine ⟨_, (ds_cons (ds_if (dt_not (dt_val (de_callS h_is_row_R hr (dv 0) (da_cons (dv 1) da_nil))))
      (ds_one (ds_raise (L2N.takes_of rfl rfl rfl rfl) (Xp := fun _ => False) (fun _ _ _ _ z => z.elim) PySem.F.excBase_ValueError T.x_BadRow.1 T.c_BadRow T.x_BadRow.2.1 (raises_own T.x_BadRow.2.2.1 T.x_BadRow.2.2.2)))
      ds_nil)
      (ds_one (ds_ret (de_tuple T.b_tuple (da_cons (dv 0) da_nil))))), ?_⟩
  obtain ⟨ns, m⟩ := g
  have hs : ss = ns.map D.int := hs
  subst hs
  refine ⟨(ns, m), rfl, rfl, pre, fun r s' hr hs' => ?_⟩
  have hr : r = .bl true := hr
  have hs' : s' = ns.map D.int := hs'
  subst hr hs'
  exact ⟨rfl, _, rfl, rfl⟩
theorem has_checked_row_R (T : Tx K mg) (h_is_row_R : Has P w K mg base "is_row" 3 ["value", "many"] (spS K sp_is_row_R)) {f : Addr} {fd : FuncData} (F : Fd K "checked_row" s_checked_row (intD [8]) f fd) (gm : mg "checked_row" = some (.ref f)) : HasD P w K mg base "checked_row" 4 ["row", "many"] (intD [8]) (spS K sp_checked_row_R) := by
  exact hasD_of (n := 1) (j := 0) F gm (ok_checked_row_R T  h_is_row_R F) (by simp [N.intD]) rfl fun T kV doc pm an cdv ct us its h1 h2 => match us, its, h1, h2 with | [_], [_], _, _ => ⟨_, rfl, rfl⟩
/-- the kinds that stand once -/
def singlesOf (ns : List Int) : List Int := (rgI 8).filter fun k => decide ((ns.count k : Int) = 1)
def gapGo (al : List Int) : List Int → List Int → List (List Int)
  | [], g => [g]
  | k :: r, g => if k ∈ al then g :: gapGo al r [] else gapGo al r (g ++ [k])
def gapsOf (ns : List Int) : List (List Int) := gapGo (singlesOf ns) ns []
def dTup (ns : List Int) : D := .tup (ns.map D.int)
def dTups (gs : List (List Int)) : D := .tup (gs.map dTup)
def nodupB (ns : List Int) : Bool := decide ns.Nodup
def isShort (ns : List Int) : Bool := !ns.isEmpty && (gapsOf ns).all nodupB
def sp_singles_of : FS := { α := List Int, args := fun ns => [dTup ns], pre := fun _ => True, post := fun ns r => r = dTup (singlesOf ns) }
def sp_gaps_of : FS := { α := List Int, args := fun ns => [dTup ns], pre := fun ns => ns.length ≤ 200, post := fun ns r => r = dTups (gapsOf ns) }
theorem rg_take (k : Nat) : (rgI ((k : Nat) + 1 : Int)) = rgI (k : Nat) ++ [(k : Int)] := by
  unfold rgI
  rw [show ((k : Int) + 1).toNat = k + 1 from by omega, Int.toNat_natCast, List.range_succ, List.map_append]
  rfl
/-! singles_of -/
abbrev s_singles_of : Stmt := topS 25
abbrev n_singles_of : List Str := ["pieces", "kind"]
theorem sc_singles_of : FnScope n_singles_of ["pieces"] (defScope s_singles_of) := ⟨rfl, rfl, rfl, by decide +kernel, rfl, by decide +kernel, by decide +kernel⟩
theorem ok_singles_of (T : Tx K mg) {f : Addr} {fd : FuncData} (F : Fd K "singles_of" s_singles_of [] f fd) : FnOk P w K mg base (L2N.CX P w) 1 f fd ["pieces"] (spF K sp_singles_of) := by
  refine fn_ok F sc_singles_of sp_singles_of (fun _ => rfl) fun cdv A outer s H E g hr pre hx => ?_
  refine ⟨_, (ds_one (ds_ret (de_tuple T.b_tuple (da_cons (de_new (dn_lc sc_singles_of.nd (di_range1 T.b_range (da_cons (de_globI (by rfl) T.g_KINDS) da_nil)) (blkOk_by (own := [("kind", 1)]) (N := n_singles_of) (sc := defScope s_singles_of) (by decide +kernel)) (fun _ _ _ _ _ _ _ => (dts_one (dt_eq (de_countT (dv 0) (dv 1)) de_int))) (fun _ _ _ _ _ _ _ => (dv 1)) (fun _ _ _ _ _ => pg_name (i := 1) sc_singles_of.nd rfl (Or.inl rfl)))) da_nil)))), ?_⟩
  change List Int at g
  refine ⟨trivial, by decide, by decide, by decide, by decide, by decide, fun k acc ρ => ρ = [.v (dTup g), .un] ∧ acc = ((rgI k).filter fun k => decide ((g.count k : Int) = 1)).map D.int, ⟨rfl, rfl⟩, fun _ _ _ _ _ => trivial, ?_, ?_⟩
  · rintro k _ acc ρ hk rfl ⟨rfl, rfl⟩
    refine ⟨⟨_, rfl⟩, g, rfl, ?_⟩
    show if decide ((g.count (0 + (k : Int)) : Int) = 1) = true then _ else _
    refine ite2 (fun h => ?_) (fun h => ?_)
    · refine ⟨rfl, ?_⟩
      rw [Int.zero_add] at h
      show _ = ((rgI ((k : Nat) + 1 : Int)).filter _).map D.int
      rw [rg_take, List.filter_append, List.map_append, List.filter_cons_of_pos (p := fun k => decide ((g.count k : Int) = 1)) h, Int.zero_add]
      rfl
    · refine ⟨rfl, ?_⟩
      rw [Int.zero_add] at h
      show _ = ((rgI ((k : Nat) + 1 : Int)).filter _).map D.int
      rw [rg_take, List.filter_append, List.map_append, List.filter_cons_of_neg (p := fun k => decide ((g.count k : Int) = 1)) h]
      simp
  · rintro acc ρ ⟨rfl, rfl⟩ 
    exact rfl
theorem has_singles_of (T : Tx K mg) {f : Addr} {fd : FuncData} (F : Fd K "singles_of" s_singles_of [] f fd) (gm : mg "singles_of" = some (.ref f)) : Has P w K mg base "singles_of" 1 ["pieces"] (spF K sp_singles_of) := by
  exact has_of F gm (ok_singles_of T   F) fun _ _ _ _ _ _ us hl => match us, hl with | [_], _ => rfl
theorem singles_sub {ns : List Int} {k : Int} (h : k ∈ singlesOf ns) : ns.count k = 1 := by
  have := (List.mem_filter.mp h).2
  have := of_decide_eq_true this
  omega
theorem gapGo_len (al : List Int) : ∀ (ns g : List Int), (gapGo al ns g).length ≤ ns.length + 1
  | [], g => by simp [gapGo]
  | k :: r, g => by
    rw [gapGo]
    split
    · have := gapGo_len al r []
      simp only [List.length_cons]
      omega
    · have := gapGo_len al r (g ++ [k])
      simp only [List.length_cons]
      omega
/-! gaps_of -/
abbrev s_gaps_of : Stmt := topS 26
abbrev n_gaps_of : List Str := ["pieces", "alone", "done", "gap", "kind"]
theorem sc_gaps_of : FnScope n_gaps_of ["pieces"] (defScope s_gaps_of) := ⟨rfl, rfl, rfl, by decide +kernel, rfl, by decide +kernel, by decide +kernel⟩
theorem ok_gaps_of (T : Tx K mg) (h_singles_of : Has P w K mg base "singles_of" 1 ["pieces"] (spF K sp_singles_of)) {f : Addr} {fd : FuncData} (F : Fd K "gaps_of" s_gaps_of [] f fd) : FnOk P w K mg base (L2N.CX P w) 2 f fd ["pieces"] (spF K sp_gaps_of) := by
  refine fn_ok F sc_gaps_of sp_gaps_of (fun _ => rfl) fun cdv A outer s H E g hr pre hx => ?_
  refine ⟨_, (ds_cons (ds_set (i := 1) sc_gaps_of.nd (de_call h_singles_of hr (da_cons (dv 0) da_nil)))
      (ds_cons (ds_setO (i := 2) sc_gaps_of.nd (dn_lst da_nil))
      (ds_cons (ds_setO (i := 3) sc_gaps_of.nd (dn_lst da_nil))
      (ds_cons (ds_for (passes_of rfl) (di_seq (dv 0)) (dg 4 sc_gaps_of.nd)
      (ds_one (ds_if (dt_in (dv 4) (dv 1))
      (ds_cons (ds_expr (de_append (dv 2) (de_tuple T.b_tuple (da_cons (dv 3) da_nil))))
      (ds_one (ds_setO (i := 3) sc_gaps_of.nd (dn_lst da_nil))))
      (ds_one (ds_expr (de_append (dv 3) (dv 4)))))))
      (ds_cons (ds_expr (de_append (dv 2) (de_tuple T.b_tuple (da_cons (dv 3) da_nil))))
      (ds_one (ds_ret (de_tuple T.b_tuple (da_cons (dv 2) da_nil))))))))), ?_⟩
  change List Int at g
  have pre : g.length ≤ 200 := pre
  refine ⟨g, rfl, trivial, fun r hr => ?_, fun _ h => h.elim⟩
  have hr : r = dTup (singlesOf g) := hr
  subst hr
  intro q q2
  refine ⟨fun k ρ => ∃ (qq : Addr) (dn : List (List Int)) (gp : List Int) (kk : Slot), ρ = [.v (dTup g), .v (dTup (singlesOf g)), .own q (dn.map dTup), .own qq (gp.map D.int), kk] ∧ gapsOf g = dn ++ gapGo (singlesOf g) (g.drop k) gp ∧ dn.length ≤ k ∧ gp.length ≤ k, ⟨_, [], [], _, rfl, by rw [List.drop_zero]; rfl, Nat.le_refl _, Nat.le_refl _⟩, fun _ _ _ _ => trivial, ?_, ?_⟩
  · rintro k d ρ hk hd ⟨qq, dn, gp, kk, rfl, hg, l1, l2⟩
    have hd : (g.map D.int)[k]? = some d := hd
    rw [List.getElem?_map] at hd
    obtain ⟨x, hx, rfl⟩ := Option.map_eq_some_iff.mp hd
    obtain ⟨hkl, hxe⟩ := List.getElem?_eq_some_iff.mp hx
    have ed : g.drop k = x :: g.drop (k + 1) := by rw [← hxe]; exact List.drop_eq_getElem_cons hkl
    rw [ed, gapGo] at hg
    refine ⟨x, true, singlesOf g, rfl, rfl, ?_⟩
    show if decide (x ∈ singlesOf g) = true then _ else _
    refine ite2 (fun h => ?_) (fun h => ?_)
    · rw [if_pos (of_decide_eq_true h)] at hg
      refine ⟨by rw [List.length_map]; omega, fun q3 => ⟨q3, dn ++ [gp], [], .v (.int x), by rw [List.map_append]; rfl, by rw [hg, List.append_assoc]; rfl, by rw [List.length_append, List.length_singleton]; omega, Nat.zero_le _⟩⟩
    · rw [if_neg (fun z => h (decide_eq_true z))] at hg
      exact ⟨by rw [List.length_map]; omega, qq, dn, gp ++ [x], .v (.int x), by rw [List.map_append]; rfl, hg, by omega, by rw [List.length_append, List.length_singleton]; omega⟩
  · rintro ρ ⟨qq, dn, gp, kk, rfl, hg, l1, l2⟩
    have el : (g.map D.int).length = g.length := List.length_map _
    rw [el] at hg l1
    rw [List.drop_length, gapGo] at hg
    refine ⟨by rw [List.length_map]; omega, ?_⟩
    show D.tup (dn.map dTup ++ [dTup gp]) = dTups (gapsOf g)
    rw [hg, dTups, List.map_append]
    rfl
theorem has_gaps_of (T : Tx K mg) (h_singles_of : Has P w K mg base "singles_of" 1 ["pieces"] (spF K sp_singles_of)) {f : Addr} {fd : FuncData} (F : Fd K "gaps_of" s_gaps_of [] f fd) (gm : mg "gaps_of" = some (.ref f)) : Has P w K mg base "gaps_of" 2 ["pieces"] (spF K sp_gaps_of) := by
  exact has_of F gm (ok_gaps_of T  h_singles_of F) fun _ _ _ _ _ _ us hl => match us, hl with | [_], _ => rfl
/-- what a function of a row does: f of the pieces, or BadRow -/
def sp_lib (K : PySem.W.Frag) (f : List Int → D) : FS := { α := D, args := fun d => [d], pre := fun d => RowIn d, post := fun d r => ∃ ns : List Int, isRow 8 d = true ∧ rowOf d = some (ns.map D.int) ∧ RowV 8 ns ∧ r = f ns, exc := fun d x => isRow 8 d = false ∧ x = exBad K "BadRow" }
def sp_libR (f : List Int → D) : SS := { α := List Int, args := fun _ => [], pre := fun ns => RowV 8 ns, post := fun ns r => r = f ns, s0 := fun ns s => s = ns.map D.int, s1 := fun ns s => s = ns.map D.int }
def fS (ns : List Int) : D := dTup (singlesOf ns)
def fG (ns : List Int) : D := dTups (gapsOf ns)
def fH (ns : List Int) : D := .bl (isShort ns)
abbrev sp_lib_S (K : PySem.W.Frag) : FS := sp_lib K fS
abbrev sp_lib_G (K : PySem.W.Frag) : FS := sp_lib K fG
abbrev sp_lib_H (K : PySem.W.Frag) : FS := sp_lib K fH
abbrev sp_libR_S : SS := sp_libR fS
abbrev sp_libR_G : SS := sp_libR fG
abbrev sp_libR_H : SS := sp_libR fH
theorem lib_el {d : D} {ds : List D} (h : isRow 8 d = true) (e : rowOf d = some ds) : ∃ ns : List Int, ds = ns.map D.int ∧ rowOf d = some (ns.map D.int) ∧ RowV 8 ns := by
  obtain ⟨ns, e2, v⟩ := isRow_el h
  rw [e] at e2
  cases e2
  exact ⟨ns, rfl, e, v⟩
/-- as many as a list has, where it has none twice -/
theorem ndl : ∀ ns : List Int, ∃ us : List Int, us.Nodup ∧ (∀ k, k ∈ us ↔ k ∈ ns) ∧ us.length ≤ ns.length ∧ (us.length = ns.length → ns.Nodup)
  | [] => ⟨[], List.nodup_nil, fun _ => Iff.rfl, Nat.le_refl _, fun _ => List.nodup_nil⟩
  | x :: ns => by
    obtain ⟨us, h1, h2, h3, h4⟩ := ndl ns
    by_cases hx : x ∈ ns
    · refine ⟨us, h1, fun k => ?_, by rw [List.length_cons]; omega, fun e => by rw [List.length_cons] at e; omega⟩
      rw [h2 k, List.mem_cons]
      exact ⟨.inr, fun h => h.elim (fun e => e ▸ hx) id⟩
    · refine ⟨x :: us, List.nodup_cons.mpr ⟨fun z => hx ((h2 x).mp z), h1⟩, fun k => by rw [List.mem_cons, List.mem_cons, h2 k], by rw [List.length_cons, List.length_cons]; omega, fun e => ?_⟩
      rw [List.length_cons, List.length_cons] at e
      exact List.nodup_cons.mpr ⟨hx, h4 (by omega)⟩
theorem set_len {us ns : List Int} (h : us.Nodup) (hm : ∀ k, k ∈ us ↔ k ∈ ns) : decide ((us.length : Int) < ns.length) = !nodupB ns := by
  obtain ⟨vs, v1, v2, v3, v4⟩ := ndl ns
  have e1 : us.length ≤ vs.length := len_le_of h fun x hx => (v2 x).mpr ((hm x).mp hx)
  have e2 : vs.length ≤ us.length := len_le_of v1 fun x hx => (hm x).mpr ((v2 x).mp hx)
  unfold nodupB
  by_cases hn : ns.Nodup
  · have e3 : ns.length ≤ us.length := len_le_of hn fun x hx => (hm x).mpr hx
    rw [decide_eq_true hn, decide_eq_false (by omega)]
    rfl
  · have : vs.length ≠ ns.length := fun z => hn (v4 z)
    rw [decide_eq_false hn, decide_eq_true (by omega)]
    rfl
theorem gapGo_short (al : List Int) : ∀ (ns g x : List Int), x ∈ gapGo al ns g → x.length ≤ g.length + ns.length
  | [], g, x, h => by
    rw [gapGo] at h
    rw [List.mem_singleton.mp h]
    omega
  | k :: r, g, x, h => by
    rw [gapGo] at h
    split at h
    · rcases List.mem_cons.mp h with rfl | h
      · omega
      · have := gapGo_short al r [] x h
        simp only [List.length_cons, List.length_nil] at this ⊢
        omega
    · have := gapGo_short al r (g ++ [k]) x h
      simp only [List.length_cons, List.length_append, List.length_nil] at this ⊢
      omega
theorem isShort_of {ns : List Int} (h : ns ≠ []) {b : Bool} (hb : (gapsOf ns).all nodupB = b) : isShort ns = b := by
  unfold isShort
  rw [hb]
  cases ns with
  | nil => exact absurd rfl h
  | cons a r => simp
/-! is_short -/
abbrev s_is_short : Stmt := topS 27
abbrev n_is_short : List Str := ["row", "pieces", "gap"]
theorem sc_is_short : FnScope n_is_short ["row"] (defScope s_is_short) := ⟨rfl, rfl, rfl, by decide +kernel, rfl, by decide +kernel, by decide +kernel⟩
theorem ok_is_short (T : Tx K mg) (h_checked_row : HasD P w K mg base "checked_row" 4 ["row", "many"] (intD [8]) (spF K (sp_checked_row K))) (h_gaps_of : Has P w K mg base "gaps_of" 2 ["pieces"] (spF K sp_gaps_of)) {f : Addr} {fd : FuncData} (F : Fd K "is_short" s_is_short [] f fd) : FnOk P w K mg base (L2N.CX P w) 5 f fd ["row"] (spF K (sp_lib_H K)) := by
  refine fn_ok F sc_is_short (sp_lib_H K) (fun _ => rfl) fun cdv A outer s H E g hr pre hx => ?_
  refine ⟨_, (ds_cons (ds_set (i := 1) sc_is_short.nd (de_callXD h_checked_row hr (L2N.passes_call (L2N.takes_of rfl rfl rfl rfl) (fun _ _ _ _ h => h)) hx (da_cons (dv 0) da_nil)))
      (ds_cons (ds_if (dt_eq (de_len T.b_len (da_cons (dv 1) da_nil)) de_int)
      (ds_one (ds_ret de_bl))
      ds_nil)
      (ds_cons (ds_for (passes_of rfl) (di_seq (de_call h_gaps_of (hr.mono (by decide : 2 ≤ 4)) (da_cons (dv 1) da_nil))) (dg 2 sc_is_short.nd)
      (ds_one (ds_if (dt_lt (de_lenset T.b_len T.b_set (dv 2)) (de_len T.b_len (da_cons (dv 2) da_nil)))
      (ds_one (ds_ret de_bl))
      ds_nil)))
      (ds_one (ds_ret de_bl))))), ?_⟩
  change D at g
  refine ⟨(g, 8), rfl, pre, fun r hr => ?_, fun x hx => hx⟩
  obtain ⟨h1, ds, e, rfl⟩ := hr
  obtain ⟨ns, rfl, e, v⟩ := lib_el h1 e
  have eld : ((ns.map D.int).length : Nat) = ns.length := List.length_map _
  show if decide ((((ns.map D.int).length : Nat) : Int) = 0) = true then _ else _
  refine ite2 (fun h => ?_) (fun h => ?_)
  · have h := of_decide_eq_true h
    have e0 : ns = [] := List.length_eq_zero_iff.mp (by rw [eld] at h; omega)
    subst e0
    exact ⟨[], h1, e, v, rfl⟩
  · have hne : ns ≠ [] := fun z => h (by rw [z]; rfl)
    refine ⟨ns, rfl, v.1, fun r hr => ?_, fun _ h => h.elim⟩
    have hr : r = dTups (gapsOf ns) := hr
    subst hr
    refine ⟨fun k ρ => (∃ kk : Slot, ρ = [.v g, .v (.tup (ns.map D.int)), kk]) ∧ ∀ x ∈ (gapsOf ns).take k, nodupB x = true, ⟨⟨_, rfl⟩, fun x hx => by simp at hx⟩, fun _ _ _ _ => trivial, ?_, ?_⟩
    · rintro k d ρ hk hd ⟨⟨kk, rfl⟩, hall⟩
      have hd : ((gapsOf ns).map dTup)[k]? = some d := hd
      rw [List.getElem?_map] at hd
      obtain ⟨gp, hgp, rfl⟩ := Option.map_eq_some_iff.mp hd
      have hm := List.mem_of_getElem? hgp
      have hgl := gapGo_short _ _ _ _ hm
      rw [List.length_nil, Nat.zero_add] at hgl
      have hv := v.1
      refine ⟨gp, rfl, by omega, fun us u1 u2 => ?_⟩
      show if decide ((us.length : Int) < ((gp.map D.int).length : Nat)) = true then _ else _
      rw [List.length_map, set_len u1 u2]
      refine ite2 (fun h2 => ?_) (fun h2 => ?_)
      · have h2 : nodupB gp = false := by simpa using h2
        have e3 : isShort ns = false := isShort_of hne (by rw [List.all_eq_false]; exact ⟨gp, hm, by rw [h2]; exact Bool.false_ne_true⟩)
        exact ⟨ns, h1, e, v, by rw [fH, e3]⟩
      · have h2 : nodupB gp = true := by simpa using h2
        refine ⟨⟨_, rfl⟩, fun x hx => ?_⟩
        rw [List.take_add_one, hgp] at hx
        rcases List.mem_append.mp hx with h | h
        · exact hall x h
        · rw [List.mem_singleton.mp h]
          exact h2
    · rintro ρ ⟨⟨kk, rfl⟩, hall⟩
      have e3 : isShort ns = true := isShort_of hne (List.all_eq_true.mpr fun x hx => hall x (by rw [List.take_of_length_le (by rw [List.length_map]; exact Nat.le_refl _)]; exact hx))
      exact ⟨ns, h1, e, v, by rw [fH, e3]⟩
theorem has_is_short (T : Tx K mg) (h_checked_row : HasD P w K mg base "checked_row" 4 ["row", "many"] (intD [8]) (spF K (sp_checked_row K))) (h_gaps_of : Has P w K mg base "gaps_of" 2 ["pieces"] (spF K sp_gaps_of)) {f : Addr} {fd : FuncData} (F : Fd K "is_short" s_is_short [] f fd) (gm : mg "is_short" = some (.ref f)) : Has P w K mg base "is_short" 5 ["row"] (spF K (sp_lib_H K)) := by
  exact has_of F gm (ok_is_short T  h_checked_row h_gaps_of F) fun _ _ _ _ _ _ us hl => match us, hl with | [_], _ => rfl
/-! is_short -/
theorem ok_is_short_R (T : Tx K mg) (h_checked_row_R : HasD P w K mg base "checked_row" 4 ["row", "many"] (intD [8]) (spS K sp_checked_row_R)) (h_gaps_of : Has P w K mg base "gaps_of" 2 ["pieces"] (spF K sp_gaps_of)) {f : Addr} {fd : FuncData} (F : Fd K "is_short" s_is_short [] f fd) : FnOk P w K mg base (L2N.CX P w) 5 f fd ["row"] (spS K sp_libR_H) := by
  refine fnS_ok F sc_is_short sp_libR_H (fun _ => rfl) (by decide) fun cdv A outer s H E g p ss hr pre hs => ?_
  refine ⟨_, (ds_cons (ds_set (i := 1) sc_is_short.nd (de_callSD h_checked_row_R hr (dv 0) da_nil))
      (ds_cons (ds_if (dt_eq (de_len T.b_len (da_cons (dv 1) da_nil)) de_int)
      (ds_one (ds_ret de_bl))
      ds_nil)
      (ds_cons (ds_for (passes_of rfl) (di_seq (de_call h_gaps_of (hr.mono (by decide : 2 ≤ 4)) (da_cons (dv 1) da_nil))) (dg 2 sc_is_short.nd)
      (ds_one (ds_if (dt_lt (de_lenset T.b_len T.b_set (dv 2)) (de_len T.b_len (da_cons (dv 2) da_nil)))
      (ds_one (ds_ret de_bl))
      ds_nil)))
      (ds_one (ds_ret de_bl))))), ?_⟩
  change List Int at g
  have hs : ss = g.map D.int := hs
  subst hs
  refine ⟨(g, 8), rfl, rfl, pre, fun r s' hr hs' => ?_⟩
  have hr : r = .tup (g.map D.int) := hr
  have hs' : s' = g.map D.int := hs'
  subst hr hs'
  have eld : ((g.map D.int).length : Nat) = g.length := List.length_map _
  show if decide ((((g.map D.int).length : Nat) : Int) = 0) = true then _ else _
  refine ite2 (fun h => ?_) (fun h => ?_)
  · have h := of_decide_eq_true h
    have e0 : g = [] := List.length_eq_zero_iff.mp (by rw [eld] at h; omega)
    subst e0
    exact ⟨rfl, _, rfl, rfl⟩
  · have hne : g ≠ [] := fun z => h (by rw [z]; rfl)
    refine ⟨g, rfl, pre.1, fun r hr => ?_, fun _ h => h.elim⟩
    have hr : r = dTups (gapsOf g) := hr
    subst hr
    refine ⟨fun k ρ => (∃ kk : Slot, ρ = [.own p (g.map D.int), .v (.tup (g.map D.int)), kk]) ∧ ∀ x ∈ (gapsOf g).take k, nodupB x = true, ⟨⟨_, rfl⟩, fun x hx => by simp at hx⟩, fun _ _ _ _ => trivial, ?_, ?_⟩
    · rintro k d ρ hk hd ⟨⟨kk, rfl⟩, hall⟩
      have hd : ((gapsOf g).map dTup)[k]? = some d := hd
      rw [List.getElem?_map] at hd
      obtain ⟨gp, hgp, rfl⟩ := Option.map_eq_some_iff.mp hd
      have hm := List.mem_of_getElem? hgp
      have hgl := gapGo_short _ _ _ _ hm
      rw [List.length_nil, Nat.zero_add] at hgl
      have hv := pre.1
      refine ⟨gp, rfl, by omega, fun us u1 u2 => ?_⟩
      show if decide ((us.length : Int) < ((gp.map D.int).length : Nat)) = true then _ else _
      rw [List.length_map, set_len u1 u2]
      refine ite2 (fun h2 => ?_) (fun h2 => ?_)
      · have h2 : nodupB gp = false := by simpa using h2
        have e3 : isShort g = false := isShort_of hne (by rw [List.all_eq_false]; exact ⟨gp, hm, by rw [h2]; exact Bool.false_ne_true⟩)
        exact ⟨by show D.bl _ = D.bl (isShort g); rw [e3], _, rfl, rfl⟩
      · have h2 : nodupB gp = true := by simpa using h2
        refine ⟨⟨_, rfl⟩, fun x hx => ?_⟩
        rw [List.take_add_one, hgp] at hx
        rcases List.mem_append.mp hx with h | h
        · exact hall x h
        · rw [List.mem_singleton.mp h]
          exact h2
    · rintro ρ ⟨⟨kk, rfl⟩, hall⟩
      have e3 : isShort g = true := isShort_of hne (List.all_eq_true.mpr fun x hx => hall x (by rw [List.take_of_length_le (by rw [List.length_map]; exact Nat.le_refl _)]; exact hx))
      exact ⟨by show D.bl _ = D.bl (isShort g); rw [e3], _, rfl, rfl⟩
theorem has_is_short_R (T : Tx K mg) (h_checked_row_R : HasD P w K mg base "checked_row" 4 ["row", "many"] (intD [8]) (spS K sp_checked_row_R)) (h_gaps_of : Has P w K mg base "gaps_of" 2 ["pieces"] (spF K sp_gaps_of)) {f : Addr} {fd : FuncData} (F : Fd K "is_short" s_is_short [] f fd) (gm : mg "is_short" = some (.ref f)) : Has P w K mg base "is_short" 5 ["row"] (spS K sp_libR_H) := by
  exact has_of F gm (ok_is_short_R T  h_checked_row_R h_gaps_of F) fun _ _ _ _ _ _ us hl => match us, hl with | [_], _ => rfl
end
end Q
/-! C8 -/
set_option Elab.async false
set_option linter.all false
set_option maxRecDepth 100000
set_option maxHeartbeats 8000000
namespace Q
open PySem PySem.Spec PyProof.Rows L2 N
section
variable {P : Program} {w : World} {K : PySem.W.Frag} {mg : Str → Option Value} {base : Heap}
/-! cuts: where kinds stand -/
def FKV (ns : List Int) (i : Nat) (kvs : List (Key × V)) : Prop := ∀ k : Int, (k ∉ ns.take i → valV kvs (.inl k : Key) = none) ∧ (k ∈ ns.take i → ∃ j : Nat, valV kvs (.inl k : Key) = some (.int j) ∧ j < i ∧ ns[j]? = some k ∧ ∀ m, m < j → ns[m]? ≠ some k)
def LKV (ns : List Int) (i : Nat) (kvs : List (Key × V)) : Prop := ∀ k : Int, k ∈ ns.take i → ∃ j : Nat, valV kvs (.inl k : Key) = some (.int j) ∧ j < i ∧ ns[j]? = some k ∧ ∀ m, j < m → m < i → ns[m]? ≠ some k
theorem take_mem {ns : List Int} {i : Nat} {x : Int} (h : ns[i]? = some x) {k : Int} : k ∈ ns.take (i + 1) ↔ k ∈ ns.take i ∨ k = x := by
  rw [List.take_add_one, h, List.mem_append]
  simp
theorem FKV.new {ns : List Int} {i : Nat} {x : Int} {kvs : List (Key × V)} (h : FKV ns i kvs) (hx : ns[i]? = some x) (hn : x ∉ ns.take i) : FKV ns (i + 1) (putK kvs (.inl x : Key) (.int i)) := fun k => by
  rw [valV_put]
  by_cases e : k = x
  · subst e
    refine ⟨fun z => absurd ((take_mem hx).mpr (.inr rfl)) z, fun _ => ⟨i, by rw [if_pos rfl], by omega, hx, fun m hm z => hn ?_⟩⟩
    exact List.mem_iff_getElem?.mpr ⟨m, by rw [List.getElem?_take, if_pos hm]; exact z⟩
  · rw [if_neg (fun z => e (Sum.inl.inj z))]
    obtain ⟨h1, h2⟩ := h k
    refine ⟨fun z => h1 fun y => z ((take_mem hx).mpr (.inl y)), fun z => ?_⟩
    rcases (take_mem hx).mp z with z | z
    · obtain ⟨j, a, b, c, d⟩ := h2 z
      exact ⟨j, a, by omega, c, d⟩
    · exact absurd z e
theorem FKV.old {ns : List Int} {i : Nat} {x : Int} {kvs : List (Key × V)} (h : FKV ns i kvs) (hx : ns[i]? = some x) (hn : x ∈ ns.take i) : FKV ns (i + 1) kvs := fun k => by
  obtain ⟨h1, h2⟩ := h k
  refine ⟨fun z => h1 fun y => z ((take_mem hx).mpr (.inl y)), fun z => ?_⟩
  have z2 : k ∈ ns.take i := by
    rcases (take_mem hx).mp z with z | z
    · exact z
    · rw [z]; exact hn
  obtain ⟨j, a, b, c, d⟩ := h2 z2
  exact ⟨j, a, by omega, c, d⟩
theorem LKV.put {ns : List Int} {i : Nat} {x : Int} {kvs : List (Key × V)} (h : LKV ns i kvs) (hx : ns[i]? = some x) : LKV ns (i + 1) (putK kvs (.inl x : Key) (.int i)) := fun k z => by
  rw [valV_put]
  by_cases e : k = x
  · subst e
    exact ⟨i, by rw [if_pos rfl], by omega, hx, fun m h1 h2 => by omega⟩
  · rw [if_neg (fun z => e (Sum.inl.inj z))]
    rcases (take_mem hx).mp z with z | z
    · obtain ⟨j, a, b, c, d⟩ := h k z
      refine ⟨j, a, by omega, c, fun m h1 h2 h3 => ?_⟩
      by_cases hm : m = i
      · subst hm
        rw [hx] at h3
        exact e (Option.some.inj h3).symm
      · exact d m h1 (by omega) h3
    · exact absurd z e
def sp_first_places : FS := { α := List Int, args := fun ns => [dTup ns], pre := fun ns => ns.length ≤ 1000, post := fun ns r => ∃ kvs, r = .dic kvs ∧ FKV ns ns.length kvs }
def sp_last_places : FS := { α := List Int, args := fun ns => [dTup ns], pre := fun ns => ns.length ≤ 1000, post := fun ns r => ∃ kvs, r = .dic kvs ∧ LKV ns ns.length kvs }
theorem dTup_sq {H : Hp} {ns : List Int} {vs : List V} (r : RepL K H [dTup ns] vs) : ∃ a, vs = [.ref a] ∧ SqT K H a (ns.map V.int) := by
  obtain ⟨v, vr, rfl, ⟨a, us, rfl, h, rr⟩, r2⟩ := r
  rw [show vr = [] from r2]
  have := RepL.ints rr
  subst this
  exact ⟨a, rfl, TpN.sq h⟩
theorem sqT_same {H H' : Hp} {a : Addr} {xs : List V} (k : Same H H') (h : SqT K H a xs) : SqT K H' a xs := by
  rcases h with h | h
  · refine .inl ?_
    rcases h with h | ⟨o, h⟩
    · exact .inl (k _ _ h)
    · exact .inr ⟨o, k _ _ h⟩
  · exact .inr h
theorem same_put {H0 H : Hp} {p : Addr} {o : HO} (n : H0 p = none) (s : Same H0 H) : Same H0 (upd H p o) := fun b u h => by
  rw [upd_ne (ne_of_none h n)]
  exact s b u h
/-! first_places -/
abbrev s_first_places : Stmt := topS 29
abbrev n_first_places : List Str := ["pieces", "places", "place", "kind"]
theorem sc_first_places : FnScope n_first_places ["pieces"] (defScope s_first_places) := ⟨rfl, rfl, rfl, by decide +kernel, rfl, by decide +kernel, by decide +kernel⟩
theorem ok_first_places (T : Tx K mg) {f : Addr} {fd : FuncData} (F : Fd K "first_places" s_first_places [] f fd) : FnOk P w K mg base (L2N.CX P w) 1 f fd ["pieces"] (spF K sp_first_places) := by
  refine F.ok sc_first_places (fun vs H Q E ⟨g, r, _⟩ => by rw [RepL.length r]; rfl) fun cdv A outer s H vs Q E hr ⟨g, r, pre, q, _⟩ => ?_
  change List Int at g
  have pre : g.length ≤ 1000 := pre
  have v : ∀ {X : Cx} {i : Nat} {x : Str} {pos : Pos} (hN : X.N[i]? = some x) (hv : Vis X.env.scope x) (hd : (x == ("__debug__" : Str)) = false) (hc : (x == ("__classdict__" : Str)) = false), PE X (.Name x pos) _ := fun hN hv hd hc => pe_var hN hv hd hc
  have hu : (cxOf (L2N.CX P w) P w K mg base n_first_places "first_places" (defScope s_first_places) f cdv A outer s H E).A.units + 1 < cLine := by have := hr.un; exact Nat.lt_of_le_of_lt (by show _ ≤ _; exact Nat.add_le_add_left (by decide : 1 ≤ 16 * 0 + 200) _) this
  refine ⟨_, pss_cons (ps_set (i := 1) sc_first_places.nd rfl (.inl rfl) pe_dnewK rfl (.inl rfl))
    (pss_cons (ps_for (passes_of rfl) rfl (pi_enumN rfl T.b_enumerate (pa_cons (pe_var (i := 0) rfl (.inl rfl)) pa_nil rfl)) (pg_tup rfl (pgs_cons (pg_name (i := 2) sc_first_places.nd rfl (.inl rfl)) (pgs_cons (pg_name (i := 3) sc_first_places.nd rfl (.inl rfl)) pgs_nil)))
      (pss_one (ps_if (pt_cmp (pc_dnotin hu (pe_var (i := 3) rfl (.inl rfl)) (pe_var (i := 1) rfl (.inl rfl)))) (pss_one (ps_dput hu (pe_var (i := 1) rfl (.inl rfl)) (pe_var (i := 3) rfl (.inl rfl)) (pe_var (i := 2) rfl (.inl rfl)) rfl)) pss_nil)))
    (pss_one (ps_ret (pe_frzD (pe_var (i := 1) rfl (.inl rfl)))))), ?_⟩
  obtain ⟨a, rfl, hq⟩ := dTup_sq r
  intro p np
  have sm0 : Same H (upd H p (.dK [])) := same_upd np
  refine ⟨_, rfl, true, a, g.map V.int, rfl, sqT_same sm0 hq, ?_⟩
  refine for_it walk_enumN (fun i σ H' => ∃ (s2 s3 : Option V) (kvs : List (Key × V)), σ = [some (.ref a), some (.ref p), s2, s3] ∧ H' p = some (.dK kvs) ∧ kvs.length ≤ i ∧ Same H H' ∧ FKV g i kvs) ⟨none, none, [], rfl, upd_same, Nat.le_refl _, sm0, fun k => ⟨fun _ => rfl, fun z => by simp at z⟩⟩ (fun i σ H' _ ⟨_, _, _, _, _, _, sm, _⟩ => sqT_same sm hq) ?_ ?_
  · rintro i v σ H1 H2 hi ⟨s2, s3, kvs, rfl, hp, hl, sm, hk⟩ ⟨Ta, o, x, rfl, nT, rfl, hx⟩
    rw [List.length_map] at hi
    rw [List.getElem?_map] at hx
    obtain ⟨n, hn, rfl⟩ := Option.map_eq_some_iff.mp hx
    have hz : kvs.length < sizeLine := by rw [sizeLine_eq]; omega
    have hp2 : upd H1 Ta (.frz o (.tup [.int (i : Nat), .int n])) p = some (.dK kvs) := by rw [upd_ne (fun z => by rw [← z, hp] at nT; cases nT)]; exact hp
    have sm2 : Same H (upd H1 Ta (.frz o (.tup [.int (i : Nat), .int n]))) := fun b u hb => by
      have := sm b u hb
      rw [upd_ne (fun z => by rw [← z, this] at nT; cases nT)]
      exact this
    refine ⟨Ta, [.int (i : Nat), .int n], rfl, .inl (.inr ⟨o, upd_same⟩), rfl, .int (i : Nat), [.int n], rfl, .int n, [], rfl, rfl, ?_⟩
    refine ⟨.int n, rfl, .ref p, rfl, p, _, rfl, DGet.k (k := .inl n) hp2, ?_⟩
    by_cases hm : n ∈ g.take i
    · obtain ⟨j, e, _⟩ := (hk n).2 hm
      rw [e]
      refine ⟨false, rfl, ?_⟩
      exact ⟨_, _, kvs, rfl, hp2, by omega, sm2, hk.old hn hm⟩
    · rw [(hk n).1 hm]
      refine ⟨true, rfl, ?_⟩
      refine ⟨.int (i : Nat), rfl, .ref p, rfl, .int n, rfl, p, _, rfl, DPut.k (k := .inl n) hp2 hz, _, _, putK kvs (.inl n) (.int (i : Nat)), rfl, upd_same, ?_, same_put np sm2, hk.new hn hm⟩
      have := length_putK kvs (.inl n : Key) (.int (i : Nat))
      omega
  · rintro σ H1 ⟨s2, s3, kvs, rfl, hp, hl, sm, hk⟩
    rw [List.length_map] at hk
    refine ⟨.ref p, rfl, p, kvs, rfl, hp, fun o ho => ?_⟩
    exact q (.dic kvs) _ _ ⟨kvs, rfl, hk⟩ (Frm.of (same_put np sm)) ⟨p, rfl, o, ho, upd_same⟩
theorem has_first_places (T : Tx K mg) {f : Addr} {fd : FuncData} (F : Fd K "first_places" s_first_places [] f fd) (gm : mg "first_places" = some (.ref f)) : Has P w K mg base "first_places" 1 ["pieces"] (spF K sp_first_places) := by
  exact has_of F gm (ok_first_places T   F) fun _ _ _ _ _ _ us hl => match us, hl with | [_], _ => rfl
/-! last_places -/
abbrev s_last_places : Stmt := topS 30
abbrev n_last_places : List Str := ["pieces", "places", "place", "kind"]
theorem sc_last_places : FnScope n_last_places ["pieces"] (defScope s_last_places) := ⟨rfl, rfl, rfl, by decide +kernel, rfl, by decide +kernel, by decide +kernel⟩
theorem ok_last_places (T : Tx K mg) {f : Addr} {fd : FuncData} (F : Fd K "last_places" s_last_places [] f fd) : FnOk P w K mg base (L2N.CX P w) 1 f fd ["pieces"] (spF K sp_last_places) := by
  refine F.ok sc_last_places (fun vs H Q E ⟨g, r, _⟩ => by rw [RepL.length r]; rfl) fun cdv A outer s H vs Q E hr ⟨g, r, pre, q, _⟩ => ?_
  change List Int at g
  have pre : g.length ≤ 1000 := pre
  have v : ∀ {X : Cx} {i : Nat} {x : Str} {pos : Pos} (hN : X.N[i]? = some x) (hv : Vis X.env.scope x) (hd : (x == ("__debug__" : Str)) = false) (hc : (x == ("__classdict__" : Str)) = false), PE X (.Name x pos) _ := fun hN hv hd hc => pe_var hN hv hd hc
  have hu : (cxOf (L2N.CX P w) P w K mg base n_last_places "last_places" (defScope s_last_places) f cdv A outer s H E).A.units + 1 < cLine := by have := hr.un; exact Nat.lt_of_le_of_lt (by show _ ≤ _; exact Nat.add_le_add_left (by decide : 1 ≤ 16 * 0 + 200) _) this
  refine ⟨_, pss_cons (ps_set (i := 1) sc_last_places.nd rfl (.inl rfl) pe_dnewK rfl (.inl rfl))
    (pss_cons (ps_for (passes_of rfl) rfl (pi_enumN rfl T.b_enumerate (pa_cons (pe_var (i := 0) rfl (.inl rfl)) pa_nil rfl)) (pg_tup rfl (pgs_cons (pg_name (i := 2) sc_last_places.nd rfl (.inl rfl)) (pgs_cons (pg_name (i := 3) sc_last_places.nd rfl (.inl rfl)) pgs_nil)))
      (pss_one (ps_dput hu (pe_var (i := 1) rfl (.inl rfl)) (pe_var (i := 3) rfl (.inl rfl)) (pe_var (i := 2) rfl (.inl rfl)) rfl)))
    (pss_one (ps_ret (pe_frzD (pe_var (i := 1) rfl (.inl rfl)))))), ?_⟩
  obtain ⟨a, rfl, hq⟩ := dTup_sq r
  intro p np
  have sm0 : Same H (upd H p (.dK [])) := same_upd np
  refine ⟨_, rfl, true, a, g.map V.int, rfl, sqT_same sm0 hq, ?_⟩
  refine for_it walk_enumN (fun i σ H' => ∃ (s2 s3 : Option V) (kvs : List (Key × V)), σ = [some (.ref a), some (.ref p), s2, s3] ∧ H' p = some (.dK kvs) ∧ kvs.length ≤ i ∧ Same H H' ∧ LKV g i kvs) ⟨none, none, [], rfl, upd_same, Nat.le_refl _, sm0, fun k z => by simp at z⟩ (fun i σ H' _ ⟨_, _, _, _, _, _, sm, _⟩ => sqT_same sm hq) ?_ ?_
  · rintro i v σ H1 H2 hi ⟨s2, s3, kvs, rfl, hp, hl, sm, hk⟩ ⟨Ta, o, x, rfl, nT, rfl, hx⟩
    rw [List.length_map] at hi
    rw [List.getElem?_map] at hx
    obtain ⟨n, hn, rfl⟩ := Option.map_eq_some_iff.mp hx
    have hz : kvs.length < sizeLine := by rw [sizeLine_eq]; omega
    have hp2 : upd H1 Ta (.frz o (.tup [.int (i : Nat), .int n])) p = some (.dK kvs) := by rw [upd_ne (fun z => by rw [← z, hp] at nT; cases nT)]; exact hp
    have sm2 : Same H (upd H1 Ta (.frz o (.tup [.int (i : Nat), .int n]))) := fun b u hb => by
      have := sm b u hb
      rw [upd_ne (fun z => by rw [← z, this] at nT; cases nT)]
      exact this
    refine ⟨Ta, [.int (i : Nat), .int n], rfl, .inl (.inr ⟨o, upd_same⟩), rfl, .int (i : Nat), [.int n], rfl, .int n, [], rfl, rfl, ?_⟩
    refine ⟨.int (i : Nat), rfl, .ref p, rfl, .int n, rfl, p, _, rfl, DPut.k (k := .inl n) hp2 hz, _, _, putK kvs (.inl n) (.int (i : Nat)), rfl, upd_same, ?_, same_put np sm2, hk.put hn⟩
    have := length_putK kvs (.inl n : Key) (.int (i : Nat))
    omega
  · rintro σ H1 ⟨s2, s3, kvs, rfl, hp, hl, sm, hk⟩
    rw [List.length_map] at hk
    refine ⟨.ref p, rfl, p, kvs, rfl, hp, fun o ho => ?_⟩
    exact q (.dic kvs) _ _ ⟨kvs, rfl, hk⟩ (Frm.of (same_put np sm)) ⟨p, rfl, o, ho, upd_same⟩
theorem has_last_places (T : Tx K mg) {f : Addr} {fd : FuncData} (F : Fd K "last_places" s_last_places [] f fd) (gm : mg "last_places" = some (.ref f)) : Has P w K mg base "last_places" 1 ["pieces"] (spF K sp_last_places) := by
  exact has_of F gm (ok_last_places T   F) fun _ _ _ _ _ _ us hl => match us, hl with | [_], _ => rfl
end
end Q
/-! C9 -/
set_option Elab.async false
set_option linter.all false
set_option maxRecDepth 100000
set_option maxHeartbeats 8000000
namespace Q
open PySem PySem.Spec PyProof.Rows L2 N
section
variable {P : Program} {w : World} {K : PySem.W.Frag} {mg : Str → Option Value} {base : Heap}
/-! cuts: the definition -/
def secOf (ns : List Int) (p q : Nat) : List Int := (ns.drop p).take (q - p)
structure CutR (ns : List Int) (p q : Nat) : Prop where
  lt : p < q
  ql : q < ns.length
  eq : ns[p]? = ns[q]?
  last : ∀ j, p < j → j < q → ns[j]? ≠ ns[q]?
  nd : (secOf ns p q).Nodup
  cov : ∀ k ∈ secOf ns p q, k ∈ ns.take p ++ ns.drop q
noncomputable def cutOf (ns : List Int) (q : Nat) : Option Nat := open Classical in if h : ∃ p, CutR ns p q then some h.choose else none
theorem CutR.uniq {ns : List Int} {p p' q : Nat} (a : CutR ns p q) (b : CutR ns p' q) : p = p' := by
  by_cases h : p < p'
  · exact absurd b.eq (a.last p' h b.lt)
  · by_cases h2 : p' < p
    · exact absurd a.eq (b.last p h2 a.lt)
    · omega
theorem cutOf_some {ns : List Int} {p q : Nat} (h : CutR ns p q) : cutOf ns q = some p := by
  unfold cutOf
  rw [dif_pos ⟨p, h⟩]
  exact congrArg some (CutR.uniq (Exists.choose_spec (⟨p, h⟩ : ∃ p, CutR ns p q)) h)
theorem cutOf_none {ns : List Int} {q : Nat} (h : ∀ p, ¬ CutR ns p q) : cutOf ns q = none := by
  unfold cutOf
  rw [dif_neg (fun ⟨p, z⟩ => h p z)]
theorem cutOf_el {ns : List Int} {p q : Nat} (h : cutOf ns q = some p) : CutR ns p q := by
  unfold cutOf at h
  split at h
  · rename_i z
    have := z.choose_spec
    rw [Option.some.inj h] at this
    exact this
  · cases h
def optD : Option Nat → D
  | some p => .int p
  | none => .non
noncomputable def cutsOf (ns : List Int) : List (Nat × Nat) := (List.range ns.length).filterMap fun q => (cutOf ns q).map fun p => (p, q)
def cutP (c : Nat × Nat) : D := .tup [.int c.1, .int c.2]
def sp_start_for : FS := { α := List Int × Nat × List (Key × V) × List (Key × V), args := fun g => [dTup g.1, .int (g.2.1 : Nat), .dic g.2.2.1, .dic g.2.2.2], pre := fun g => g.2.1 < g.1.length ∧ g.1.length ≤ 1000 ∧ FKV g.1 g.1.length g.2.2.1 ∧ LKV g.1 g.1.length g.2.2.2, post := fun g r => r = optD (cutOf g.1 g.2.1) }
theorem rt_if {r : RT} {ρ : En} {A F : En → Prop} (J : Prop) (h : ∀ (A' F' : En → Prop), (J → A' ρ) → (¬ J → F' ρ) → r ρ fun b ρ2 => if b = true then A' ρ2 else F' ρ2) (ha : J → A ρ) (hf : ¬ J → F ρ) : r ρ fun b ρ2 => if b = true then A ρ2 else F ρ2 := h A F ha hf
theorem rif {r : RT} {ra rb : RS} {e : DEnds} {ρ : En} (J : Prop) (h : ∀ (A' F' : En → Prop), (J → A' ρ) → (¬ J → F' ρ) → r ρ fun b ρ2 => if b = true then A' ρ2 else F' ρ2) (ha : J → ra e ρ) (hf : ¬ J → rb e ρ) : rIf r ra rb e ρ := h (fun ρ => ra e ρ) (fun ρ => rb e ρ) ha hf
theorem sif {r : RT} {ra rb rc : RS} {e : DEnds} {ρ : En} (J : Prop) (h : ∀ (A' F' : En → Prop), (J → A' ρ) → (¬ J → F' ρ) → r ρ fun b ρ2 => if b = true then A' ρ2 else F' ρ2) (ha : J → ra { e with nx := rc e } ρ) (hf : ¬ J → rb { e with nx := rc e } ρ) : rSeq (rIf r ra rb) rc e ρ := h (fun ρ => ra { e with nx := rc e } ρ) (fun ρ => rb { e with nx := rc e } ρ) ha hf
theorem sifx {r : RT} {ra rc : RS} {e : DEnds} {ρ : En} (J : Prop) (h : ∀ (A' F' : En → Prop), (J → A' ρ) → (¬ J → F' ρ) → r ρ fun b ρ2 => if b = true then A' ρ2 else F' ρ2) (ha : J → ra { e with nx := rc e } ρ) (hf : ¬ J → rc e ρ) : rSeq (rIf r ra rNx) rc e ρ := h (fun ρ => ra { e with nx := rc e } ρ) (fun ρ => rNx { e with nx := rc e } ρ) ha hf
theorem sAsg {i : Nat} {r : RE} {rc : RS} {e : DEnds} {ρ : En} {d : D} (h : ∀ Q : W → En → Prop, Q (.d d) ρ → r ρ Q) (k : rc e (ρ.set i (.v d))) : rSeq (rAsg i r) rc e ρ := h _ k
theorem sTupU {i j k : Nat} {rc : RS} {e : DEnds} {ρ : En} {x y : D} (h : rd ρ k = some (.d (.tup [x, y])) ∨ rd ρ k = some (.d (.lst [x, y]))) (n : rc e ((ρ.set i (.v x)).set j (.v y))) : rSeq (rTupAsgU i j (rVar k)) rc e ρ := by
  rcases h with h | h
  · exact rVar.mk h n
  · exact rVar.mk h n
/-- a call, its value given a name -/
theorem sCall {i : Nat} {S : FS} {ra : RA} {Xp : Exn → Prop} {rc : RS} {e : DEnds} {ρ : En} (g : S.α) (h : ∀ Q : List W → En → Prop, Q (dats (S.args g)) ρ → ra ρ Q) (pre : S.pre g) (k : ∀ d, S.post g d → rc e (ρ.set i (.v d))) (x : ∀ x, S.exc g x → Xp x) : rSeq (rAsg i (rCall S ra Xp)) rc e ρ := h _ ⟨g, rfl, pre, k, x⟩
theorem cut_ab {ds : List D} {a b : Nat} (hb : b ≤ ds.length) (hab : a ≤ b) : N.cutD ds (some (a : Int)) (some (b : Int)) = (ds.drop a).take (b - a) := by
  unfold N.cutD
  rw [HT.sIx_nat, HT.sIx_nat, Nat.min_eq_left hb, Nat.min_eq_left (Nat.le_trans hab hb)]
theorem cut_to9 {ds : List D} {b : Nat} (hb : b ≤ ds.length) : N.cutD ds none (some (b : Int)) = ds.take b := by
  unfold N.cutD
  rw [HT.sIx_nat, HT.sIx_none, Nat.min_eq_left hb, List.drop_zero, Nat.sub_zero]
theorem sec_D {ns : List Int} {a b : Nat} (hb : b ≤ ns.length) (hab : a ≤ b) : N.cutD (ns.map D.int) (some (a : Int)) (some (b : Int)) = (secOf ns a b).map D.int := by
  rw [cut_ab (by rw [List.length_map]; exact hb) hab, secOf, List.map_take, List.map_drop]
theorem sec_cons {ns : List Int} {p q : Nat} {x : Int} (hx : ns[p]? = some x) (h : p < q) : secOf ns p q = x :: secOf ns (p + 1) q := by
  obtain ⟨hp, e⟩ := List.getElem?_eq_some_iff.mp hx
  unfold secOf
  rw [List.drop_eq_getElem_cons hp, e, show q - p = (q - (p + 1)) + 1 from by omega, List.take_succ_cons]
theorem sec_mem {ns : List Int} {p q : Nat} {x : Int} : x ∈ secOf ns p q ↔ ∃ j, p ≤ j ∧ j < q ∧ ns[j]? = some x := by
  unfold secOf
  rw [List.mem_iff_getElem?]
  constructor
  · rintro ⟨i, hi⟩
    rw [List.getElem?_take] at hi
    split at hi
    · rw [List.getElem?_drop] at hi
      exact ⟨p + i, by omega, by omega, hi⟩
    · cases hi
  · rintro ⟨j, h1, h2, h3⟩
    refine ⟨j - p, ?_⟩
    rw [List.getElem?_take, if_pos (by omega), List.getElem?_drop, show p + (j - p) = j from by omega]
    exact h3
theorem out_mem {ns : List Int} {p q : Nat} {x : Int} : x ∈ ns.take p ++ ns.drop q ↔ ∃ j, (j < p ∨ q ≤ j) ∧ ns[j]? = some x := by
  rw [List.mem_append]
  constructor
  · rintro (h | h)
    · obtain ⟨j, hj⟩ := List.mem_iff_getElem?.mp h
      rw [List.getElem?_take] at hj
      split at hj
      · exact ⟨j, .inl (by omega), hj⟩
      · cases hj
    · obtain ⟨j, hj⟩ := List.mem_iff_getElem?.mp h
      rw [List.getElem?_drop] at hj
      exact ⟨q + j, .inr (by omega), hj⟩
  · rintro ⟨j, h | h, hj⟩
    · exact .inl (List.mem_iff_getElem?.mpr ⟨j, by rw [List.getElem?_take, if_pos h]; exact hj⟩)
    · exact .inr (List.mem_iff_getElem?.mpr ⟨j - q, by rw [List.getElem?_drop, show q + (j - q) = j from by omega]; exact hj⟩)
/-! start_for -/
abbrev s_start_for : Stmt := topS 31
abbrev n_start_for : List Str := ["pieces", "stop", "firsts", "lasts", "start", "kind"]
theorem sc_start_for : FnScope n_start_for ["pieces", "stop", "firsts", "lasts"] (defScope s_start_for) := ⟨rfl, rfl, rfl, by decide +kernel, rfl, by decide +kernel, by decide +kernel⟩
theorem ok_start_for (T : Tx K mg) {f : Addr} {fd : FuncData} (F : Fd K "start_for" s_start_for [] f fd) : FnOk P w K mg base (L2N.CX P w) 1 f fd ["pieces", "stop", "firsts", "lasts"] (spF K sp_start_for) := by
  refine fn_ok F sc_start_for sp_start_for (fun _ => rfl) fun cdv A outer s H E g hr pre hx => ?_
  refine ⟨_, (ds_cons (ds_set (i := 4) sc_start_for.nd (de_sub (dv 1) de_int))
      (ds_cons (ds_while (passes_of rfl) ((dw_and (dt_ge (dv 4) de_int) (dw_and (dt_ne (de_ix (dv 0) (dv 4)) (de_ix (dv 0) (dv 1))) (dw_and1 (dt_notin (de_ix (dv 0) (dv 4)) (de_sliceT (dv 0) (do_some (de_add (dv 4) de_int)) (do_some (dv 1)))))))).dt
      (ds_one (ds_augI (i := 4) sc_start_for.nd ip_sub de_int)))
      (ds_cons (ds_if ((dw_or (dt_lt (dv 4) de_int) (dw_or1 (dt_ne (de_ix (dv 0) (dv 4)) (de_ix (dv 0) (dv 1)))))).dt
      (ds_one (ds_ret de_non))
      ds_nil)
      (ds_cons (ds_for (passes_of rfl) (di_seq (de_sliceT (dv 0) (do_some (dv 4)) (do_some (dv 1)))) (dg 5 sc_start_for.nd)
      (ds_one (ds_if ((dw_and (dt_ge (de_dix hr (dv 2) (dv 5)) (dv 4)) (dw_and1 (dt_lt (de_dix hr (dv 3) (dv 5)) (dv 1))))).dt
      (ds_one (ds_ret de_non))
      ds_nil)))
      (ds_one (ds_ret (dv 4))))))), ?_⟩
  obtain ⟨ns, q, k1, k2⟩ := g
  obtain ⟨hq, hl, f1, f2⟩ := pre
  change q < ns.length at hq
  change ns.length ≤ 1000 at hl
  change FKV ns ns.length k1 at f1
  change LKV ns ns.length k2 at f2
  have hyq : ns[q]? = some ns[q] := List.getElem?_eq_getElem hq
  generalize ns[q] = y at hyq
  refine ⟨fun m ρ => ∃ (s : Int) (kk : Slot), ρ = [.v (dTup ns), .v (.int (q : Nat)), .v (.dic k1), .v (.dic k2), .v (.int s), kk] ∧ -1 ≤ s ∧ s < (q : Int) ∧ m = (s + 1).toNat ∧ (∀ j : Nat, s < (j : Int) → j < q → ns[j]? ≠ ns[q]?) ∧ (secOf ns (s + 1).toNat q).Nodup, ⟨_, (q : Int) - 1, _, rfl, by omega, by omega, rfl, fun j h1 h2 => by omega, ?_⟩, ?_⟩
  · rw [show ((q : Int) - 1 + 1).toNat = q from by omega]
    unfold secOf
    rw [Nat.sub_self, List.take_zero]
    exact List.nodup_nil
  rintro m ρ ⟨s, kk, rfl, s0, s1, rfl, hn, hd⟩
  refine rt_if (∃ p : Nat, s = p ∧ ns[p]? ≠ some y ∧ ∃ x, ns[p]? = some x ∧ x ∉ secOf ns (p + 1) q) (fun A' F' hA hF => ?_) ?_ (fun hj => ?_)
  · show if decide ((0 : Int) ≤ s) = true then _ else _
    refine ite2 (fun h => ?_) (fun h => hF fun ⟨p, e, _⟩ => h (decide_eq_true (by omega)))
    obtain ⟨p, rfl⟩ := Int.eq_ofNat_of_zero_le (of_decide_eq_true h)
    have hp : p < ns.length := by omega
    have hxp : ns[p]? = some ns[p] := List.getElem?_eq_getElem hp
    generalize ns[p] = x at hxp
    refine ⟨_, at_ints hxp, _, at_ints hyq, ?_⟩
    show if (!decide (x = y)) = true then _ else _
    refine ite2 (fun h2 => ?_) (fun h2 => hF fun ⟨p', e, h3, _⟩ => h2 (by
      obtain rfl : p' = p := by omega
      rw [hxp] at h3
      simpa using h3))
    refine ⟨_, at_ints hxp, _, rfl, ?_⟩
    have e2 : ((p : Int) + 1) = ((p + 1 : Nat) : Int) := by omega
    rw [e2, sec_D (by omega) (by omega)]
    refine ⟨x, true, secOf ns (p + 1) q, rfl, rfl, ?_⟩
    show if (!decide (x ∈ secOf ns (p + 1) q)) = true then _ else _
    refine ite2 (fun h3 => hA ⟨p, rfl, ?_, x, hxp, by simpa using h3⟩) (fun h3 => hF fun ⟨p', e, _, x', h5, h6⟩ => ?_)
    · rw [hxp]; simpa using h2
    · obtain rfl : p' = p := by omega
      rw [hxp] at h5
      obtain rfl := Option.some.inj h5
      exact h6 (by simpa using h3)
  · rintro ⟨p, rfl, h2, x, h3, h4⟩
    refine ⟨_, by show (((p : Int) - 1) + 1).toNat < _; omega, (p : Int) - 1, kk, rfl, by omega, by omega, rfl, fun j h5 h6 => ?_, ?_⟩
    · by_cases e : j = p
      · subst e; rw [hyq]; exact h2
      · exact hn j (by omega) h6
    · rw [show ((p : Int) - 1 + 1).toNat = p from by omega, sec_cons h3 (by omega)]
      rw [show ((p : Int) + 1).toNat = p + 1 from by omega] at hd
      exact List.nodup_cons.mpr ⟨h4, hd⟩
  · have non : (∀ p, ¬ CutR ns p q) → sp_start_for.post (ns, q, k1, k2) D.non := fun h => by
      show D.non = optD (cutOf ns q)
      rw [cutOf_none h]
      rfl
    -- a cut would start at s
    have at_s : ∀ p, CutR ns p q → s = p := fun p c => by
      by_cases h1 : s < (p : Int)
      · exact absurd c.eq (hn p h1 c.lt)
      · by_cases h2 : s = (p : Int)
        · exact h2
        · exfalso
          refine hj ⟨s.toNat, by omega, by rw [← hyq]; exact c.last _ (by omega) (by omega), ?_⟩
          have hs : s.toNat < ns.length := by omega
          refine ⟨_, List.getElem?_eq_getElem hs, fun hm => ?_⟩
          obtain ⟨j, j1, j2, j3⟩ := sec_mem.mp hm
          have g1 : (secOf ns p q)[s.toNat - p]? = some ns[s.toNat] := by
            unfold secOf
            rw [List.getElem?_take, if_pos (by omega), List.getElem?_drop, show p + (s.toNat - p) = s.toNat from by omega]
            exact List.getElem?_eq_getElem hs
          have g2 : (secOf ns p q)[j - p]? = some ns[s.toNat] := by
            unfold secOf
            rw [List.getElem?_take, if_pos (by omega), List.getElem?_drop, show p + (j - p) = j from by omega, j3]
          obtain ⟨l1, e1⟩ := List.getElem?_eq_some_iff.mp g1
          obtain ⟨l2, e2⟩ := List.getElem?_eq_some_iff.mp g2
          exact (List.pairwise_iff_getElem.mp c.nd) _ _ l1 l2 (by omega) (e1.trans e2.symm)
    dsimp only
    refine sif (∀ p : Nat, s = p → ns[p]? ≠ some y) (fun A' F' hA hF => ?_) (fun h => ?_) (fun h => ?_)
    · show if decide (s < (0 : Int)) = true then _ else _
      refine ite2 (fun h => hA fun p e => ?_) (fun h => ?_)
      · have := of_decide_eq_true h
        omega
      · obtain ⟨p, rfl⟩ := Int.eq_ofNat_of_zero_le (show (0 : Int) ≤ s from by
          have : ¬ s < 0 := fun z => h (decide_eq_true z)
          omega)
        have hp : p < ns.length := by omega
        have hxp : ns[p]? = some ns[p] := List.getElem?_eq_getElem hp
        generalize ns[p] = x at hxp
        refine ⟨_, at_ints hxp, _, at_ints hyq, ?_⟩
        show if (!decide (x = y)) = true then _ else _
        refine ite2 (fun h2 => hA fun p' e => ?_) (fun h2 => hF fun h3 => h3 p rfl ?_)
        · obtain rfl : p' = p := by omega
          rw [hxp]; simpa using h2
        · rw [hxp]; simpa using h2
    · exact non fun p c => h p (at_s p c) (by rw [← hyq]; exact c.eq)
    · have ⟨p, es, hxy⟩ : ∃ p : Nat, s = p ∧ ns[p]? = some y := by
        refine Classical.byContradiction fun z => h fun p e hp => z ⟨p, e, hp⟩
      subst es
      have e2 : ((p : Int) + 1).toNat = p + 1 := by omega
      rw [e2] at hd
      have nd : (secOf ns p q).Nodup := by
        rw [sec_cons hxy (by omega)]
        refine List.nodup_cons.mpr ⟨fun hm => ?_, hd⟩
        obtain ⟨j, j1, j2, j3⟩ := sec_mem.mp hm
        exact hn j (by omega) j2 (by rw [j3, hyq])
      refine ⟨_, rfl, ?_⟩
      rw [sec_D (by omega) (by omega)]
      refine ⟨fun k ρ => (∃ kk : Slot, ρ = [.v (dTup ns), .v (.int (q : Nat)), .v (.dic k1), .v (.dic k2), .v (.int (p : Nat)), kk]) ∧ ∀ x ∈ (secOf ns p q).take k, x ∈ ns.take p ++ ns.drop q, ⟨⟨_, rfl⟩, fun x hx => by simp at hx⟩, fun _ _ _ _ => trivial, ?_, ?_⟩
      · rintro k d ρ hk hdk ⟨⟨kk', rfl⟩, hall⟩
        have hdk : ((secOf ns p q).map D.int)[k]? = some d := hdk
        rw [List.getElem?_map] at hdk
        obtain ⟨x, hx, rfl⟩ := Option.map_eq_some_iff.mp hdk
        have hm : x ∈ ns.take ns.length := by
          obtain ⟨j, _, _, j3⟩ := sec_mem.mp (List.mem_of_getElem? hx)
          rw [List.take_length]
          exact List.mem_of_getElem? j3
        obtain ⟨j1, a1, b1, c1, d1⟩ := (f1 x).2 hm
        obtain ⟨j2, a2, b2, c2, d2⟩ := f2 x hm
        refine rif (x ∉ ns.take p ++ ns.drop q) (fun A' F' hA hF => ?_) (fun z => ?_) (fun z => ?_)
        · refine ⟨k1, _, rfl, a1, ?_⟩
          show if decide ((p : Int) ≤ (j1 : Nat)) = true then _ else _
          refine ite2 (fun h1 => ?_) (fun h1 => hF fun z => z (out_mem.mpr ⟨j1, .inl ?_, c1⟩))
          · refine ⟨k2, _, rfl, a2, ?_⟩
            show if decide (((j2 : Nat) : Int) < (q : Nat)) = true then _ else _
            refine ite2 (fun h2 => hA fun z => ?_) (fun h2 => hF fun z => z (out_mem.mpr ⟨j2, .inr ?_, c2⟩))
            · obtain ⟨j, h3, h4⟩ := out_mem.mp z
              have h1 := of_decide_eq_true h1
              have h2 := of_decide_eq_true h2
              rcases h3 with h3 | h3
              · exact d1 j (by omega) h4
              · exact d2 j (by omega) (List.getElem?_eq_some_iff.mp h4).1 h4
            · have : ¬ ((j2 : Nat) : Int) < (q : Nat) := fun z => h2 (decide_eq_true z)
              omega
          · have : ¬ (p : Int) ≤ (j1 : Nat) := fun z => h1 (decide_eq_true z)
            omega
        · exact non fun p' c => z (by
            obtain rfl : p' = p := by have := at_s p' c; omega
            exact c.cov x (List.mem_of_getElem? hx))
        · refine ⟨⟨_, rfl⟩, fun x' hx' => ?_⟩
          rw [List.take_add_one, hx] at hx'
          rcases List.mem_append.mp hx' with h5 | h5
          · exact hall x' h5
          · rw [List.mem_singleton.mp h5]
            exact Classical.byContradiction z
      · rintro ρ ⟨⟨kk', rfl⟩, hall⟩
        have c : CutR ns p q := ⟨by omega, hq, by rw [hxy, hyq], fun j h5 h6 => hn j (by omega) h6, nd, fun x hx => hall x (by rw [List.take_of_length_le (by rw [List.length_map]; exact Nat.le_refl _)]; exact hx)⟩
        show D.int (p : Nat) = optD (cutOf ns q)
        rw [cutOf_some c]
        rfl
theorem has_start_for (T : Tx K mg) {f : Addr} {fd : FuncData} (F : Fd K "start_for" s_start_for [] f fd) (gm : mg "start_for" = some (.ref f)) : Has P w K mg base "start_for" 1 ["pieces", "stop", "firsts", "lasts"] (spF K sp_start_for) := by
  exact has_of F gm (ok_start_for T   F) fun _ _ _ _ _ _ us hl => match us, hl with | [_, _, _, _], _ => rfl
end
end Q
/-! C10 -/
set_option Elab.async false
set_option linter.all false
set_option maxRecDepth 100000
set_option maxHeartbeats 8000000
namespace Q
open PySem PySem.Spec PyProof.Rows L2 N
section
variable {P : Program} {w : World} {K : PySem.W.Frag} {mg : Str → Option Value} {base : Heap}
/-! cuts: the functions -/
theorem head_at {α : Type} {f : Nat → Option α} {k : Nat} {c : α} (h : ∀ q, q < k → f q = none) (hk : f k = some c) : ∀ n, k < n → ((List.range n).filterMap f).head? = some c
  | 0, z => by omega
  | n + 1, z => by
    rw [List.range_succ, List.filterMap_append]
    by_cases e : k < n
    · rw [List.head?_append, head_at h hk n e]
      rfl
    · obtain rfl : k = n := by omega
      have : (List.range k).filterMap f = [] := List.filterMap_eq_nil_iff.mpr fun q hq => h q (List.mem_range.mp hq)
      rw [this, List.nil_append, List.filterMap_cons_some hk]
      rfl
theorem none_at {α : Type} {f : Nat → Option α} {n : Nat} (h : ∀ q, q < n → f q = none) : (List.range n).filterMap f = [] := List.filterMap_eq_nil_iff.mpr fun q hq => h q (List.mem_range.mp hq)
def headC : List (Nat × Nat) → D
  | c :: _ => cutP c
  | [] => .non
theorem headC_of {l : List (Nat × Nat)} {c : Nat × Nat} (h : l.head? = some c) : headC l = cutP c := by
  cases l with
  | nil => cases h
  | cons a r => cases h; rfl
noncomputable def fCuts (ns : List Int) : D := .tup ((cutsOf ns).map cutP)
noncomputable def fFirst (ns : List Int) : D := headC (cutsOf ns)
noncomputable def cutB (ns : List Int) (s t : Int) : Bool := @decide (∃ p q : Nat, s = p ∧ t = q ∧ CutR ns p q) (Classical.propDecidable _)
theorem cutB_true {ns : List Int} {p q : Nat} (h : CutR ns p q) : cutB ns p q = true := by
  unfold cutB
  exact @decide_eq_true _ (Classical.propDecidable _) ⟨p, q, rfl, rfl, h⟩
theorem cutB_false {ns : List Int} {p q : Nat} (h : ¬ CutR ns p q) : cutB ns p q = false := by
  unfold cutB
  refine @decide_eq_false _ (Classical.propDecidable _) fun ⟨p', q', e1, e2, c⟩ => h ?_
  obtain rfl : p = p' := by omega
  obtain rfl : q = q' := by omega
  exact c
def sp_first_of : FS := { α := List Int, args := fun ns => [dTup ns], pre := fun ns => ns.length ≤ 1000, post := fun ns r => r = fFirst ns }
def sp_is_cut : FS := { α := List Int × Nat × Nat, args := fun g => [dTup g.1, .int (g.2.1 : Nat), .int (g.2.2 : Nat)], pre := fun g => g.1.length ≤ 1000, post := fun g r => r = .bl (cutB g.1 g.2.1 g.2.2) }
def natD : D → Option Nat
  | .int i => if 0 ≤ i then some i.toNat else none
  | _ => none
theorem natD_some {d : D} {n : Nat} (h : natD d = some n) : d = .int n := by
  unfold natD at h
  split at h
  · split at h
    · cases h
      rename_i h
      rw [Int.toNat_of_nonneg h]
    · cases h
  · cases h
def sp_checked_cut (K : PySem.W.Frag) : FS := { α := List Int × D × D, args := fun g => [dTup g.1, g.2.1, g.2.2], pre := fun g => g.1.length ≤ 1000 ∧ (ty7 g.2.1).isSome = true ∧ (ty7 g.2.2).isSome = true, post := fun g _ => ∃ p q, natD g.2.1 = some p ∧ natD g.2.2 = some q ∧ CutR g.1 p q, exc := fun g x => ((natD g.2.1 = none ∨ natD g.2.2 = none) ∧ x = exBad K "BadNumber") ∨ ∃ p q, natD g.2.1 = some p ∧ natD g.2.2 = some q ∧ ¬ CutR g.1 p q ∧ x = exBad K "Outside" }
def sp_cut_at (K : PySem.W.Frag) : FS := { α := D × D × D, args := fun g => [g.1, g.2.1, g.2.2], pre := fun g => RowIn g.1 ∧ (ty7 g.2.1).isSome = true ∧ (ty7 g.2.2).isSome = true, post := fun g r => ∃ ns p q, isRow 8 g.1 = true ∧ rowOf g.1 = some (ns.map D.int) ∧ natD g.2.1 = some p ∧ natD g.2.2 = some q ∧ CutR ns p q ∧ r = dTup (ns.take p ++ ns.drop q), exc := fun g x => (isRow 8 g.1 = false ∧ x = exBad K "BadRow") ∨ (isRow 8 g.1 = true ∧ (natD g.2.1 = none ∨ natD g.2.2 = none) ∧ x = exBad K "BadNumber") ∨ ∃ ns p q, isRow 8 g.1 = true ∧ rowOf g.1 = some (ns.map D.int) ∧ natD g.2.1 = some p ∧ natD g.2.2 = some q ∧ ¬ CutR ns p q ∧ x = exBad K "Outside" }
/-! is_cut -/
abbrev s_is_cut : Stmt := topS 32
abbrev n_is_cut : List Str := ["pieces", "start", "stop"]
theorem sc_is_cut : FnScope n_is_cut ["pieces", "start", "stop"] (defScope s_is_cut) := ⟨rfl, rfl, rfl, by decide +kernel, rfl, by decide +kernel, by decide +kernel⟩
theorem ok_is_cut (T : Tx K mg) (h_start_for : Has P w K mg base "start_for" 1 ["pieces", "stop", "firsts", "lasts"] (spF K sp_start_for)) (h_last_places : Has P w K mg base "last_places" 1 ["pieces"] (spF K sp_last_places)) (h_first_places : Has P w K mg base "first_places" 1 ["pieces"] (spF K sp_first_places)) {f : Addr} {fd : FuncData} (F : Fd K "is_cut" s_is_cut [] f fd) : FnOk P w K mg base (L2N.CX P w) 2 f fd ["pieces", "start", "stop"] (spF K sp_is_cut) := by
  refine fn_ok F sc_is_cut sp_is_cut (fun _ => rfl) fun cdv A outer s H E g hr pre hx => ?_
  refine ⟨_, (ds_cons (ds_if ((dw_or (dt_ge (dv 1) (dv 2)) (dw_or1 (dt_ge (dv 2) (de_len T.b_len (da_cons (dv 0) da_nil)))))).dt
      (ds_one (ds_ret de_bl))
      ds_nil)
      (ds_one (ds_ret (de_eqD hr (de_call h_start_for hr (da_cons (dv 0) (da_cons (dv 2) (da_cons (de_call h_first_places hr (da_cons (dv 0) da_nil)) (da_cons (de_call h_last_places hr (da_cons (dv 0) da_nil)) da_nil))))) (dv 1))))), ?_⟩
  obtain ⟨ns, p, q⟩ := g
  have pre : ns.length ≤ 1000 := pre
  refine sif (q ≤ p ∨ ns.length ≤ q) (fun A' F' hA hF => ?_) (fun h => ?_) (fun h => ?_)
  · show if decide (((q : Nat) : Int) ≤ (p : Nat)) = true then _ else _
    refine ite2 (fun h => hA (.inl (by have := of_decide_eq_true h; omega))) (fun h => ?_)
    show if decide (((ns.map D.int).length : Int) ≤ (q : Nat)) = true then _ else _
    have el : ((ns.map D.int).length : Int) = (ns.length : Nat) := by rw [List.length_map]
    rw [el]
    refine ite2 (fun h2 => hA (.inr (by have := of_decide_eq_true h2; omega))) (fun h2 => hF ?_)
    have h : ¬ ((q : Nat) : Int) ≤ (p : Nat) := fun z => h (decide_eq_true z)
    have h2 : ¬ ((ns.length : Nat) : Int) ≤ (q : Nat) := fun z => h2 (decide_eq_true z)
    omega
  · show D.bl false = D.bl (cutB ns p q)
    rw [cutB_false fun c => by have := c.lt; have := c.ql; omega]
  · refine ⟨ns, rfl, pre, fun r hr => ?_, fun _ h => h.elim⟩
    obtain ⟨k1, rfl, f1⟩ := hr
    refine ⟨ns, rfl, pre, fun r hr => ?_, fun _ h => h.elim⟩
    obtain ⟨k2, rfl, f2⟩ := hr
    refine ⟨(ns, q, k1, k2), rfl, ⟨by show q < ns.length; omega, pre, f1, f2⟩, fun r hr => ?_, fun _ h => h.elim⟩
    have hr : r = optD (cutOf ns q) := hr
    subst hr
    cases hc : cutOf ns q with
    | none =>
      refine ⟨.none, .int (p : Nat), rfl, rfl, rfl, rfl, ?_⟩
      show D.bl _ = D.bl (cutB ns p q)
      rw [cutB_false fun c => by rw [cutOf_some c] at hc; cases hc]
      rfl
    | some p' =>
      refine ⟨.int (p' : Nat), .int (p : Nat), rfl, rfl, rfl, rfl, ?_⟩
      show D.bl (decide (((p' : Nat) : Int) = (p : Nat))) = D.bl (cutB ns p q)
      by_cases e : p' = p
      · subst e
        rw [cutB_true (cutOf_el hc), decide_eq_true rfl]
      · rw [cutB_false fun c => e (CutR.uniq (cutOf_el hc) c), decide_eq_false (by omega)]
theorem has_is_cut (T : Tx K mg) (h_start_for : Has P w K mg base "start_for" 1 ["pieces", "stop", "firsts", "lasts"] (spF K sp_start_for)) (h_last_places : Has P w K mg base "last_places" 1 ["pieces"] (spF K sp_last_places)) (h_first_places : Has P w K mg base "first_places" 1 ["pieces"] (spF K sp_first_places)) {f : Addr} {fd : FuncData} (F : Fd K "is_cut" s_is_cut [] f fd) (gm : mg "is_cut" = some (.ref f)) : Has P w K mg base "is_cut" 2 ["pieces", "start", "stop"] (spF K sp_is_cut) := by
  exact has_of F gm (ok_is_cut T  h_start_for h_last_places h_first_places F) fun _ _ _ _ _ _ us hl => match us, hl with | [_, _, _], _ => rfl
noncomputable abbrev sp_lib_C (K : PySem.W.Frag) : FS := sp_lib K fCuts
noncomputable abbrev sp_lib_F (K : PySem.W.Frag) : FS := sp_lib K fFirst
noncomputable abbrev sp_libR_C : SS := sp_libR fCuts
noncomputable abbrev sp_libR_F : SS := sp_libR fFirst
noncomputable def cutsTo (ns : List Int) (n : Nat) : List (Nat × Nat) := (List.range n).filterMap fun q => (cutOf ns q).map fun p => (p, q)
theorem cutsTo_succ (ns : List Int) (n : Nat) : cutsTo ns (n + 1) = cutsTo ns n ++ (match cutOf ns n with | some p => [(p, n)] | none => []) := by
  unfold cutsTo
  rw [List.range_succ, List.filterMap_append]
  congr 1
  cases h : cutOf ns n with
  | none => rw [List.filterMap_cons_none (by rw [h]; rfl)]; rfl
  | some p => rw [List.filterMap_cons_some (b := (p, n)) (by rw [h]; rfl)]; rfl
theorem cutsTo_len (ns : List Int) (n : Nat) : (cutsTo ns n).length ≤ n := by
  have := List.length_filterMap_le (fun q => (cutOf ns q).map fun p => (p, q)) (List.range n)
  rw [List.length_range] at this
  exact this
end
end Q
/-! C11 -/
set_option Elab.async false
set_option linter.all false
set_option maxRecDepth 100000
set_option maxHeartbeats 8000000
namespace Q
open PySem PySem.Spec PyProof.Rows L2 N
section
variable {P : Program} {w : World} {K : PySem.W.Frag} {mg : Str → Option Value} {base : Heap}
/-! cuts and short rows: plain -/
theorem mem_singles {ns : List Int} (v : RowV 8 ns) {x : Int} (hx : x ∈ ns) : x ∈ singlesOf ns ↔ ns.count x = 1 := by
  unfold singlesOf
  rw [List.mem_filter]
  constructor
  · rintro ⟨_, h⟩
    have := of_decide_eq_true h
    omega
  · intro h
    obtain ⟨h0, h8⟩ := v.2 x hx
    refine ⟨List.mem_map.mpr ⟨x.toNat, List.mem_range.mpr (by omega), by omega⟩, decide_eq_true (by omega)⟩
theorem count1 {ns : List Int} {a : Nat} {k : Int} (h : ns[a]? = some k) (n : ∀ b, b ≠ a → ns[b]? ≠ some k) : ns.count k = 1 := by
  obtain ⟨ha, e⟩ := List.getElem?_eq_some_iff.mp h
  have e1 : ns = ns.take a ++ k :: ns.drop (a + 1) := by
    rw [← e, ← List.drop_eq_getElem_cons ha, List.take_append_drop]
  have z1 : (ns.take a).count k = 0 := List.count_eq_zero.mpr fun hm => by
    obtain ⟨j, hj⟩ := List.mem_iff_getElem?.mp hm
    rw [List.getElem?_take] at hj
    split at hj
    · exact n j (by omega) hj
    · cases hj
  have z2 : (ns.drop (a + 1)).count k = 0 := List.count_eq_zero.mpr fun hm => by
    obtain ⟨j, hj⟩ := List.mem_iff_getElem?.mp hm
    rw [List.getElem?_drop] at hj
    exact n (a + 1 + j) (by omega) hj
  rw [e1, List.count_append, List.count_cons_self, z1, z2]
theorem count2 {ns : List Int} {a b : Nat} {k : Int} (hab : a < b) (h : ns[a]? = some k) (h' : ns[b]? = some k) : 2 ≤ ns.count k := by
  obtain ⟨ha, e⟩ := List.getElem?_eq_some_iff.mp h
  have e1 : ns = ns.take (a + 1) ++ ns.drop (a + 1) := (List.take_append_drop _ _).symm
  have m1 : k ∈ ns.take (a + 1) := List.mem_iff_getElem?.mpr ⟨a, by rw [List.getElem?_take, if_pos (by omega)]; exact h⟩
  have m2 : k ∈ ns.drop (a + 1) := List.mem_iff_getElem?.mpr ⟨b - (a + 1), by rw [List.getElem?_drop, show a + 1 + (b - (a + 1)) = b from by omega]; exact h'⟩
  have c1 := List.count_pos_iff.mpr m1
  have c2 := List.count_pos_iff.mpr m2
  rw [e1, List.count_append]
  omega
/-- two like pieces, no single between -/
def Viol (ns : List Int) (i j : Nat) : Prop := i < j ∧ (∃ x, ns[i]? = some x ∧ ns[j]? = some x) ∧ ∀ m s, i < m → m < j → ns[m]? = some s → s ∉ singlesOf ns
theorem viol_of {ns : List Int} (h : ¬ SepBy (singlesOf ns) ns) : ∃ i j, Viol ns i j := by
  refine Classical.byContradiction fun z => h fun i j x hij hi hj => ?_
  refine Classical.byContradiction fun z2 => z ⟨i, j, hij, ⟨x, hi, hj⟩, fun m s h1 h2 h3 h4 => z2 ⟨m, s, h1, h2, h3, h4⟩⟩
theorem viol_min {ns : List Int} : ∀ (d i j : Nat), j - i ≤ d → Viol ns i j → ∃ i j, Viol ns i j ∧ ∀ i' j', Viol ns i' j' → j - i ≤ j' - i'
  | 0, i, j, hd, v => by have := v.1; omega
  | d + 1, i, j, hd, v => by
    by_cases h : ∃ i' j', Viol ns i' j' ∧ j' - i' < j - i
    · obtain ⟨i', j', v', l⟩ := h
      exact viol_min d i' j' (by omega) v'
    · refine ⟨i, j, v, fun i' j' v' => ?_⟩
      refine Nat.le_of_not_lt fun l => h ⟨i', j', v', l⟩
theorem cut_of_viol {ns : List Int} (v8 : RowV 8 ns) {i j : Nat} (v : Viol ns i j) (mn : ∀ i' j', Viol ns i' j' → j - i ≤ j' - i') : CutR ns i j := by
  obtain ⟨hij, ⟨x, hi, hj⟩, ns1⟩ := v
  have hjl := (List.getElem?_eq_some_iff.mp hj).1
  have inner : ∀ a b y, i ≤ a → a < b → b ≤ j → (i < a ∨ b < j) → ns[a]? = some y → ns[b]? = some y → False := fun a b y h1 h2 h3 h4 ha hb => by
    have := mn a b ⟨h2, ⟨y, ha, hb⟩, fun m s h5 h6 h7 => ns1 m s (by omega) (by omega) h7⟩
    omega
  have nd : (secOf ns i j).Nodup := by
    refine List.pairwise_iff_getElem.mpr fun a b ha hb hab e => ?_
    have la : a < j - i := by unfold secOf at ha; rw [List.length_take, List.length_drop] at ha; omega
    have lb : b < j - i := by unfold secOf at hb; rw [List.length_take, List.length_drop] at hb; omega
    have ga : ∀ c, c < j - i → (secOf ns i j)[c]? = ns[i + c]? := fun c hc => by
      unfold secOf
      rw [List.getElem?_take, if_pos hc, List.getElem?_drop]
    have h1 := (ga a la).symm.trans (List.getElem?_eq_getElem ha)
    have h2 := (ga b lb).symm.trans (List.getElem?_eq_getElem hb)
    rw [← e] at h2
    exact inner (i + a) (i + b) _ (by omega) (by omega) (by omega) (.inr (by omega)) h1 h2
  refine ⟨hij, hjl, by rw [hi, hj], fun m h1 h2 h3 => inner i m x (Nat.le_refl _) h1 (by omega) (.inr h2) hi (by rw [h3, hj]), nd, fun k hk => ?_⟩
  obtain ⟨a, a1, a2, a3⟩ := sec_mem.mp hk
  have hkm : k ∈ ns := List.mem_of_getElem? a3
  have nc : ns.count k ≠ 1 := by
    by_cases e : a = i
    · subst e
      rw [hi] at a3
      obtain rfl := Option.some.inj a3
      have := count2 hij hi hj
      omega
    · exact fun z => ns1 a k (by omega) a2 a3 ((mem_singles v8 hkm).mpr z)
  have ⟨b, hb, hbk⟩ : ∃ b, b ≠ a ∧ ns[b]? = some k := Classical.byContradiction fun z => nc (count1 a3 fun b h1 h2 => z ⟨b, h1, h2⟩)
  refine out_mem.mpr ⟨b, ?_, hbk⟩
  by_cases h1 : b < i
  · exact .inl h1
  · by_cases h2 : b < j
    · exfalso
      rcases Nat.lt_or_gt_of_ne hb with h | h
      · exact inner b a k (by omega) h (by omega) (.inr a2) hbk a3
      · exact inner a b k a1 h (by omega) (.inr h2) a3 hbk
    · exact .inr (by omega)
theorem mem_cuts {ns : List Int} {p q : Nat} : (p, q) ∈ cutsOf ns ↔ CutR ns p q := by
  unfold cutsOf
  rw [List.mem_filterMap]
  constructor
  · rintro ⟨q', _, h⟩
    obtain ⟨p', hp, e⟩ := Option.map_eq_some_iff.mp h
    cases e
    exact cutOf_el hp
  · intro c
    exact ⟨q, List.mem_range.mpr c.ql, by rw [cutOf_some c]; rfl⟩
theorem noCuts {ns : List Int} (v8 : RowV 8 ns) : cutsOf ns = [] ↔ SepBy (singlesOf ns) ns := by
  constructor
  · intro h
    refine Classical.byContradiction fun z => ?_
    obtain ⟨i, j, v⟩ := viol_of z
    obtain ⟨i, j, v, mn⟩ := viol_min (j - i) i j (Nat.le_refl _) v
    have := mem_cuts.mpr (cut_of_viol v8 v mn)
    rw [h] at this
    simp at this
  · intro h
    cases e : cutsOf ns with
    | nil => rfl
    | cons c r =>
      obtain ⟨p, q⟩ := c
      have c : CutR ns p q := mem_cuts.mp (by rw [e]; exact List.mem_cons_self)
      exfalso
      have hql : q < ns.length := c.ql
      have hq : ns[q]? = some ns[q] := List.getElem?_eq_getElem hql
      obtain ⟨m, s, h1, h2, h3, h4⟩ := h p q ns[q] c.lt (by rw [c.eq, hq]) hq
      have h5 := singles_sub h4
      obtain ⟨b, hb, hbs⟩ := out_mem.mp (c.cov s (sec_mem.mpr ⟨m, by omega, h2, h3⟩))
      rcases hb with hb | hb
      · have := count2 (show b < m from by omega) hbs h3; omega
      · have := count2 (show m < b from by omega) h3 hbs; omega
theorem sep_nodup {al g r : List Int} (hg : ∀ x ∈ g, x ∉ al) (h : SepBy al (g ++ r)) : g.Nodup := by
  refine List.pairwise_iff_getElem.mpr fun i j hi hj hij e => ?_
  obtain ⟨m, s, h1, h2, h3, h4⟩ := h i j g[i] hij (by rw [List.getElem?_append_left hi]; exact List.getElem?_eq_getElem hi) (by rw [List.getElem?_append_left hj, List.getElem?_eq_getElem hj, e])
  rw [List.getElem?_append_left (by omega)] at h3
  exact hg s (List.mem_of_getElem? h3) h4
theorem sep_tail {al a r : List Int} (h : SepBy al (a ++ r)) : SepBy al r := fun i j x hij hi hj => by
  obtain ⟨m, s, h1, h2, h3, h4⟩ := h (a.length + i) (a.length + j) x (by omega) (by rw [List.getElem?_append_right (by omega), Nat.add_sub_cancel_left]; exact hi) (by rw [List.getElem?_append_right (by omega), Nat.add_sub_cancel_left]; exact hj)
  rw [List.getElem?_append_right (by omega)] at h3
  exact ⟨m - a.length, s, by omega, by omega, h3, h4⟩
theorem go_nodup {al : List Int} : ∀ (ns g : List Int), (∀ x ∈ g, x ∉ al) → SepBy al (g ++ ns) → ∀ gp ∈ gapGo al ns g, gp.Nodup
  | [], g, hg, h, gp, hm => by
    rw [gapGo] at hm
    rw [List.mem_singleton.mp hm]
    exact sep_nodup hg h
  | k :: r, g, hg, h, gp, hm => by
    rw [gapGo] at hm
    split at hm
    · rcases List.mem_cons.mp hm with rfl | hm
      · exact sep_nodup hg h
      · refine go_nodup r [] (fun x hx => by simp at hx) ?_ gp hm
        have e : g ++ k :: r = (g ++ [k]) ++ r := by simp
        rw [e] at h
        exact sep_tail h
    · rename_i hk
      refine go_nodup r (g ++ [k]) (fun x hx => ?_) (by rw [List.append_assoc]; exact h) gp hm
      rcases List.mem_append.mp hx with hx | hx
      · exact hg x hx
      · rw [List.mem_singleton.mp hx]; exact hk
theorem nd_at {g : List Int} (h : g.Nodup) {i j : Nat} {x : Int} (hi : g[i]? = some x) (hj : g[j]? = some x) : i = j := by
  obtain ⟨li, ei⟩ := List.getElem?_eq_some_iff.mp hi
  obtain ⟨lj, ej⟩ := List.getElem?_eq_some_iff.mp hj
  rcases Nat.lt_trichotomy i j with z | z | z
  · exact absurd (ei.trans ej.symm) ((List.pairwise_iff_getElem.mp h) _ _ li lj z)
  · exact z
  · exact absurd (ej.trans ei.symm) ((List.pairwise_iff_getElem.mp h) _ _ lj li z)
/-- the other way: gaps without a kind twice -/
theorem sep_of_go {al : List Int} : ∀ (ns g : List Int), (∀ x ∈ g, x ∉ al) → (∀ x ∈ al, (g ++ ns).count x ≤ 1) → (∀ gp ∈ gapGo al ns g, gp.Nodup) → SepBy al (g ++ ns)
  | [], g, hg, hc, h => fun i j x hij hi hj => by
    rw [List.append_nil] at hi hj
    have := nd_at (h g (by rw [gapGo]; exact List.mem_singleton.mpr rfl)) hi hj
    omega
  | k :: r, g, hg, hc, h => by
    rw [gapGo] at h
    have e : g ++ k :: r = (g ++ [k]) ++ r := by simp
    by_cases hk : k ∈ al
    · rw [if_pos hk] at h
      have hn := h g List.mem_cons_self
      have ih := sep_of_go r [] (fun x hx => by simp at hx) (fun x hx => by
        have := hc x hx
        rw [e, List.count_append] at this
        rw [List.nil_append]
        omega) fun gp hm => h gp (List.mem_cons_of_mem _ hm)
      intro i j x hij hi hj
      by_cases h1 : j < g.length
      · rw [List.getElem?_append_left h1] at hj
        rw [List.getElem?_append_left (by omega)] at hi
        have := nd_at hn hi hj
        omega
      · by_cases h2 : i < g.length
        · by_cases h3 : j = g.length
          · exfalso
            rw [h3, List.getElem?_append_right (Nat.le_refl _), Nat.sub_self] at hj
            have : k = x := by simpa using hj
            rw [List.getElem?_append_left h2] at hi
            exact hg x (List.mem_of_getElem? hi) (this ▸ hk)
          · exact ⟨g.length, k, h2, by omega, by rw [List.getElem?_append_right (Nat.le_refl _), Nat.sub_self]; rfl, hk⟩
        · by_cases h3 : i = g.length
          · exfalso
            have e1 : x = k := by
              rw [h3, List.getElem?_append_right (Nat.le_refl _), Nat.sub_self] at hi
              exact (by simpa using hi : k = x).symm
            have := count2 hij hi hj
            have := hc x (e1 ▸ hk)
            omega
          · obtain ⟨m, s, m1, m2, m3, m4⟩ := ih (i - (g.length + 1)) (j - (g.length + 1)) x (by omega) (by
              rw [e, List.getElem?_append_right (by rw [List.length_append, List.length_singleton]; omega)] at hi
              rw [List.nil_append]
              rw [List.length_append, List.length_singleton] at hi
              exact hi) (by
              rw [e, List.getElem?_append_right (by rw [List.length_append, List.length_singleton]; omega)] at hj
              rw [List.nil_append]
              rw [List.length_append, List.length_singleton] at hj
              exact hj)
            refine ⟨m + (g.length + 1), s, by omega, by omega, ?_, m4⟩
            rw [e, List.getElem?_append_right (by rw [List.length_append, List.length_singleton]; omega), List.length_append, List.length_singleton, Nat.add_sub_cancel]
            rw [List.nil_append] at m3
            exact m3
    · rw [if_neg hk] at h
      rw [e]
      refine sep_of_go r (g ++ [k]) (fun x hx => ?_) (by rw [← e]; exact hc) h
      rcases List.mem_append.mp hx with hx | hx
      · exact hg x hx
      · rw [List.mem_singleton.mp hx]; exact hk
theorem short_iff {ns : List Int} (hne : ns ≠ []) : isShort ns = true ↔ SepBy (singlesOf ns) ns := by
  have e1 : isShort ns = (gapsOf ns).all nodupB := isShort_of hne rfl
  rw [e1]
  constructor
  · intro h
    have := sep_of_go (al := singlesOf ns) ns [] (fun x hx => by simp at hx) (fun x hx => by have := singles_sub hx; rw [List.nil_append]; omega) fun gp hm => of_decide_eq_true (List.all_eq_true.mp h gp hm)
    exact this
  · intro h
    exact List.all_eq_true.mpr fun gp hm => decide_eq_true (go_nodup ns [] (fun x hx => by simp at hx) h gp hm)
theorem cuts_short {ns : List Int} (v8 : RowV 8 ns) (hne : ns ≠ []) : decide (cutsOf ns = []) = isShort ns := by
  cases h : isShort ns with
  | true => exact decide_eq_true ((noCuts v8).mpr ((short_iff hne).mp h))
  | false => exact decide_eq_false fun z => by rw [(short_iff hne).mpr ((noCuts v8).mp z)] at h; cases h
theorem not_nodup_go {al : List Int} : ∀ (ns g : List Int), ¬ g.Nodup → (gapGo al ns g).all nodupB = false
  | [], g, h => by
    rw [gapGo]
    show (nodupB g && true) = false
    rw [nodupB, decide_eq_false h]
    rfl
  | k :: r, g, h => by
    rw [gapGo]
    split
    · show (nodupB g && _) = false
      rw [nodupB, decide_eq_false h]
      rfl
    · exact not_nodup_go r (g ++ [k]) fun z => h (List.nodup_append.mp z).1
/-! the law's own: below, short, cuts -/
def Below (low : Int) (r : D) : Prop := r ∈ noNums ∨ ∃ i, r = .int i ∧ i < low
def sp_below : SS := { α := Int, args := fun low => [.int low], pre := fun _ => True, post := fun low r => Below low r, s0 := fun _ => StOk, s1 := fun _ => StOk }
def sp_law_short : FS := { α := Bool × List Int, args := fun g => [seqD g.1 (g.2.map D.int)], pre := fun g => RowV 8 g.2, post := fun g r => r = .bl (isShort g.2) }
noncomputable def sp_law_cuts : FS := { α := List Int, args := fun ns => [.lst (ns.map D.int)], pre := fun ns => RowV 8 ns, post := fun ns r => r = .lst ((cutsOf ns).map cutP) }
/-! _law_is_short -/
abbrev s_law_is_short : Stmt := topS 54
abbrev n_law_is_short : List Str := ["row", "gap", "kind"]
theorem sc_law_is_short : FnScope n_law_is_short ["row"] (defScope s_law_is_short) := ⟨rfl, rfl, rfl, by decide +kernel, rfl, by decide +kernel, by decide +kernel⟩
theorem ok_law_is_short (T : Tx K mg) {f : Addr} {fd : FuncData} (F : Fd K "_law_is_short" s_law_is_short [] f fd) : FnOk P w K mg base (L2N.CX P w) 1 f fd ["row"] (spF K sp_law_short) := by
  refine fn_ok F sc_law_is_short sp_law_short (fun _ => rfl) fun cdv A outer s H E g hr pre hx => ?_
  refine ⟨_, (ds_cons (ds_setO (i := 1) sc_law_is_short.nd (dn_lst da_nil))
      (ds_cons (ds_for (passes_of rfl) (di_seq (dv 0)) (dg 2 sc_law_is_short.nd)
      (ds_one (ds_if (dt_eq (de_count (de_new (dn_list T.b_list (da_cons (dv 0) da_nil))) (dv 2)) de_int)
      (ds_one (ds_setO (i := 1) sc_law_is_short.nd (dn_lst da_nil)))
      (ds_one (ds_if (dt_in (dv 2) (dv 1))
      (ds_one (ds_ret de_bl))
      (ds_one (ds_expr (de_append (dv 1) (dv 2)))))))))
      (ds_one (ds_ret (de_gt (de_len T.b_len (da_cons (dv 0) da_nil)) de_int))))), ?_⟩
  obtain ⟨b, ns⟩ := g
  have v : RowV 8 ns := pre
  have eg : ((ns.map D.int).length : Nat) = ns.length := List.length_map _
  have fin : ∀ {b : Bool}, (gapsOf ns).all nodupB = b → (ns ≠ [] → (D.bl b) = D.bl (isShort ns)) := fun h hne => by rw [isShort_of hne h]
  cases b <;> (
    intro q
    refine ⟨fun k ρ => ∃ (q' : Addr) (gp : List Int) (kk : Slot), ρ = [.v (seqD _ (ns.map D.int)), .own q' (gp.map D.int), kk] ∧ gp.Nodup ∧ gp.length ≤ k ∧ (gapsOf ns).all nodupB = (gapGo (singlesOf ns) (ns.drop k) gp).all nodupB, ⟨q, [], _, rfl, List.nodup_nil, Nat.le_refl _, rfl⟩, fun _ _ _ _ => trivial, ?_, ?_⟩
    · rintro k d ρ hk hd ⟨q', gp, kk, rfl, nd, hl, ha⟩
      have hd : (ns.map D.int)[k]? = some d := hd
      rw [List.getElem?_map] at hd
      obtain ⟨x, hx, rfl⟩ := Option.map_eq_some_iff.mp hd
      obtain ⟨hkl, hxe⟩ := List.getElem?_eq_some_iff.mp hx
      have hxm := List.mem_of_getElem? hx
      have ed : ns.drop k = x :: ns.drop (k + 1) := by rw [← hxe]; exact List.drop_eq_getElem_cons hkl
      rw [ed, gapGo] at ha
      refine ⟨⟨_, rfl⟩, ns, rfl, ?_⟩
      show if decide ((ns.count x : Int) = 1) = true then _ else _
      refine ite2 (fun h => ?_) (fun h => ?_)
      · have h := of_decide_eq_true h
        rw [if_pos ((mem_singles v hxm).mpr (by omega))] at ha
        intro q2
        refine ⟨q2, [], _, rfl, List.nodup_nil, Nat.zero_le _, ?_⟩
        rw [ha]
        show (nodupB gp && _) = _
        rw [nodupB, decide_eq_true nd, Bool.true_and]
      · have h : ¬ (ns.count x : Int) = 1 := fun z => h (decide_eq_true z)
        rw [if_neg (fun z => h (by have := (mem_singles v hxm).mp z; omega))] at ha
        refine ⟨x, false, gp, rfl, rfl, ?_⟩
        show if decide (x ∈ gp) = true then _ else _
        refine ite2 (fun h2 => ?_) (fun h2 => ?_)
        · have h2 := of_decide_eq_true h2
          rw [not_nodup_go _ _ (fun z => (List.nodup_append.mp z).2.2 x h2 x (List.mem_singleton.mpr rfl) rfl)] at ha
          exact fin ha fun z => by rw [z] at hxm; simp at hxm
        · have h2 : x ∉ gp := fun z => h2 (decide_eq_true z)
          refine ⟨by rw [List.length_map]; have := v.1; omega, q', gp ++ [x], _, by rw [List.map_append]; rfl, ?_, by rw [List.length_append, List.length_singleton]; omega, ha⟩
          exact List.nodup_append.mpr ⟨nd, List.nodup_cons.mpr ⟨by simp, List.nodup_nil⟩, fun a ha' b hb e => h2 (by rw [List.mem_singleton.mp hb] at e; exact e ▸ ha')⟩
    · rintro ρ ⟨q', gp, kk, rfl, nd, hl, ha⟩
      show D.bl (decide ((0 : Int) < ((ns.map D.int).length : Nat))) = D.bl (isShort ns)
      rw [eg]
      have el : ns.drop (ns.map D.int).length = [] := by rw [eg]; exact List.drop_length
      have ha : (gapsOf ns).all nodupB = true := by
        refine ha.trans ?_
        rw [show ns.drop _ = [] from el, gapGo]
        show (nodupB gp && true) = true
        rw [nodupB, decide_eq_true nd]
        rfl
      by_cases hne : ns = []
      · subst hne; rfl
      · rw [← fin ha hne, decide_eq_true (by have := List.length_pos_iff.mpr hne; omega)])
theorem has_law_is_short (T : Tx K mg) {f : Addr} {fd : FuncData} (F : Fd K "_law_is_short" s_law_is_short [] f fd) (gm : mg "_law_is_short" = some (.ref f)) : Has P w K mg base "_law_is_short" 1 ["row"] (spF K sp_law_short) := by
  exact has_of F gm (ok_law_is_short T   F) fun _ _ _ _ _ _ us hl => match us, hl with | [_], _ => rfl
end
end Q
/-! C12 -/
set_option Elab.async false
set_option linter.all false
set_option maxRecDepth 100000
set_option maxHeartbeats 8000000
namespace Q
open PySem PySem.Spec PyProof.Rows L2 N
section
variable {P : Program} {w : World} {K : PySem.W.Frag} {mg : Str → Option Value} {base : Heap}
/-! the law's own cuts; a cut asked -/
theorem cutsTo1 (ns : List Int) : cutsTo ns 1 = [] := by
  have := cutsTo_succ ns 0
  rw [cutOf_none (fun p c => by have := c.lt; omega)] at this
  exact this
theorem noCut_ge {ns : List Int} {n : Nat} (h : ns.length ≤ n) : cutOf ns n = none := cutOf_none fun p c => by have := c.ql; omega
theorem nodup8 {l : List Int} (h : l.Nodup) (h8 : ∀ x ∈ l, 0 ≤ x ∧ x < 8) : l.length ≤ 8 := by
  have := len_le_of (r := rgI 8) h fun x hx => by
    obtain ⟨h0, h1⟩ := h8 x hx
    exact List.mem_map.mpr ⟨x.toNat, List.mem_range.mpr (by omega), by omega⟩
  exact Nat.le_trans this (by decide)
theorem sec_len {ns : List Int} {p q : Nat} (h : p ≤ q) (hq : q ≤ ns.length) : (secOf ns p q).length = q - p := by
  unfold secOf
  rw [List.length_take, List.length_drop]
  omega
theorem nodup_cnt {l : List Int} : l.Nodup ↔ ∀ x ∈ l, l.count x ≤ 1 := by
  rw [List.nodup_iff_count]
  exact ⟨fun h x _ => h x, fun h x => by
    by_cases hx : x ∈ l
    · exact h x hx
    · rw [List.count_eq_zero.mpr hx]; omega⟩
/-- bad kinds of a section -/
def badK (ns : List Int) (p q : Nat) (x : Int) : Bool := decide ((1 : Int) < ((secOf ns p q).count x : Nat)) || !decide (x ∈ ns.take p ++ ns.drop q)
theorem bad_nil {ns : List Int} {p q : Nat} : (secOf ns p q).filter (badK ns p q) = [] ↔ (secOf ns p q).Nodup ∧ ∀ x ∈ secOf ns p q, x ∈ ns.take p ++ ns.drop q := by
  rw [List.filter_eq_nil_iff, nodup_cnt]
  constructor
  · intro h
    refine ⟨fun x hx => ?_, fun x hx => ?_⟩
    · have := h x hx
      unfold badK at this
      simp only [Bool.or_eq_true, decide_eq_true_eq, not_or] at this
      omega
    · have := h x hx
      unfold badK at this
      simp only [Bool.or_eq_true, Bool.not_eq_true', decide_eq_false_iff_not, not_or, Classical.not_not] at this
      exact this.2
  · rintro ⟨h1, h2⟩ x hx
    unfold badK
    have := h1 x hx
    simp only [Bool.or_eq_true, decide_eq_true_eq, Bool.not_eq_true', decide_eq_false_iff_not, not_or, Classical.not_not]
    exact ⟨by omega, h2 x hx⟩
end
end Q
/-! C13 -/
set_option Elab.async false
set_option linter.all false
set_option maxRecDepth 100000
set_option maxHeartbeats 8000000
namespace Q
open PySem PySem.Spec PyProof.Rows L2 N
section
variable {P : Program} {w : World} {K : PySem.W.Frag} {mg : Str → Option Value} {base : Heap}
/-! lemmas for the law's own functions -/
theorem pdAll_cuts : ∀ l : List (Nat × Nat), pdAll (l.map cutP) = some (l.map fun c => PyData.tuple [.int c.1, .int c.2])
  | [] => by rw [List.map_nil, pdAll]; rfl
  | c :: l => by rw [List.map_cons, pdAll, pdAll_cuts l, cutP, pd, pdAll, pdAll, pdAll, pd, pd]; rfl
theorem lay_cuts : ∀ l : List (Nat × Nat), PyData.canLayAll0 (l.map fun c => PyData.tuple [.int c.1, .int c.2]) = true
  | [] => rfl
  | c :: l => by rw [List.map_cons, PyData.canLayAll0, lay_cuts l]; rfl
theorem depth_cuts : ∀ l : List (Nat × Nat), PyData.depthAll (l.map fun c => PyData.tuple [.int c.1, .int c.2]) ≤ 1
  | [] => by rw [List.map_nil, PyData.depthAll]; decide
  | c :: l => by
    have := depth_cuts l
    rw [List.map_cons, PyData.depthAll, PyData.depth, PyData.depthAll, PyData.depthAll, PyData.depthAll, PyData.depth, PyData.depth]
    omega
theorem shaped_cuts (l : List (Nat × Nat)) : SeqAt.shaped (.list (l.map fun c => PyData.tuple [.int c.1, .int c.2])) = true := by
  have h1 : PyData.canLay0 (.list (l.map fun c => PyData.tuple [.int c.1, .int c.2])) = true := lay_cuts l
  have h2 : PyData.depth (.list (l.map fun c => PyData.tuple [.int c.1, .int c.2])) ≤ 64 := by
    have := depth_cuts l
    rw [PyData.depth]
    omega
  unfold SeqAt.shaped
  rw [h1, decide_eq_true h2]
  rfl
theorem any_cuts {p q : Nat} : ∀ l : List (Nat × Nat), ((l.map fun c => PyData.tuple [.int c.1, .int c.2]).any fun z => PyData.eqv z (.tuple [.int p, .int q])) = decide ((p, q) ∈ l)
  | [] => by simp
  | c :: l => by
    rw [List.map_cons, List.any_cons, any_cuts l]
    have e : PyData.eqv (.tuple [.int c.1, .int c.2]) (.tuple [.int p, .int q]) = decide ((p, q) = c) := by
      show (decide ((c.1 : Int) = p) && (decide ((c.2 : Int) = q) && true)) = _
      obtain ⟨a, b⟩ := c
      by_cases h1 : a = p
      · by_cases h2 : b = q
        · subst h1 h2; simp
        · have : ¬ ((b : Int) = q) := by omega
          simp [h1, this]; omega
      · have : ¬ ((a : Int) = p) := by omega
        simp [this]; omega
    rw [e]
    by_cases h : (p, q) = c
    · simp [h]
    · simp [h]
theorem rowIn_ints (ns : List Int) : RowIn (.tup (ns.map D.int)) ∧ RowIn (.lst (ns.map D.int)) := by
  have h : ∀ x ∈ ns.map D.int, (ty7 x).isSome = true := fun d hd => by
    obtain ⟨n, _, rfl⟩ := List.mem_map.mp hd
    rfl
  exact ⟨⟨rfl, fun ds e x hx => by cases e; exact h x hx⟩, ⟨rfl, fun ds e x hx => by cases e; exact h x hx⟩⟩
theorem row_ok {ns : List Int} (v : RowV 8 ns) : isRow 8 (.tup (ns.map D.int)) = true ∧ isRow 8 (.lst (ns.map D.int)) = true := by
  have h1 : decide ((ns.map D.int).length ≤ 200) = true := decide_eq_true (by rw [List.length_map]; exact v.1)
  have h2 : (ns.map D.int).all (isK 8) = true := List.all_eq_true.mpr fun d hd => by
    obtain ⟨n, hn, rfl⟩ := List.mem_map.mp hd
    exact decide_eq_true (v.2 n hn)
  exact ⟨by show (_ && _) = true; rw [h1, h2]; rfl, by show (_ && _) = true; rw [h1, h2]; rfl⟩
theorem ints_inj {as bs : List Int} (h : as.map D.int = bs.map D.int) : as = bs := by
  rw [← toI_map as, h, toI_map]
theorem natD_nat (n : Nat) : natD (.int n) = some n := by
  show (if (0 : Int) ≤ (n : Int) then some (n : Int).toNat else none) = some n
  rw [if_pos (by omega), Int.toNat_natCast]
theorem same_tup (ns : List Int) (h : ns.length ≤ 1000) : sameOk (dTup ns) = true ∧ wt (dTup ns) ≤ 1000000 := by
  refine ⟨sameOk_ints ns, ?_⟩
  show wt (.tup (ns.map D.int)) ≤ 1000000
  rw [wt, wt_ints]
  omega
theorem same_lst (ns : List Int) (h : ns.length ≤ 1000) : sameOk (.lst (ns.map D.int)) = true ∧ wt (.lst (ns.map D.int)) ≤ 1000000 := by
  refine ⟨sameOk_ints ns, ?_⟩
  rw [wt, wt_ints]
  omega
theorem ref_pre {nm : Str} (h : nm ∈ cls13) : sp_refused.pre (nm, .non) := by
  have h2 : ∀ nm ∈ cls13, decide (nm = ("Gains" : Str)) = false ∧ SeqAt.shaped (.list [.str nm]) = true := by decide +kernel
  exact ⟨rfl, by show wt .non ≤ 1000000; rw [wt]; decide, of_decide_eq_false (h2 nm h).1, (h2 nm h).2⟩
theorem sameOk_cuts (l : List (Nat × Nat)) : sameOkL (l.map cutP) = true := sameOkL_mem.mpr fun d hd => by
  obtain ⟨c, _, rfl⟩ := List.mem_map.mp hd
  rfl
theorem wt_cuts : ∀ l : List (Nat × Nat), wtL (l.map cutP) = 3 * l.length
  | [] => rfl
  | c :: l => by
    rw [List.map_cons, wtL, wt_cuts l, List.length_cons, cutP, wt, wtL, wtL, wtL, wt, wt]
    omega
theorem cutsOf_len (ns : List Int) : (cutsOf ns).length ≤ ns.length := cutsTo_len ns ns.length
theorem join1 {r1 R : RS} {e : DEnds} {ρ : En} (J : En → Prop) (k : ∀ R' : RS, (∀ ρ', J ρ' → R' e ρ') → (rSeq r1 R') e ρ) (h : ∀ ρ', J ρ' → R e ρ') : (rSeq r1 R) e ρ := k R h
theorem join2 {r1 r2 R : RS} {e : DEnds} {ρ : En} (J : En → Prop) (k : ∀ R' : RS, (∀ ρ', J ρ' → R' e ρ') → (rSeq r1 (rSeq r2 R')) e ρ) (h : ∀ ρ', J ρ' → R e ρ') : (rSeq r1 (rSeq r2 R)) e ρ := k R h
theorem join3 {r1 r2 r3 R : RS} {e : DEnds} {ρ : En} (J : En → Prop) (k : ∀ R' : RS, (∀ ρ', J ρ' → R' e ρ') → (rSeq r1 (rSeq r2 (rSeq r3 R'))) e ρ) (h : ∀ ρ', J ρ' → R e ρ') : (rSeq r1 (rSeq r2 (rSeq r3 R))) e ρ := k R h
theorem join4 {r1 r2 r3 r4 R : RS} {e : DEnds} {ρ : En} (J : En → Prop) (k : ∀ R' : RS, (∀ ρ', J ρ' → R' e ρ') → (rSeq r1 (rSeq r2 (rSeq r3 (rSeq r4 R')))) e ρ) (h : ∀ ρ', J ρ' → R e ρ') : (rSeq r1 (rSeq r2 (rSeq r3 (rSeq r4 R)))) e ρ := k R h
theorem join5 {r1 r2 r3 r4 r5 R : RS} {e : DEnds} {ρ : En} (J : En → Prop) (k : ∀ R' : RS, (∀ ρ', J ρ' → R' e ρ') → (rSeq r1 (rSeq r2 (rSeq r3 (rSeq r4 (rSeq r5 R'))))) e ρ) (h : ∀ ρ', J ρ' → R e ρ') : (rSeq r1 (rSeq r2 (rSeq r3 (rSeq r4 (rSeq r5 R))))) e ρ := k R h
theorem join6 {r1 r2 r3 r4 r5 r6 R : RS} {e : DEnds} {ρ : En} (J : En → Prop) (k : ∀ R' : RS, (∀ ρ', J ρ' → R' e ρ') → (rSeq r1 (rSeq r2 (rSeq r3 (rSeq r4 (rSeq r5 (rSeq r6 R')))))) e ρ) (h : ∀ ρ', J ρ' → R e ρ') : (rSeq r1 (rSeq r2 (rSeq r3 (rSeq r4 (rSeq r5 (rSeq r6 R)))))) e ρ := k R h
theorem join7 {r1 r2 r3 r4 r5 r6 r7 R : RS} {e : DEnds} {ρ : En} (J : En → Prop) (k : ∀ R' : RS, (∀ ρ', J ρ' → R' e ρ') → (rSeq r1 (rSeq r2 (rSeq r3 (rSeq r4 (rSeq r5 (rSeq r6 (rSeq r7 R'))))))) e ρ) (h : ∀ ρ', J ρ' → R e ρ') : (rSeq r1 (rSeq r2 (rSeq r3 (rSeq r4 (rSeq r5 (rSeq r6 (rSeq r7 R))))))) e ρ := k R h
theorem join8 {r1 r2 r3 r4 r5 r6 r7 r8 R : RS} {e : DEnds} {ρ : En} (J : En → Prop) (k : ∀ R' : RS, (∀ ρ', J ρ' → R' e ρ') → (rSeq r1 (rSeq r2 (rSeq r3 (rSeq r4 (rSeq r5 (rSeq r6 (rSeq r7 (rSeq r8 R')))))))) e ρ) (h : ∀ ρ', J ρ' → R e ρ') : (rSeq r1 (rSeq r2 (rSeq r3 (rSeq r4 (rSeq r5 (rSeq r6 (rSeq r7 (rSeq r8 R)))))))) e ρ := k R h
/-- a test that does not hold -/
theorem chk {r : RT} {ra rc : RS} {e : DEnds} {ρ : En} (h : ∀ A' F' : En → Prop, F' ρ → r ρ fun b ρ2 => if b = true then A' ρ2 else F' ρ2) (k : rc e ρ) : rSeq (rIf r ra rNx) rc e ρ := h (fun ρ => ra { e with nx := rc e } ρ) (fun ρ => rNx { e with nx := rc e } ρ) k
theorem atI_0 {α : Type} {d : α} {ds : List α} : atI (d :: ds) 0 = some d := by
  unfold atI
  rw [ixN_nat (Int.le_refl 0) (by rw [List.length_cons]; omega)]
  rfl
def PairOk (d : D) : Prop := ∃ a b : Nat, d = .tup [.int a, .int b]
theorem mem_cutD {ds : List D} {a b : Option Int} {d : D} (h : d ∈ N.cutD ds a b) : d ∈ ds := List.mem_of_mem_drop (List.mem_of_mem_take h)
theorem cutD_len {ds : List D} {a b : Option Int} : (N.cutD ds a b).length ≤ ds.length := by
  unfold N.cutD
  rw [List.length_take, List.length_drop]
  omega
theorem shpL_ints : ∀ (ns : List Int) (w : Int), shpL (ns.map D.int) w = ns.map D.int
  | [], _ => rfl
  | n :: ns, w => by rw [List.map_cons, shpL, shpL_ints ns w]; simp [shp]
theorem depL_ints : ∀ ns : List Int, depL (ns.map D.int) = 0
  | [] => rfl
  | n :: ns => by rw [List.map_cons, depL, depL_ints ns, dep]; rfl
theorem shOkL_ints (ns : List Int) : shOkL (ns.map D.int) = true := shOkL_mem.mpr fun d hd => by
  obtain ⟨n, _, rfl⟩ := List.mem_map.mp hd
  rfl
theorem same_bl (b : Bool) : sameOk (.bl b) = true ∧ wt (.bl b) ≤ 1000000 := ⟨rfl, by rw [wt]; decide⟩
theorem atI_last {α : Type} {ds : List α} (h : ds ≠ []) : ∃ d ∈ ds, atI ds (-1) = some d := by
  have hl := List.length_pos_iff.mpr h
  refine ⟨ds[ds.length - 1], List.getElem_mem _, ?_⟩
  unfold atI
  have e : ixN ds.length (-1) = some (ds.length - 1) := by
    unfold ixN
    rw [if_neg (by omega)]
    first
    | rw [if_pos (by omega)]; congr 1; omega
    | simp; omega
  rw [e]
  exact List.getElem?_eq_getElem (by omega)
theorem pairs_app {as bs : List D} (h : ∀ d ∈ as, PairOk d) (h' : ∀ d ∈ bs, PairOk d) : ∀ d ∈ as ++ bs, PairOk d := fun d hd => (List.mem_append.mp hd).elim (h d) (h' d)
def rr (nm : Str) : D := .tup [raisedD nm, .str nm]
theorem below_no {l : D} (h : Below 0 l) : natD l = none ∧ (ty7 l).isSome = true := by
  rcases h with h | ⟨i, rfl, h⟩
  · simp only [noNums, List.mem_cons, List.not_mem_nil, or_false] at h
    rcases h with rfl | rfl | rfl | rfl | rfl | rfl | rfl | rfl | rfl | rfl | rfl | rfl <;> exact ⟨rfl, rfl⟩
  · refine ⟨?_, rfl⟩
    show (if (0 : Int) ≤ i then some i.toNat else none) = none
    rw [if_neg (by omega)]
theorem no_lib {K : PySem.W.Frag} {f : List Int → D} {d r : D} {G : Prop} (hb : isRow 8 d = false) (h : (sp_lib K f).post d r) : G := by
  obtain ⟨_, h, _⟩ := h
  rw [hb] at h
  cases h
theorem lot_nodup {m : Int} {ns : List Int} (l : LotOk m ns) : ns.Nodup := List.Pairwise.imp (fun h => by omega) l.2.1
theorem lot_len {ns : List Int} (l : LotOk 8 ns) : ns.length ≤ 8 := nodup8 (lot_nodup l) l.2.2
theorem lot_pre {b : Bool} {ns : List Int} (l : LotOk 8 ns) : sp_short_row.pre (b, ns) := ⟨l.1, lot_nodup l, by have := lot_len l; show ns.length ≤ 24; omega⟩
theorem short_row {ns rs : List Int} (l : LotOk 8 ns) (h : ShortOf ns rs) : RowV 8 rs ∧ rs.length ≤ 24 := by
  have h4 := h.2.2.2.1 (lot_len l)
  exact ⟨⟨by omega, fun n hn => l.2.2 n ((h.2.1 n).mp hn)⟩, h4⟩
theorem lib_exc {K : PySem.W.Frag} {f : List Int → D} {d : D} {x : Exn} (h : isRow 8 d = true) (hx : (sp_lib K f).exc d x) : False := by
  have := hx.1
  rw [h] at this
  cases this
theorem lib_lst {K : PySem.W.Frag} {f : List Int → D} {ns : List Int} {r : D} (h : (sp_lib K f).post (.lst (ns.map D.int)) r) : r = f ns := by
  obtain ⟨ms, _, e, _, h⟩ := h
  have e : some (ns.map D.int) = some (ms.map D.int) := e
  rw [ints_inj (Option.some.inj e)]
  exact h
theorem insI {ns : List Int} {i : Nat} {x : Int} : (ns.map D.int).take i ++ [D.int x] ++ (ns.map D.int).drop i = (ns.take i ++ [x] ++ ns.drop i).map D.int := by
  rw [List.map_append, List.map_append, List.map_take, List.map_drop]
  rfl
end
end Q
/-! C14 -/
set_option Elab.async false
set_option linter.all false
set_option maxRecDepth 100000
set_option maxHeartbeats 8000000
namespace Q
open PySem PySem.Spec PyProof.Rows L2 N
section
variable {P : Program} {w : World} {K : PySem.W.Frag} {mg : Str → Option Value} {base : Heap}
/-! logs: checked, judged -/
def toIs (d : D) : List Int := ((rowOf d).getD []).map toI
def entF (d : D) : Option (Nat × List Int) := match rowOf d with
  | some [a, b] => (match natD a with
    | some p => if isRow 8 b = true ∧ toIs b ≠ [] then some (p, toIs b) else none
    | none => none)
  | _ => none
def entsF : List D → Option (List (Nat × List Int))
  | [] => some []
  | d :: ds => match entF d, entsF ds with
    | some e, some es => some (e :: es)
    | _, _ => none
def logF (d : D) : Option (List (Nat × List Int)) := match rowOf d with
  | some es => if es.length ≤ 200 then entsF es else none
  | none => none
def LogIn (d : D) : Prop := (ty7 d).isSome = true ∧ ∀ es, rowOf d = some es → ∀ e ∈ es, (ty7 e).isSome = true ∧ ∀ xs, rowOf e = some xs → ∀ x ∈ xs, RowIn x
def entD (e : Nat × List Int) : D := .tup [.int e.1, dTup e.2]
theorem entsF_none : ∀ {ds : List D} {d : D}, d ∈ ds → entF d = none → entsF ds = none
  | x :: ds, d, h, e => by
    rw [entsF]
    rcases List.mem_cons.mp h with rfl | h
    · rw [e]
    · rw [entsF_none h e]
      cases entF x <;> rfl
theorem entsF_snoc : ∀ {ds : List D} {es : List (Nat × List Int)} {d : D} {e : Nat × List Int}, entsF ds = some es → entF d = some e → entsF (ds ++ [d]) = some (es ++ [e])
  | [], es, d, e, h, h' => by
    cases h
    show (match entF d, entsF [] with | some e, some es => some (e :: es) | _, _ => none) = _
    rw [h']
    rfl
  | x :: ds, es, d, e, h, h' => by
    rw [entsF] at h
    cases ex : entF x with
    | none => rw [ex] at h; cases h
    | some ee =>
      cases er : entsF ds with
      | none => rw [ex, er] at h; cases h
      | some rs =>
        rw [ex, er] at h
        cases h
        rw [List.cons_append, entsF, ex, entsF_snoc er h']
        rfl
theorem entsF_len : ∀ {ds : List D} {es : List (Nat × List Int)}, entsF ds = some es → es.length = ds.length
  | [], es, h => by cases h; rfl
  | x :: ds, es, h => by
    rw [entsF] at h
    cases ex : entF x with
    | none => rw [ex] at h; cases h
    | some ee =>
      cases er : entsF ds with
      | none => rw [ex, er] at h; cases h
      | some rs =>
        rw [ex, er] at h
        cases h
        rw [List.length_cons, List.length_cons, entsF_len er]
theorem toIs_of {d : D} {ns : List Int} (h : rowOf d = some (ns.map D.int)) : toIs d = ns := by
  unfold toIs
  rw [h]
  exact toI_map ns
theorem rowOf_el {d : D} {ds : List D} (h : rowOf d = some ds) : d = .tup ds ∨ d = .lst ds := by
  cases d with
  | tup es => exact .inl (congrArg D.tup (Option.some.inj h))
  | lst es => exact .inr (congrArg D.lst (Option.some.inj h))
  | _ => cases h
theorem entF_ne2 {d : D} {xs : List D} (h : rowOf d = some xs) (hl : xs.length ≠ 2) : entF d = none := by
  unfold entF
  rw [h]
  match xs, hl with
  | [], _ => rfl
  | [_], _ => rfl
  | [_, _], hl => exact absurd rfl hl
  | _ :: _ :: _ :: _, _ => rfl
theorem entF_2 {d a b : D} (h : rowOf d = some [a, b]) : entF d = (match natD a with | some p => if isRow 8 b = true ∧ toIs b ≠ [] then some (p, toIs b) else none | none => none) := by
  unfold entF
  rw [h]
theorem len2 {α : Type} {xs : List α} (h : xs.length = 2) : ∃ a b, xs = [a, b] := by
  match xs, h with
  | [a, b], _ => exact ⟨a, b, rfl⟩
theorem entF_el {d : D} {e : Nat × List Int} (h : entF d = some e) : e.2 ≠ [] ∧ RowV 8 e.2 := by
  unfold entF at h
  split at h
  · split at h
    · split at h
      · cases h
        rename_i z
        obtain ⟨ns, e2, v⟩ := isRow_el z.1
        rw [toIs_of e2] at z ⊢
        exact ⟨z.2, v⟩
      · cases h
    · cases h
  · cases h
theorem entsF_el : ∀ {ds : List D} {es : List (Nat × List Int)}, entsF ds = some es → ∀ e ∈ es, e.2 ≠ [] ∧ RowV 8 e.2
  | [], es, h, e, he => by cases h; simp at he
  | x :: ds, es, h, e, he => by
    rw [entsF] at h
    cases ex : entF x with
    | none => rw [ex] at h; cases h
    | some ee =>
      cases er : entsF ds with
      | none => rw [ex, er] at h; cases h
      | some rs =>
        rw [ex, er] at h
        cases h
        rcases List.mem_cons.mp he with rfl | he
        · exact entF_el ex
        · exact entsF_el er e he
theorem logF_el {d : D} {es : List (Nat × List Int)} (h : logF d = some es) : es.length ≤ 200 ∧ ∀ e ∈ es, e.2 ≠ [] ∧ RowV 8 e.2 := by
  unfold logF at h
  split at h
  · split at h
    · exact ⟨by rw [entsF_len h]; assumption, entsF_el h⟩
    · cases h
  · cases h
def sp_checked_log (K : PySem.W.Frag) : FS := { α := D, args := fun d => [d], pre := fun d => LogIn d, post := fun d r => ∃ es, logF d = some es ∧ r = .lst (es.map entD), exc := fun d x => logF d = none ∧ x = exBad K "BadPaper" }
/-! checked_log -/
abbrev s_checked_log : Stmt := topS 33
abbrev n_checked_log : List Str := ["log", "entries", "entry", "place", "section"]
theorem sc_checked_log : FnScope n_checked_log ["log"] (defScope s_checked_log) := ⟨rfl, rfl, rfl, by decide +kernel, rfl, by decide +kernel, by decide +kernel⟩
theorem ok_checked_log (T : Tx K mg) (h_is_whole : Has P w K mg base "is_whole" 1 ["value"] (spF K sp_is_whole)) (h_is_row : Has P w K mg base "is_row" 3 ["value", "many"] (spF K sp_is_row)) {f : Addr} {fd : FuncData} (F : Fd K "checked_log" s_checked_log [] f fd) : FnOk P w K mg base (L2N.CX P w) 4 f fd ["log"] (spF K (sp_checked_log K)) := by
  refine fn_ok F sc_checked_log (sp_checked_log K) (fun _ => rfl) fun cdv A outer s H E g hr pre hx => ?_
  refine ⟨_, (ds_cons (ds_if ((dw_or (dt_not (dt_val (de_isi2 T.b_isinstance (da_cons (dv 0) (da_cons (de_tup (da_cons (de_ty T.b_list bt_list) (da_cons (de_ty T.b_tuple bt_tuple) da_nil))) da_nil))))) (dw_or1 (dt_gt (de_len T.b_len (da_cons (dv 0) da_nil)) de_int)))).dt
      (ds_one (ds_raise (L2N.takes_of rfl rfl rfl rfl) hx PySem.F.excBase_ValueError T.x_BadPaper.1 T.c_BadPaper T.x_BadPaper.2.1 (raises_own T.x_BadPaper.2.2.1 T.x_BadPaper.2.2.2)))
      ds_nil)
      (ds_cons (ds_setO (i := 1) sc_checked_log.nd (dn_lst da_nil))
      (ds_cons (ds_for (passes_of rfl) (di_seq (dv 0)) (dg 2 sc_checked_log.nd)
      (ds_cons (ds_if ((dw_or (dt_not (dt_val (de_isi2 T.b_isinstance (da_cons (dv 2) (da_cons (de_tup (da_cons (de_ty T.b_list bt_list) (da_cons (de_ty T.b_tuple bt_tuple) da_nil))) da_nil))))) (dw_or1 (dt_ne (de_len T.b_len (da_cons (dv 2) da_nil)) de_int)))).dt
      (ds_one (ds_raise (L2N.takes_of rfl rfl rfl rfl) hx PySem.F.excBase_ValueError T.x_BadPaper.1 T.c_BadPaper T.x_BadPaper.2.1 (raises_own T.x_BadPaper.2.2.1 T.x_BadPaper.2.2.2)))
      ds_nil)
      (ds_cons (ds_tup2U (i := 3) (j := 4) sc_checked_log.nd (dv 2))
      (ds_cons (ds_if ((dw_or (dt_not (dt_val (de_call h_is_whole (hr.mono (by decide : 1 ≤ 3)) (da_cons (dv 3) da_nil)))) (dw_or1 (dt_lt (dv 3) de_int)))).dt
      (ds_one (ds_raise (L2N.takes_of rfl rfl rfl rfl) hx PySem.F.excBase_ValueError T.x_BadPaper.1 T.c_BadPaper T.x_BadPaper.2.1 (raises_own T.x_BadPaper.2.2.1 T.x_BadPaper.2.2.2)))
      ds_nil)
      (ds_cons (ds_if ((dw_or (dt_not (dt_val (de_call h_is_row hr (da_cons (dv 4) (da_cons (de_globI (by rfl) T.g_KINDS) da_nil))))) (dw_or1 (dt_lt (de_len T.b_len (da_cons (dv 4) da_nil)) de_int)))).dt
      (ds_one (ds_raise (L2N.takes_of rfl rfl rfl rfl) hx PySem.F.excBase_ValueError T.x_BadPaper.1 T.c_BadPaper T.x_BadPaper.2.1 (raises_own T.x_BadPaper.2.2.1 T.x_BadPaper.2.2.2)))
      ds_nil)
      (ds_one (ds_expr (de_append (dv 1) (de_tup (da_cons (dv 3) (da_cons (de_tuple T.b_tuple (da_cons (dv 4) da_nil)) da_nil)))))))))))
      (ds_lock 1 (ds_one (ds_ret (dv 1))))))), ?_⟩
  change D at g
  obtain ⟨t1, t2⟩ := pre
  cases er : rowOf g with
  | none =>
    have e : logF g = none := by unfold logF; rw [er]
    cases g with
    | tup es => cases er
    | lst es => cases er
    | _ => first | exact ⟨e, rfl⟩ | cases t1
  | some es =>
    have t3 := t2 es er
    have eg := rowOf_el er
    have lf : logF g = if es.length ≤ 200 then entsF es else none := by unfold logF; rw [er]
    clear t1 t2 er
    rcases eg with rfl | rfl <;> (
      show if decide ((200 : Int) < ((es.length : Nat) : Int)) = true then _ else _
      refine ite2 (fun h => ?_) (fun h => ?_)
      · have h := of_decide_eq_true h
        exact ⟨by rw [lf, if_neg (by omega)], rfl⟩
      have h : ¬ (200 : Int) < ((es.length : Nat) : Int) := fun z => h (decide_eq_true z)
      rw [if_pos (by omega)] at lf
      intro q
      refine ⟨fun k ρ => ∃ (ls : List (Nat × List Int)) (s2 s3 s4 : Slot), ρ = [.v _, .own q (ls.map entD), s2, s3, s4] ∧ entsF (es.take k) = some ls ∧ ls.length ≤ k, ⟨[], _, _, _, rfl, rfl, Nat.le_refl _⟩, fun _ _ _ _ => trivial, ?_, ?_⟩
      · rintro k d ρ hk hd ⟨ls, s2, s3, s4, rfl, hls, hlk⟩
        have hd : es[k]? = some d := hd
        have hm := List.mem_of_getElem? hd
        obtain ⟨td, tx⟩ := t3 d hm
        have bad : entF d = none → logF _ = none ∧ exBad K "BadPaper" = exBad K "BadPaper" := fun z => ⟨by rw [lf]; exact entsF_none hm z, rfl⟩
        have tk1 : es.take (k + 1) = es.take k ++ [d] := by rw [List.take_add_one, hd]; rfl
        cases ed : rowOf d with
        | none =>
          have e : entF d = none := by unfold entF; rw [ed]
          cases d with
          | tup es => cases ed
          | lst es => cases ed
          | _ => first | exact bad e | cases td
        | some xs =>
          have tx := tx xs ed
          have ee := rowOf_el ed
          refine sifx (xs.length ≠ 2) (fun A' F' hA hF => ?_) (fun h2 => ?_) (fun h2 => ?_)
          · rcases ee with rfl | rfl <;> (
              show if (!decide (((xs.length : Nat) : Int) = 2)) = true then _ else _
              refine ite2 (fun h3 => hA ?_) (fun h3 => hF ?_)
              · intro z
                rw [decide_eq_true (by omega)] at h3
                cases h3
              · intro z
                exact h3 (by rw [decide_eq_false (by omega)]; rfl))
          · exact bad (entF_ne2 ed h2)
          · obtain ⟨a, b, rfl⟩ := len2 (Classical.byContradiction h2)
            clear h2
            have ia := tx a (by simp)
            have ib := tx b (by simp)
            have ef := entF_2 ed
            rcases ee with rfl | rfl <;> (
              refine sTupU (by first | exact .inl rfl | exact .inr rfl) ?_
              refine sifx (natD a = none) (fun A' F' hA hF => ?_) (fun h2 => ?_) (fun h2 => ?_)
              · refine ⟨a, rfl, ia.1, fun r hr => ?_, fun _ h => h.elim⟩
                have hr : r = .bl (isW a) := hr
                subst hr
                cases a with
                | int i =>
                  show if decide (i < (0 : Int)) = true then _ else _
                  refine ite2 (fun h3 => hA ?_) (fun h3 => hF ?_)
                  · have := of_decide_eq_true h3
                    show (if (0 : Int) ≤ i then some i.toNat else none) = none
                    rw [if_neg (by omega)]
                  · have h3 : ¬ i < 0 := fun z => h3 (decide_eq_true z)
                    show ¬ (if (0 : Int) ≤ i then some i.toNat else none) = none
                    rw [if_pos (by omega)]
                    exact fun z => by cases z
                | _ => exact hA rfl
              · exact bad (by rw [ef, h2])
              obtain ⟨p', hp⟩ : ∃ p', natD a = some p' := by
                cases e : natD a with
                | none => exact absurd e h2
                | some p' => exact ⟨p', rfl⟩
              rw [hp] at ef
              have ef : entF _ = if isRow 8 b = true ∧ toIs b ≠ [] then some (p', toIs b) else none := ef
              obtain rfl := natD_some hp
              try dsimp only
              refine sifx (¬ (isRow 8 b = true ∧ toIs b ≠ [])) (fun A' F' hA hF => ?_) (fun h2 => ?_) (fun h2 => ?_)
              · refine ⟨(b, 8), rfl, ib, fun r hr => ?_, fun _ h => h.elim⟩
                have hr : r = .bl (isRow 8 b) := hr
                subst hr
                show if (!isRow 8 b) = true then _ else _
                refine ite2 (fun h3 => hA fun z => ?_) (fun h3 => ?_)
                · rw [z.1] at h3
                  cases h3
                have h3 : isRow 8 b = true := by simpa using h3
                obtain ⟨ss, e2, vs⟩ := isRow_el h3
                have e3 := toIs_of e2
                rcases rowOf_el e2 with rfl | rfl <;> (
                  show if decide ((((ss.map D.int).length : Nat) : Int) < 1) = true then _ else _
                  rw [List.length_map]
                  refine ite2 (fun h4 => hA fun z => ?_) (fun h4 => hF fun z => z ⟨h3, ?_⟩)
                  · have := of_decide_eq_true h4
                    rw [e3] at z
                    exact z.2 (List.length_eq_zero_iff.mp (by omega))
                  · rw [e3]
                    intro z
                    rw [z] at h4
                    exact h4 (by decide))
              · exact bad (by rw [ef, if_neg h2])
              have h2 := Classical.byContradiction fun z => h2 z
              rw [if_pos h2] at ef
              obtain ⟨ss, e2, vs⟩ := isRow_el h2.1
              rw [toIs_of e2] at ef
              rcases rowOf_el e2 with rfl | rfl <;> (
                refine ⟨by show (ls.map entD).length < 16777216; rw [List.length_map]; have := (List.getElem?_eq_some_iff.mp hd).1; omega, ls ++ [(p', ss)], _, _, _, by rw [List.map_append]; rfl, ?_, by rw [List.length_append, List.length_singleton]; omega⟩
                rw [tk1]
                exact entsF_snoc hls ef))
      · rintro ρ ⟨ls, s2, s3, s4, rfl, hls, hlk⟩
        refine ⟨ls, ?_, rfl⟩
        rw [lf]
        have hls : entsF (es.take es.length) = some ls := hls
        rw [List.take_length] at hls
        exact hls)
theorem has_checked_log (T : Tx K mg) (h_is_whole : Has P w K mg base "is_whole" 1 ["value"] (spF K sp_is_whole)) (h_is_row : Has P w K mg base "is_row" 3 ["value", "many"] (spF K sp_is_row)) {f : Addr} {fd : FuncData} (F : Fd K "checked_log" s_checked_log [] f fd) (gm : mg "checked_log" = some (.ref f)) : Has P w K mg base "checked_log" 4 ["log"] (spF K (sp_checked_log K)) := by
  exact has_of F gm (ok_checked_log T  h_is_whole h_is_row F) fun _ _ _ _ _ _ us hl => match us, hl with | [_], _ => rfl
end
end Q
/-! C15 -/
set_option Elab.async false
set_option linter.all false
set_option maxRecDepth 100000
set_option maxHeartbeats 8000000
namespace Q
open PySem PySem.Spec PyProof.Rows L2 N
section
variable {P : Program} {w : World} {K : PySem.W.Frag} {mg : Str → Option Value} {base : Heap}
/-! logs judged -/
noncomputable def judgeGo : List (Nat × List Int) → List Int → Option (List Int)
  | [], ns => some ns
  | e :: r, ns => @ite _ (CutR ns e.1 (e.1 + e.2.length) ∧ secOf ns e.1 (e.1 + e.2.length) = e.2) (Classical.propDecidable _) (judgeGo r (ns.take e.1 ++ ns.drop (e.1 + e.2.length))) none
theorem judge_pos {e : Nat × List Int} {r : List (Nat × List Int)} {ns : List Int} (h : CutR ns e.1 (e.1 + e.2.length) ∧ secOf ns e.1 (e.1 + e.2.length) = e.2) : judgeGo (e :: r) ns = judgeGo r (ns.take e.1 ++ ns.drop (e.1 + e.2.length)) := by
  rw [judgeGo]
  exact @if_pos _ (Classical.propDecidable _) h _ _ _
theorem judge_neg {e : Nat × List Int} {r : List (Nat × List Int)} {ns : List Int} (h : ¬ (CutR ns e.1 (e.1 + e.2.length) ∧ secOf ns e.1 (e.1 + e.2.length) = e.2)) : judgeGo (e :: r) ns = none := by
  rw [judgeGo]
  exact @if_neg _ (Classical.propDecidable _) h _ _ _
noncomputable def wordOf (ns : List Int) (es : List (Nat × List Int)) (ls : List Int) : Str := match judgeGo es ns with
  | none => ("cut" : Str)
  | some ms => if ms = ls then (if isShort ms = true then ("good" : Str) else ("long" : Str)) else ("left" : Str)
theorem word_cut {ns : List Int} {es : List (Nat × List Int)} {ls : List Int} (h : judgeGo es ns = none) : wordOf ns es ls = ("cut" : Str) := by unfold wordOf; rw [h]
theorem word_some {ns ms : List Int} {es : List (Nat × List Int)} {ls : List Int} (h : judgeGo es ns = some ms) : wordOf ns es ls = if ms = ls then (if isShort ms = true then ("good" : Str) else ("long" : Str)) else ("left" : Str) := by unfold wordOf; rw [h]
theorem row_cut {ns : List Int} {p q : Nat} (v : RowV 8 ns) : RowV 8 (ns.take p ++ ns.drop q) ∨ 200 < (ns.take p ++ ns.drop q).length := by
  by_cases h : (ns.take p ++ ns.drop q).length ≤ 200
  · refine .inl ⟨h, fun n hn => ?_⟩
    rcases List.mem_append.mp hn with h | h
    · exact v.2 n (List.mem_of_mem_take h)
    · exact v.2 n (List.mem_of_mem_drop h)
  · exact .inr (by omega)
theorem row_cut' {ns : List Int} {p q : Nat} (v : RowV 8 ns) (h : p ≤ q) : RowV 8 (ns.take p ++ ns.drop q) := by
  rcases row_cut (p := p) (q := q) v with z | z
  · exact z
  · have := v.1
    rw [List.length_append, List.length_take, List.length_drop] at z
    omega
theorem pdAll_ints : ∀ ns : List Int, pdAll (ns.map D.int) = some (ns.map PyData.int)
  | [] => by rw [List.map_nil, pdAll]; rfl
  | n :: ns => by rw [List.map_cons, pdAll, pd, pdAll_ints ns]; rfl
theorem lay_ints : ∀ ns : List Int, PyData.canLayAll0 (ns.map PyData.int) = true
  | [] => rfl
  | n :: ns => by rw [List.map_cons, PyData.canLayAll0, lay_ints ns]; rfl
theorem depth_ints : ∀ ns : List Int, PyData.depthAll (ns.map PyData.int) = 0
  | [] => by rw [List.map_nil, PyData.depthAll]
  | n :: ns => by rw [List.map_cons, PyData.depthAll, depth_ints ns, PyData.depth]; rfl
theorem shaped_ints (ns : List Int) : SeqAt.shaped (.list (ns.map PyData.int)) = true ∧ SeqAt.shaped (.tuple (ns.map PyData.int)) = true := by
  have c := lay_ints ns
  have dp : PyData.depth (.list (ns.map PyData.int)) ≤ 64 := by rw [PyData.depth, depth_ints]; decide
  have dq : PyData.depth (.tuple (ns.map PyData.int)) ≤ 64 := by rw [PyData.depth, depth_ints]; decide
  have c1 : PyData.canLay0 (.list (ns.map PyData.int)) = true := c
  have c2 : PyData.canLay0 (.tuple (ns.map PyData.int)) = true := c
  unfold SeqAt.shaped
  rw [decide_eq_true dp, decide_eq_true dq, c1, c2]
  exact ⟨rfl, rfl⟩
theorem eqv_ints : ∀ as bs : List Int, PyData.eqv (.list (as.map PyData.int)) (.list (bs.map PyData.int)) = decide (as = bs)
  | [], [] => by simp; rfl
  | [], b :: bs => by simp; rfl
  | a :: as, [] => by simp; rfl
  | a :: as, b :: bs => by
    have ih := eqv_ints as bs
    show (decide (a = b) && PyData.eqv (.list (as.map PyData.int)) (.list (bs.map PyData.int))) = _
    rw [ih]
    by_cases h : a = b
    · by_cases h2 : as = bs
      · simp [h, h2]
      · simp [h, h2]
    · simp [h]
theorem eqv_tints (as bs : List Int) : PyData.eqv (.tuple (as.map PyData.int)) (.tuple (bs.map PyData.int)) = decide (as = bs) := eqv_ints as bs
/-- == of two tuples of ints -/
theorem neT {ρ : En} {as bs : List Int} {P : D → Prop} (h : P (.bl (!decide (as = bs)))) : oEqD not (.d (dTup as)) (.d (dTup bs)) ρ P := by
  refine ⟨.tuple (as.map PyData.int), .tuple (bs.map PyData.int), ?_, ?_, (shaped_ints as).2, (shaped_ints bs).2, ?_⟩
  · show pd (.tup (as.map D.int)) = _
    rw [pd, pdAll_ints]
    rfl
  · show pd (.tup (bs.map D.int)) = _
    rw [pd, pdAll_ints]
    rfl
  · rw [eqv_tints]
    exact h
theorem neL {ρ : En} {as bs : List Int} {P : D → Prop} (h : P (.bl (!decide (as = bs)))) : oEqD not (.d (.lst (as.map D.int))) (.d (.lst (bs.map D.int))) ρ P := by
  refine ⟨.list (as.map PyData.int), .list (bs.map PyData.int), ?_, ?_, (shaped_ints as).1, (shaped_ints bs).1, ?_⟩
  · show pd (.lst (as.map D.int)) = _
    rw [pd, pdAll_ints]
    rfl
  · show pd (.lst (bs.map D.int)) = _
    rw [pd, pdAll_ints]
    rfl
  · rw [eqv_ints]
    exact h
theorem ne_step {ra rb : RE} {ρ : En} {as bs : List Int} {Q : Bool → En → Prop} (ha : ∀ Q, Q (.d (dTup as)) ρ → ra ρ Q) (hb : ∀ Q, Q (.d (dTup bs)) ρ → rb ρ Q) (h : Q (!decide (as = bs)) ρ) : rTB (r2 ra rb (oEqD not)) ρ Q := ha _ (hb _ (neT h))
theorem neL_step {ra rb : RE} {ρ : En} {as bs : List Int} {Q : Bool → En → Prop} (ha : ∀ Q, Q (.d (.lst (as.map D.int))) ρ → ra ρ Q) (hb : ∀ Q, Q (.d (.lst (bs.map D.int))) ρ → rb ρ Q) (h : Q (!decide (as = bs)) ρ) : rTB (r2 ra rb (oEqD not)) ρ Q := ha _ (hb _ (neL h))
def sp_judge (K : PySem.W.Frag) : FS := { α := D × D × D, args := fun g => [g.1, g.2.1, g.2.2], pre := fun g => RowIn g.1 ∧ LogIn g.2.1 ∧ RowIn g.2.2, post := fun g r => ∃ ns es ls, isRow 8 g.1 = true ∧ rowOf g.1 = some (ns.map D.int) ∧ logF g.2.1 = some es ∧ isRow 8 g.2.2 = true ∧ rowOf g.2.2 = some (ls.map D.int) ∧ r = .str (wordOf ns es ls), exc := fun g x => (isRow 8 g.1 = false ∧ x = exBad K "BadRow") ∨ (isRow 8 g.1 = true ∧ (logF g.2.1 = none ∨ isRow 8 g.2.2 = false) ∧ x = exBad K "BadPaper") }
/-! judge_log -/
abbrev s_judge_log : Stmt := topS 34
abbrev n_judge_log : List Str := ["row", "log", "left", "pieces", "entries", "start", "section", "stop"]
theorem sc_judge_log : FnScope n_judge_log ["row", "log", "left"] (defScope s_judge_log) := ⟨rfl, rfl, rfl, by decide +kernel, rfl, by decide +kernel, by decide +kernel⟩
theorem ok_judge_log (T : Tx K mg) (h_checked_row : HasD P w K mg base "checked_row" 4 ["row", "many"] (intD [8]) (spF K (sp_checked_row K))) (h_checked_log : Has P w K mg base "checked_log" 4 ["log"] (spF K (sp_checked_log K))) (h_is_row : Has P w K mg base "is_row" 3 ["value", "many"] (spF K sp_is_row)) (h_is_cut : Has P w K mg base "is_cut" 2 ["pieces", "start", "stop"] (spF K sp_is_cut)) (h_is_short : Has P w K mg base "is_short" 5 ["row"] (spF K (sp_lib_H K))) {f : Addr} {fd : FuncData} (F : Fd K "judge_log" s_judge_log [] f fd) : FnOk P w K mg base (L2N.CX P w) 6 f fd ["row", "log", "left"] (spF K (sp_judge K)) := by
  refine fn_ok F sc_judge_log (sp_judge K) (fun _ => rfl) fun cdv A outer s H E g hr pre hx => ?_
  refine ⟨_, (ds_cons (ds_set (i := 3) sc_judge_log.nd (de_callXD h_checked_row (hr.mono (by decide : 4 ≤ 5)) (L2N.passes_call (L2N.takes_of rfl rfl rfl rfl) (fun _ _ _ _ h => h)) hx (da_cons (dv 0) da_nil)))
      (ds_cons (ds_set (i := 4) sc_judge_log.nd (de_callX h_checked_log (hr.mono (by decide : 4 ≤ 5)) (L2N.passes_call (L2N.takes_of rfl rfl rfl rfl) (fun _ _ _ _ h => h)) hx (da_cons (dv 1) da_nil)))
      (ds_cons (ds_if (dt_not (dt_val (de_call h_is_row (hr.mono (by decide : 3 ≤ 5)) (da_cons (dv 2) (da_cons (de_globI (by rfl) T.g_KINDS) da_nil)))))
      (ds_one (ds_raise (L2N.takes_of rfl rfl rfl rfl) hx PySem.F.excBase_ValueError T.x_BadPaper.1 T.c_BadPaper T.x_BadPaper.2.1 (raises_own T.x_BadPaper.2.2.1 T.x_BadPaper.2.2.2)))
      ds_nil)
      (ds_cons (ds_for (passes_of rfl) (di_seq (dv 4)) (dg2 5 6 sc_judge_log.nd)
      (ds_cons (ds_set (i := 7) sc_judge_log.nd (de_add (dv 5) (de_len T.b_len (da_cons (dv 6) da_nil))))
      (ds_cons (ds_if ((dw_or (dt_not (dt_val (de_call h_is_cut (hr.mono (by decide : 2 ≤ 5)) (da_cons (dv 3) (da_cons (dv 5) (da_cons (dv 7) da_nil)))))) (dw_or1 (dt_neD hr (de_sliceT (dv 3) (do_some (dv 5)) (do_some (dv 7))) (dv 6))))).dt
      (ds_one (ds_ret de_str))
      ds_nil)
      (ds_one (ds_set (i := 3) sc_judge_log.nd (de_catT (de_sliceT (dv 3) do_none (do_some (dv 5))) (de_sliceT (dv 3) (do_some (dv 7)) do_none)))))))
      (ds_cons (ds_if (dt_neD hr (dv 3) (de_tuple T.b_tuple (da_cons (dv 2) da_nil)))
      (ds_one (ds_ret de_str))
      ds_nil)
      (ds_cons (ds_if (dt_not (dt_val (de_callX h_is_short hr (L2N.passes_call (L2N.takes_of rfl rfl rfl rfl) (fun _ _ _ _ h => h)) hx (da_cons (dv 3) da_nil))))
      (ds_one (ds_ret de_str))
      ds_nil)
      (ds_one (ds_ret de_str)))))))), ?_⟩
  obtain ⟨d, lg, lf⟩ := g
  obtain ⟨p1, p2, p3⟩ := pre
  refine ⟨(d, 8), rfl, p1, fun r hr => ?_, fun x hx => .inl hx⟩
  obtain ⟨h1, ds, e, rfl⟩ := hr
  obtain ⟨ns, rfl, e, v⟩ := lib_el h1 e
  refine ⟨lg, rfl, p2, fun r hr => ?_, fun x hx => .inr ⟨h1, .inl hx.1, hx.2⟩⟩
  obtain ⟨es, hes, rfl⟩ := hr
  obtain ⟨esl, ese⟩ := logF_el hes
  dsimp only [kD]
  refine sifx (isRow 8 lf = false) (fun A' F' hA hF => ?_) (fun h => ?_) (fun h => ?_)
  · refine ⟨(lf, 8), rfl, p3, fun r hr => ?_, fun _ h => h.elim⟩
    have hr : r = .bl (isRow 8 lf) := hr
    subst hr
    show if (!isRow 8 lf) = true then _ else _
    refine ite2 (fun h => hA (by simpa using h)) (fun h => hF (by simpa using h))
  · exact .inr ⟨h1, .inr h, rfl⟩
  have h3 : isRow 8 lf = true := by simpa using h
  obtain ⟨ls, e3, vl⟩ := isRow_el h3
  have fin : ∀ {s : Str}, s = wordOf ns es ls → (sp_judge K).post (d, lg, lf) (.str s) := fun h => ⟨ns, es, ls, h1, e, hes, h3, e3, by rw [h]⟩
  refine ⟨fun k ρ => ∃ (ms : List Int) (s5 s6 s7 : Slot), ρ = [.v d, .v lg, .v lf, .v (dTup ms), .v (.lst (es.map entD)), s5, s6, s7] ∧ judgeGo es ns = judgeGo (es.drop k) ms ∧ RowV 8 ms, ⟨ns, _, _, _, rfl, rfl, v⟩, fun _ _ _ _ => trivial, ?_, ?_⟩
  · rintro k d' ρ hk hd ⟨ms, s5, s6, s7, rfl, hj, vm⟩
    have hd : (es.map entD)[k]? = some d' := hd
    rw [List.getElem?_map] at hd
    obtain ⟨en, he, rfl⟩ := Option.map_eq_some_iff.mp hd
    obtain ⟨hkl, hee⟩ := List.getElem?_eq_some_iff.mp he
    have ed : es.drop k = en :: es.drop (k + 1) := by rw [← hee]; exact List.drop_eq_getElem_cons hkl
    rw [ed] at hj
    obtain ⟨p, s⟩ := en
    obtain ⟨sne, vs⟩ := ese _ (List.mem_of_getElem? he)
    have esl : ((s.map D.int).length : Nat) = s.length := List.length_map _
    have vml := vm.1
    dsimp only [gN2, kP, entD]
    refine sAsg (d := .int ((p + s.length : Nat))) (fun Q h => ?_) ?_
    · show Q (.d (.int ((p : Nat) + ((s.map D.int).length : Nat)))) _
      rw [esl, show ((p : Nat) : Int) + (s.length : Nat) = ((p + s.length : Nat) : Int) from by omega]
      exact h
    refine sifx (¬ (CutR ms p (p + s.length) ∧ secOf ms p (p + s.length) = s)) (fun A' F' hA hF => ?_) (fun h => fin (word_cut (hj.trans (judge_neg h))).symm) (fun h => ?_)
    · refine ⟨(ms, p, p + s.length), rfl, by show ms.length ≤ 1000; omega, fun r hr => ?_, fun _ h => h.elim⟩
      have hr : r = .bl (cutB ms p ((p + s.length : Nat) : Int)) := hr
      subst hr
      show if (!cutB ms p ((p + s.length : Nat) : Int)) = true then _ else _
      by_cases c : CutR ms p (p + s.length)
      · rw [cutB_true c]
        refine ne_step (as := secOf ms p (p + s.length)) (bs := s) (fun Q h => ?_) (fun Q h => h) ?_
        · refine ⟨_, rfl, ?_⟩
          rw [sec_D (by have := c.ql; omega) (by omega)]
          exact h
        show if (!decide (secOf ms p (p + s.length) = s)) = true then _ else _
        refine ite2 (fun h => hA fun z => ?_) (fun h => hF fun z => z ⟨c, ?_⟩)
        · rw [decide_eq_true z.2] at h
          cases h
        · exact Classical.byContradiction fun y => h (by rw [decide_eq_false y]; rfl)
      · rw [cutB_false c]
        exact hA fun z => c z.1
    · obtain ⟨c, hsec⟩ := Classical.byContradiction h
      have cq := c.ql
      have e1 : N.cutD (ms.map D.int) none (some ((p : Nat) : Int)) = (ms.take p).map D.int := by rw [cut_to9 (by rw [List.length_map]; omega), List.map_take]
      have e2 : N.cutD (ms.map D.int) (some ((p + s.length : Nat) : Int)) none = (ms.drop (p + s.length)).map D.int := by rw [cut_from (by rw [List.length_map]; omega), List.map_drop]
      refine ⟨_, rfl, _, rfl, ?_⟩
      rw [e1, e2]
      refine ⟨?_, ms.take p ++ ms.drop (p + s.length), _, _, _, by unfold dTup; rw [List.map_append]; rfl, hj.trans (judge_pos ⟨c, hsec⟩), row_cut' vm (by omega)⟩
      show ((ms.take p).map D.int).length + ((ms.drop (p + s.length)).map D.int).length ≤ 16777216
      rw [List.length_map, List.length_map, List.length_take, List.length_drop]
      omega
  · rintro ρ ⟨ms, s5, s6, s7, rfl, hj, vm⟩
    have ed : es.drop (es.map entD).length = [] := List.drop_eq_nil_of_le (by rw [List.length_map]; exact Nat.le_refl _)
    have hj : judgeGo es ns = some ms := by
      refine hj.trans ?_
      rw [show es.drop _ = [] from ed]
      rfl
    have hw := word_some (ls := ls) hj
    try dsimp only
    refine sifx (ms ≠ ls) (fun A' F' hA hF => ?_) (fun h => fin (by rw [hw, if_neg h])) (fun h => ?_)
    · rcases rowOf_el e3 with rfl | rfl <;> (
        refine ne_step (as := ms) (bs := ls) (fun Q h => h) (fun Q h => h) ?_
        show if (!decide (ms = ls)) = true then _ else _
        refine ite2 (fun h => hA fun z => ?_) (fun h => hF fun z => ?_)
        · rw [decide_eq_true z] at h
          cases h
        · exact h (by rw [decide_eq_false z]; rfl))
    have h := Classical.byContradiction h
    rw [if_pos h] at hw
    refine sifx (isShort ms = false) (fun A' F' hA hF => ?_) (fun h => fin (by rw [hw, h]; rfl)) (fun h => ?_)
    · refine ⟨dTup ms, rfl, (rowIn_ints ms).1, fun r hr => ?_, fun x hx => absurd (lib_exc (row_ok vm).1 hx) id⟩
      obtain ⟨xs, _, ex, _, rfl⟩ := hr
      obtain rfl := ints_inj (Option.some.inj (show some (ms.map D.int) = some (xs.map D.int) from ex))
      show if (!isShort ms) = true then _ else _
      refine ite2 (fun h => hA (by simpa using h)) (fun h => hF (by simpa using h))
    · refine fin ?_
      have h : isShort ms = true := by simpa using h
      rw [hw, if_pos h]
theorem has_judge_log (T : Tx K mg) (h_checked_row : HasD P w K mg base "checked_row" 4 ["row", "many"] (intD [8]) (spF K (sp_checked_row K))) (h_checked_log : Has P w K mg base "checked_log" 4 ["log"] (spF K (sp_checked_log K))) (h_is_row : Has P w K mg base "is_row" 3 ["value", "many"] (spF K sp_is_row)) (h_is_cut : Has P w K mg base "is_cut" 2 ["pieces", "start", "stop"] (spF K sp_is_cut)) (h_is_short : Has P w K mg base "is_short" 5 ["row"] (spF K (sp_lib_H K))) {f : Addr} {fd : FuncData} (F : Fd K "judge_log" s_judge_log [] f fd) (gm : mg "judge_log" = some (.ref f)) : Has P w K mg base "judge_log" 6 ["row", "log", "left"] (spF K (sp_judge K)) := by
  exact has_of F gm (ok_judge_log T  h_checked_row h_checked_log h_is_row h_is_cut h_is_short F) fun _ _ _ _ _ _ us hl => match us, hl with | [_, _, _], _ => rfl
end
end Q
/-! C16 -/
set_option Elab.async false
set_option linter.all false
set_option maxRecDepth 100000
set_option maxHeartbeats 8000000
namespace Q
open PySem PySem.Spec PyProof.Rows L2 N
section
variable {P : Program} {w : World} {K : PySem.W.Frag} {mg : Str → Option Value} {base : Heap}
/-! the law's own words -/
def LogV (es : List (Nat × List Int)) : Prop := es.length ≤ 200 ∧ ∀ e ∈ es, e.2 ≠ [] ∧ RowV 8 e.2
theorem cutR_of {ms s : List Int} {p : Nat} (hs : s ≠ []) (h1 : p + s.length < ms.length) (h2 : secOf ms p (p + s.length) = s) (h3 : ms[p]? = ms[p + s.length]?) (nd : s.Nodup) (cov : ∀ x ∈ s, x ∈ ms.take p ++ ms.drop (p + s.length)) : CutR ms p (p + s.length) := by
  have sl := List.length_pos_iff.mpr hs
  refine ⟨by omega, h1, h3, fun j j1 j2 e => ?_, by rw [h2]; exact nd, by rw [h2]; exact cov⟩
  rw [← h3] at e
  have hx : ms[p]? = some ms[p] := List.getElem?_eq_getElem (by omega)
  have nd2 : (secOf ms p (p + s.length)).Nodup := by rw [h2]; exact nd
  rw [sec_cons hx (by omega), List.nodup_cons] at nd2
  exact nd2.1 (sec_mem.mpr ⟨j, by omega, j2, by rw [e, hx]⟩)
theorem ret_if {r : RT} {ra rb : RE} {e : DEnds} {ρ : En} (J : Prop) (h : ∀ (A' F' : En → Prop), (J → A' ρ) → (¬ J → F' ρ) → r ρ fun b ρ2 => if b = true then A' ρ2 else F' ρ2) (ha : J → rRet ra e ρ) (hf : ¬ J → rRet rb e ρ) : rRet (rIfE r ra rb) e ρ := h (fun ρ => rRet ra e ρ) (fun ρ => rRet rb e ρ) ha hf
def sp_word : FS := { α := List Int × List (Nat × List Int) × List Int, args := fun g => [.lst (g.1.map D.int), .lst (g.2.1.map entD), .lst (g.2.2.map D.int)], pre := fun g => RowV 8 g.1 ∧ RowV 8 g.2.2 ∧ LogV g.2.1, post := fun g r => r = .str (wordOf g.1 g.2.1 g.2.2) }
/-! _law_word -/
abbrev s_law_word : Stmt := topS 59
abbrev n_law_word : List Str := ["row", "log", "left", "now", "p", "section", "q", "rest", "kind"]
theorem sc_law_word : FnScope n_law_word ["row", "log", "left"] (defScope s_law_word) := ⟨rfl, rfl, rfl, by decide +kernel, rfl, by decide +kernel, by decide +kernel⟩
theorem ok_law_word (T : Tx K mg) (h_law_is_short : Has P w K mg base "_law_is_short" 1 ["row"] (spF K sp_law_short)) {f : Addr} {fd : FuncData} (F : Fd K "_law_word" s_law_word [] f fd) : FnOk P w K mg base (L2N.CX P w) 2 f fd ["row", "log", "left"] (spF K sp_word) := by
  refine fn_ok F sc_law_word sp_word (fun _ => rfl) fun cdv A outer s H E g hr pre hx => ?_
  refine ⟨_, (ds_cons (ds_set (i := 3) sc_law_word.nd (de_new (dn_list T.b_list (da_cons (dv 0) da_nil))))
      (ds_cons (ds_for (passes_of rfl) (di_seq (dv 1)) (dg2 4 5 sc_law_word.nd)
      (ds_cons (ds_set (i := 6) sc_law_word.nd (de_add (dv 4) (de_len T.b_len (da_cons (dv 5) da_nil))))
      (ds_cons (ds_if ((dw_or (dt_ge (dv 6) (de_len T.b_len (da_cons (dv 3) da_nil))) (dw_or (dt_neD hr (de_new (dn_slice (dv 3) (do_some (dv 4)) (do_some (dv 6)))) (de_new (dn_list T.b_list (da_cons (dv 5) da_nil)))) (dw_or1 (dt_ne (de_ix (dv 3) (dv 4)) (de_ix (dv 3) (dv 6))))))).dt
      (ds_one (ds_ret de_str))
      ds_nil)
      (ds_cons (ds_set (i := 7) sc_law_word.nd (de_new (dn_cat (de_new (dn_slice (dv 3) do_none (do_some (dv 4)))) (de_new (dn_slice (dv 3) (do_some (dv 6)) do_none)))))
      (ds_cons (ds_for (passes_of rfl) (di_seq (dv 5)) (dg 8 sc_law_word.nd)
      (ds_one (ds_if ((dw_or (dt_gt (de_countT (dv 5) (dv 8)) de_int) (dw_or1 (dt_notin (dv 8) (dv 7))))).dt
      (ds_one (ds_ret de_str))
      ds_nil)))
      (ds_one (ds_set (i := 3) sc_law_word.nd (dv 7))))))))
      (ds_cons (ds_if (dt_neD hr (dv 3) (dv 2))
      (ds_one (ds_ret de_str))
      ds_nil)
      (ds_one (ds_ret (de_if (dt_val (de_call h_law_is_short hr (da_cons (dv 3) da_nil))) de_str de_str)))))), ?_⟩
  obtain ⟨ns, es, ls⟩ := g
  obtain ⟨v, vl, ve⟩ := pre
  change RowV 8 ns at v
  change RowV 8 ls at vl
  have fin : ∀ {s : Str}, s = wordOf ns es ls → sp_word.post (ns, es, ls) (.str s) := fun h => congrArg D.str h
  refine sAsg (d := .lst (ns.map D.int)) (fun Q h => h) ?_
  refine ⟨fun k ρ => ∃ (ms : List Int) (s4 s5 s6 s7 s8 : Slot), ρ = [.v (.lst (ns.map D.int)), .v (.lst (es.map entD)), .v (.lst (ls.map D.int)), .v (.lst (ms.map D.int)), s4, s5, s6, s7, s8] ∧ judgeGo es ns = judgeGo (es.drop k) ms ∧ RowV 8 ms, ⟨ns, _, _, _, _, _, rfl, rfl, v⟩, fun _ _ _ _ => trivial, ?_, ?_⟩
  · rintro k d' ρ hk hd ⟨ms, s4, s5, s6, s7, s8, rfl, hj, vm⟩
    have hd : (es.map entD)[k]? = some d' := hd
    rw [List.getElem?_map] at hd
    obtain ⟨en, he, rfl⟩ := Option.map_eq_some_iff.mp hd
    obtain ⟨hkl, hee⟩ := List.getElem?_eq_some_iff.mp he
    have ed : es.drop k = en :: es.drop (k + 1) := by rw [← hee]; exact List.drop_eq_getElem_cons hkl
    rw [ed] at hj
    obtain ⟨p, s⟩ := en
    obtain ⟨sne, vs⟩ := ve.2 _ (List.mem_of_getElem? he)
    have esl : ((s.map D.int).length : Nat) = s.length := List.length_map _
    have eml : ((ms.map D.int).length : Nat) = ms.length := List.length_map _
    have vml := vm.1
    have vsl := vs.1
    change s ≠ [] at sne
    change s.length ≤ 200 at vsl
    dsimp only [gN2, kP, entD]
    refine sAsg (d := .int ((p + s.length : Nat))) (fun Q h => ?_) ?_
    · show Q (.d (.int ((p : Nat) + ((s.map D.int).length : Nat)))) _
      rw [esl, show ((p : Nat) : Int) + (s.length : Nat) = ((p + s.length : Nat) : Int) from by omega]
      exact h
    refine sifx (¬ (p + s.length < ms.length ∧ secOf ms p (p + s.length) = s ∧ ms[p]? = ms[p + s.length]?)) (fun A' F' hA hF => ?_) (fun h => fin (word_cut (hj.trans (judge_neg fun z => h ⟨z.1.ql, z.2, z.1.eq⟩))).symm) (fun h => ?_)
    · show if decide (((ms.map D.int).length : Int) ≤ ((p + s.length : Nat) : Int)) = true then _ else _
      rw [eml]
      refine ite2 (fun h => hA fun z => ?_) (fun h => ?_)
      · have := of_decide_eq_true h
        omega
      have hq : p + s.length < ms.length := by
        have : ¬ ((ms.length : Nat) : Int) ≤ ((p + s.length : Nat) : Int) := fun z => h (decide_eq_true z)
        omega
      refine neL_step (as := secOf ms p (p + s.length)) (bs := s) (fun Q h => ?_) (fun Q h => h) ?_
      · refine ⟨_, rfl, ?_⟩
        rw [sec_D (by omega) (by omega)]
        exact h
      show if (!decide (secOf ms p (p + s.length) = s)) = true then _ else _
      refine ite2 (fun h => hA fun z => ?_) (fun h2 => ?_)
      · rw [decide_eq_true z.2.1] at h
        cases h
      have h2 : secOf ms p (p + s.length) = s := Classical.byContradiction fun y => h2 (by rw [decide_eq_false y]; rfl)
      have hxp : ms[p]? = some ms[p] := List.getElem?_eq_getElem (by omega)
      have hxq : ms[p + s.length]? = some ms[p + s.length] := List.getElem?_eq_getElem (by omega)
      refine ⟨_, at_ints hxp, _, at_ints hxq, ?_⟩
      show if (!decide (ms[p] = ms[p + s.length])) = true then _ else _
      refine ite2 (fun h => hA fun z => ?_) (fun h => hF fun z => z ⟨hq, h2, ?_⟩)
      · rw [hxp, hxq] at z
        rw [decide_eq_true (Option.some.inj z.2.2)] at h
        cases h
      · rw [hxp, hxq]
        exact congrArg some (Classical.byContradiction fun y => h (by rw [decide_eq_false y]; rfl))
    obtain ⟨hq, h2, h3⟩ := Classical.byContradiction h
    clear h
    have e1 : N.cutD (ms.map D.int) none (some ((p : Nat) : Int)) = (ms.take p).map D.int := by rw [cut_to9 (by rw [List.length_map]; omega), List.map_take]
    have e2 : N.cutD (ms.map D.int) (some ((p + s.length : Nat) : Int)) none = (ms.drop (p + s.length)).map D.int := by rw [cut_from (by rw [List.length_map]; omega), List.map_drop]
    refine sAsg (d := .lst ((ms.take p ++ ms.drop (p + s.length)).map D.int)) (fun Q h => ?_) ?_
    · refine ⟨_, rfl, _, rfl, ?_⟩
      rw [e1, e2]
      refine ⟨?_, by rw [List.map_append] at h; exact h⟩
      show ((ms.take p).map D.int).length + ((ms.drop (p + s.length)).map D.int).length ≤ 16777216
      rw [List.length_map, List.length_map, List.length_take, List.length_drop]
      omega
    refine ⟨fun u ρ => ∃ s8 : Slot, ρ = [.v (.lst (ns.map D.int)), .v (.lst (es.map entD)), .v (.lst (ls.map D.int)), .v (.lst (ms.map D.int)), .v (.int p), .v (dTup s), .v (.int ((p + s.length : Nat))), .v (.lst ((ms.take p ++ ms.drop (p + s.length)).map D.int)), s8] ∧ ∀ x ∈ s.take u, s.count x ≤ 1 ∧ x ∈ ms.take p ++ ms.drop (p + s.length), ⟨_, rfl, fun x hx => by simp at hx⟩, fun _ _ _ _ => trivial, ?_, ?_⟩
    · rintro u d' ρ hu hd ⟨s8, rfl, hall⟩
      have hd : (s.map D.int)[u]? = some d' := hd
      rw [List.getElem?_map] at hd
      obtain ⟨x, hx, rfl⟩ := Option.map_eq_some_iff.mp hd
      have hxm := List.mem_of_getElem? hx
      refine rif (¬ (s.count x ≤ 1 ∧ x ∈ ms.take p ++ ms.drop (p + s.length))) (fun A' F' hA hF => ?_) (fun h => fin (word_cut (hj.trans (judge_neg fun z => h ?_))).symm) (fun h => ?_)
      · refine ⟨⟨_, rfl⟩, s, rfl, ?_⟩
        show if decide ((1 : Int) < (s.count x : Nat)) = true then _ else _
        refine ite2 (fun h => hA fun z => ?_) (fun h => ?_)
        · have := of_decide_eq_true h
          omega
        refine ⟨x, false, ms.take p ++ ms.drop (p + s.length), rfl, rfl, ?_⟩
        show if (!decide (x ∈ ms.take p ++ ms.drop (p + s.length))) = true then _ else _
        refine ite2 (fun h4 => hA fun z => ?_) (fun h4 => hF fun z => z ⟨?_, ?_⟩)
        · rw [decide_eq_true z.2] at h4
          cases h4
        · exact Classical.byContradiction fun y => h (decide_eq_true (by omega))
        · exact Classical.byContradiction fun y => h4 (by rw [decide_eq_false y]; rfl)
      · obtain ⟨c, e⟩ := z
        have hnd := c.nd
        have hcov := c.cov
        rw [e] at hnd hcov
        exact ⟨nodup_cnt.mp hnd x hxm, hcov x hxm⟩
      · refine ⟨_, rfl, fun y hy => ?_⟩
        rw [List.take_add_one, hx] at hy
        rcases List.mem_append.mp hy with hy | hy
        · exact hall y hy
        · rw [List.mem_singleton.mp hy]
          exact Classical.byContradiction h
    · rintro ρ ⟨s8, rfl, hall⟩
      rw [show s.take (s.map D.int).length = s from List.take_of_length_le (by omega)] at hall
      have nd : s.Nodup := nodup_cnt.mpr fun x hx => (hall x hx).1
      have c := cutR_of sne hq h2 h3 nd fun x hx => (hall x hx).2
      exact ⟨ms.take p ++ ms.drop (p + s.length), _, _, _, _, _, rfl, hj.trans (judge_pos ⟨c, h2⟩), row_cut' vm (by omega)⟩
  · rintro ρ ⟨ms, s4, s5, s6, s7, s8, rfl, hj, vm⟩
    have ed : es.drop (es.map entD).length = [] := List.drop_eq_nil_of_le (by rw [List.length_map]; exact Nat.le_refl _)
    have hj : judgeGo es ns = some ms := by
      refine hj.trans ?_
      rw [show es.drop _ = [] from ed]
      rfl
    have hw := word_some (ls := ls) hj
    try dsimp only
    refine sifx (ms ≠ ls) (fun A' F' hA hF => ?_) (fun h => fin (by rw [hw, if_neg h])) (fun h => ?_)
    · refine neL_step (as := ms) (bs := ls) (fun Q h => h) (fun Q h => h) ?_
      show if (!decide (ms = ls)) = true then _ else _
      refine ite2 (fun h => hA fun z => ?_) (fun h => hF fun z => ?_)
      · rw [decide_eq_true z] at h
        cases h
      · exact h (by rw [decide_eq_false z]; rfl)
    have h := Classical.byContradiction h
    rw [if_pos h] at hw
    refine ret_if (isShort ms = true) (fun A' F' hA hF => ?_) (fun h => ?_) (fun h => ?_)
    · refine ⟨(false, ms), rfl, vm, fun r hr => ?_, fun _ h => h.elim⟩
      have hr : r = .bl (isShort ms) := hr
      subst hr
      show if isShort ms = true then _ else _
      exact ite2 hA hF
    · exact fin (by rw [hw, if_pos h])
    · exact fin (by rw [hw, if_neg h])
theorem has_law_word (T : Tx K mg) (h_law_is_short : Has P w K mg base "_law_is_short" 1 ["row"] (spF K sp_law_short)) {f : Addr} {fd : FuncData} (F : Fd K "_law_word" s_law_word [] f fd) (gm : mg "_law_word" = some (.ref f)) : Has P w K mg base "_law_word" 2 ["row", "log", "left"] (spF K sp_word) := by
  exact has_of F gm (ok_law_word T  h_law_is_short F) fun _ _ _ _ _ _ us hl => match us, hl with | [_, _, _], _ => rfl
end
end Q
/-! C17 -/
set_option Elab.async false
set_option linter.all false
set_option maxRecDepth 100000
set_option maxHeartbeats 8000000
namespace Q
open PySem PySem.Spec PyProof.Rows L2 N
section
variable {P : Program} {w : World} {K : PySem.W.Frag} {mg : Str → Option Value} {base : Heap}
/-! a log judged -/
mutual
theorem wt_shp : ∀ (d : D) (w : Int), wt (shp d w) = wt d
  | .lst ds, w => by
    rw [shp]
    split
    · rw [wt, wt, wtL_shp ds]
    · rw [wt, wt, wtL_shp ds]
  | .tup ds, w => by
    rw [shp]
    split
    · rw [wt, wt, wtL_shp ds]
    · rw [wt, wt, wtL_shp ds]
  | .non, _ => by simp [shp]
  | .bl _, _ => by simp [shp]
  | .int _, _ => by simp [shp]
  | .str _, _ => by simp [shp]
  | .dic _, _ => by simp [shp]
  | .obj _, _ => by simp [shp]
  | .ins _ _ _, _ => by simp [shp]
  | .ty _, _ => by simp [shp]
theorem wtL_shp : ∀ (ds : List D) (w : Int), wtL (shpL ds w) = wtL ds
  | [], _ => by simp [shpL]
  | d :: ds, w => by rw [shpL, wtL, wtL, wt_shp d w, wtL_shp ds w]
end
mutual
theorem ok_shp : ∀ (d : D) (w : Int), sameOk (shp d w) = sameOk d
  | .lst ds, w => by
    rw [shp]
    split
    · rw [sameOk, sameOk, okL_shp ds]
    · rw [sameOk, sameOk, okL_shp ds]
  | .tup ds, w => by
    rw [shp]
    split
    · rw [sameOk, sameOk, okL_shp ds]
    · rw [sameOk, sameOk, okL_shp ds]
  | .non, _ => by simp [shp]
  | .bl _, _ => by simp [shp]
  | .int _, _ => by simp [shp]
  | .str _, _ => by simp [shp]
  | .dic _, _ => by simp [shp]
  | .obj _, _ => by simp [shp]
  | .ins _ _ _, _ => by simp [shp]
  | .ty _, _ => by simp [shp]
theorem okL_shp : ∀ (ds : List D) (w : Int), sameOkL (shpL ds w) = sameOkL ds
  | [], _ => by simp [shpL]
  | d :: ds, w => by rw [shpL, sameOkL, sameOkL, ok_shp d w, okL_shp ds w]
end
theorem shp_ints (ns : List Int) (w : Int) : shp (.lst (ns.map D.int)) w = .lst (ns.map D.int) ∨ shp (.lst (ns.map D.int)) w = .tup (ns.map D.int) := by
  rw [shp, shpL_ints]
  split
  · exact .inl rfl
  · exact .inr rfl
theorem shp_intsT (ns : List Int) (w : Int) : shp (dTup ns) w = .lst (ns.map D.int) ∨ shp (dTup ns) w = .tup (ns.map D.int) := by
  unfold dTup
  rw [shp, shpL_ints]
  split
  · exact .inl rfl
  · exact .inr rfl
theorem shp_row {ns : List Int} (v : RowV 8 ns) (w : Int) : RowIn (shp (.lst (ns.map D.int)) w) ∧ isRow 8 (shp (.lst (ns.map D.int)) w) = true ∧ rowOf (shp (.lst (ns.map D.int)) w) = some (ns.map D.int) := by
  rcases shp_ints ns w with h | h <;> rw [h]
  · exact ⟨(rowIn_ints ns).2, (row_ok v).2, rfl⟩
  · exact ⟨(rowIn_ints ns).1, (row_ok v).1, rfl⟩
theorem shp_rowT {ns : List Int} (v : RowV 8 ns) (w : Int) : RowIn (shp (dTup ns) w) ∧ isRow 8 (shp (dTup ns) w) = true ∧ rowOf (shp (dTup ns) w) = some (ns.map D.int) := by
  rcases shp_intsT ns w with h | h <;> rw [h]
  · exact ⟨(rowIn_ints ns).2, (row_ok v).2, rfl⟩
  · exact ⟨(rowIn_ints ns).1, (row_ok v).1, rfl⟩
theorem shp_int (i : Int) (w : Int) : shp (.int i) w = .int i := by simp [shp]
theorem shp_ent (e : Nat × List Int) (w : Int) : shp (entD e) w = .lst [.int e.1, shp (dTup e.2) (w / 2)] ∨ shp (entD e) w = .tup [.int e.1, shp (dTup e.2) (w / 2)] := by
  unfold entD
  rw [shp, shpL, shpL, shpL, shp_int]
  split
  · exact .inl rfl
  · exact .inr rfl
theorem rowOf_2 {d a b : D} (h : d = .lst [a, b] ∨ d = .tup [a, b]) : rowOf d = some [a, b] ∧ (ty7 d).isSome = true := by
  rcases h with rfl | rfl <;> exact ⟨rfl, rfl⟩
theorem entF_shp {e : Nat × List Int} (h : e.2 ≠ [] ∧ RowV 8 e.2) (w : Int) : entF (shp (entD e) w) = some e := by
  obtain ⟨h1, h2, h3⟩ := shp_rowT h.2 (w / 2)
  rw [entF_2 (rowOf_2 (shp_ent e w)).1, natD_nat]
  show (if isRow 8 (shp (dTup e.2) (w / 2)) = true ∧ toIs (shp (dTup e.2) (w / 2)) ≠ [] then some (e.1, toIs (shp (dTup e.2) (w / 2))) else none) = some e
  rw [toIs_of h3, if_pos ⟨h2, h.1⟩]
theorem entsF_shp : ∀ {es : List (Nat × List Int)} (h : ∀ e ∈ es, e.2 ≠ [] ∧ RowV 8 e.2) (w : Int), entsF (shpL (es.map entD) w) = some es
  | [], _, w => by rw [List.map_nil, shpL]; rfl
  | e :: es, h, w => by rw [List.map_cons, shpL, entsF, entF_shp (h e (List.mem_cons_self ..)) w, entsF_shp (fun x hx => h x (List.mem_cons_of_mem _ hx)) w]
theorem shpL_len : ∀ (ds : List D) (w : Int), (shpL ds w).length = ds.length
  | [], _ => by rw [shpL]
  | d :: ds, w => by rw [shpL, List.length_cons, shpL_len ds w, List.length_cons]
theorem shp_log {es : List (Nat × List Int)} (h : LogV es) (w : Int) : LogIn (shp (.lst (es.map entD)) w) ∧ logF (shp (.lst (es.map entD)) w) = some es := by
  have key : rowOf (shp (.lst (es.map entD)) w) = some (shpL (es.map entD) (w / 2)) ∧ (ty7 (shp (.lst (es.map entD)) w)).isSome = true := by
    rw [shp]
    split <;> exact ⟨rfl, rfl⟩
  refine ⟨⟨key.2, fun xs hx d hd => ?_⟩, ?_⟩
  · rw [key.1] at hx
    obtain rfl := Option.some.inj hx
    rw [shpL_map] at hd
    obtain ⟨d', hd', rfl⟩ := List.mem_map.mp hd
    obtain ⟨e, he, rfl⟩ := List.mem_map.mp hd'
    obtain ⟨r1, r2⟩ := rowOf_2 (shp_ent e (w / 2))
    refine ⟨r2, fun xs hx x hx2 => ?_⟩
    rw [r1] at hx
    obtain rfl := Option.some.inj hx
    simp only [List.mem_cons, List.not_mem_nil, or_false] at hx2
    rcases hx2 with rfl | rfl
    · exact ⟨rfl, fun ds e => by cases e⟩
    · exact (shp_rowT (h.2 e he).2 _).1
  · unfold logF
    rw [key.1]
    show (if (shpL (es.map entD) (w / 2)).length ≤ 200 then entsF (shpL (es.map entD) (w / 2)) else none) = some es
    rw [shpL_len, List.length_map, if_pos h.1, entsF_shp h.2]
theorem wt_ents : ∀ {es : List (Nat × List Int)}, (∀ e ∈ es, e.2 ≠ [] ∧ RowV 8 e.2) → wtL (es.map entD) ≤ 203 * es.length
  | [], _ => by simp [wtL]
  | e :: es, h => by
    have := wt_ents (es := es) fun x hx => h x (List.mem_cons_of_mem _ hx)
    have := (h e (List.mem_cons_self ..)).2.1
    rw [List.map_cons, wtL, List.length_cons, entD, dTup, wt, wtL, wtL, wtL, wt, wt, wt_ints]
    omega
theorem ok_ents : ∀ es : List (Nat × List Int), sameOkL (es.map entD) = true
  | [] => rfl
  | e :: es => by
    rw [List.map_cons, sameOkL, ok_ents es, entD, dTup, sameOk, sameOkL, sameOkL, sameOkL, sameOk, sameOk, sameOk_ints]
    rfl
theorem same_log {es : List (Nat × List Int)} (h : LogV es) (w : Int) : sameOk (shp (.lst (es.map entD)) w) = true ∧ wt (shp (.lst (es.map entD)) w) ≤ 1000000 := by
  rw [ok_shp, wt_shp, wt, sameOk]
  refine ⟨ok_ents es, ?_⟩
  have := wt_ents h.2
  have := h.1
  omega
theorem dep_ents : ∀ es : List (Nat × List Int), depL (es.map entD) ≤ 2
  | [] => by simp [depL]
  | e :: es => by
    have := dep_ents es
    rw [List.map_cons, depL, entD, dTup, dep, depL, depL, depL, dep, dep, depL_ints]
    omega
theorem pre_log {es : List (Nat × List Int)} (h : LogV es) : dep (.lst (es.map entD)) < 4 ∧ shOk (.lst (es.map entD)) = true := by
  have h1 := h.1
  rw [dep, shOk]
  refine ⟨by have := dep_ents es; omega, ?_⟩
  rw [decide_eq_true (by rw [List.length_map]; omega), Bool.true_and]
  refine shOkL_mem.mpr fun d hd => ?_
  obtain ⟨e, he, rfl⟩ := List.mem_map.mp hd
  have := (h.2 e he).2.1
  have e1 : decide ((e.2.map D.int).length ≤ 16777216) = true := decide_eq_true (by rw [List.length_map]; omega)
  rw [entD, dTup, shOk, shOkL, shOkL, shOkL, shOk, shOk, shOkL_ints, e1]
  rfl
theorem pre_row {ns : List Int} (v : RowV 8 ns) : dep (.lst (ns.map D.int)) < 4 ∧ shOk (.lst (ns.map D.int)) = true := by
  have := v.1
  rw [dep, shOk, depL_ints, shOkL_ints, decide_eq_true (by rw [List.length_map]; omega)]
  exact ⟨by decide, rfl⟩
def sp_judged : SS := { α := List Int × List (Nat × List Int) × List Int, args := fun g => [.lst (g.1.map D.int), .lst (g.2.1.map entD), .lst (g.2.2.map D.int)], pre := fun g => RowV 8 g.1 ∧ RowV 8 g.2.2 ∧ LogV g.2.1, post := fun _ r => r = .bl true, s0 := fun _ => StOk, s1 := fun _ => StOk }
/-! _law_judged -/
abbrev s_law_judged : Stmt := topS 60
abbrev n_law_judged : List Str := ["store", "row", "log", "left", "way", "handed", "rest"]
theorem sc_law_judged : FnScope n_law_judged ["store", "row", "log", "left"] (defScope s_law_judged) := ⟨rfl, rfl, rfl, by decide +kernel, rfl, by decide +kernel, by decide +kernel⟩
theorem ok_law_judged (T : Tx K mg) (h_law_take : Has P w K mg base "_law_take" 2 ["store", "many"] (spS K sp_take)) (h_law_shaped : Has P w K mg base "_law_shaped" 4 ["thing", "way"] (spO K (sp_shaped 4))) (h_law_same : Has P w K mg base "_law_same" 1 ["actual", "due"] (spF K sp_same)) (h_law_word : Has P w K mg base "_law_word" 2 ["row", "log", "left"] (spF K sp_word)) (h_judge_log : Has P w K mg base "judge_log" 6 ["row", "log", "left"] (spF K (sp_judge K))) {f : Addr} {fd : FuncData} (F : Fd K "_law_judged" s_law_judged [] f fd) : FnOk P w K mg base (L2N.CX P w) 7 f fd ["store", "row", "log", "left"] (spS K sp_judged) := by
  refine fnS_ok F sc_law_judged sp_judged (fun _ => rfl) (by decide) fun cdv A outer s H E g p ss hr pre hs => ?_
  refine ⟨_, (ds_cons (ds_set (i := 4) sc_law_judged.nd (de_callS h_law_take (hr.mono (by decide : 2 ≤ 6)) (dv 0) (da_cons de_int da_nil)))
      (ds_cons (ds_set (i := 5) sc_law_judged.nd (de_callO h_law_shaped (hr.mono (by decide : 4 ≤ 6)) (da_cons (dv 2) (da_cons (dv 4) da_nil))))
      (ds_cons (ds_set (i := 6) sc_law_judged.nd (de_callO h_law_shaped (hr.mono (by decide : 4 ≤ 6)) (da_cons (dv 3) (da_cons (de_fdiv (dv 4) de_int) da_nil))))
      (ds_cons (ds_if (dt_not (dt_val (de_call h_law_same (hr.mono (by decide : 1 ≤ 6)) (da_cons (de_call h_judge_log hr (da_cons (de_callO h_law_shaped (hr.mono (by decide : 4 ≤ 6)) (da_cons (dv 1) (da_cons (de_fdiv (dv 4) de_int) da_nil))) (da_cons (dv 5) (da_cons (dv 6) da_nil)))) (da_cons (de_call h_law_word (hr.mono (by decide : 2 ≤ 6)) (da_cons (dv 1) (da_cons (dv 2) (da_cons (dv 3) da_nil)))) da_nil)))))
      (ds_one (ds_ret de_bl))
      ds_nil)
      (ds_one (ds_ret (de_and (de_call h_law_same (hr.mono (by decide : 1 ≤ 6)) (da_cons (dv 5) (da_cons (de_callO h_law_shaped (hr.mono (by decide : 4 ≤ 6)) (da_cons (dv 2) (da_cons (dv 4) da_nil))) da_nil))) (de_one (de_call h_law_same (hr.mono (by decide : 1 ≤ 6)) (da_cons (de_new (dn_list T.b_list (da_cons (dv 6) da_nil))) (da_cons (dv 3) da_nil))))))))))), ?_⟩
  obtain ⟨ns, es, ls⟩ := g
  obtain ⟨v, vl, ve⟩ := pre
  change RowV 8 ns at v
  change RowV 8 ls at vl
  change LogV es at ve
  refine ⟨(8 : Int), rfl, hs, tk (by omega), fun d s1 hd hs1 => ?_⟩
  obtain ⟨w, rfl, w0, w1⟩ := hd
  refine ⟨(.lst (es.map entD), w), rfl, pre_log ve, fun d hd => ?_, fun _ _ => trivial⟩
  have hd : d = shp (.lst (es.map entD)) w := hd
  subst hd
  refine ⟨⟨by decide, by decide⟩, ?_⟩
  refine ⟨(.lst (ls.map D.int), w / 2), rfl, pre_row vl, fun d hd => ?_, fun _ _ => trivial⟩
  have hd : d = shp (.lst (ls.map D.int)) (w / 2) := hd
  subst hd
  dsimp only [kD]
  refine chk (fun A' F' hF => ?_) ?_
  · refine ⟨⟨by decide, by decide⟩, ?_⟩
    refine ⟨(.lst (ns.map D.int), w / 4), rfl, pre_row v, fun d hd => ?_, fun _ _ => trivial⟩
    have hd : d = shp (.lst (ns.map D.int)) (w / 4) := hd
    subst hd
    obtain ⟨r1, r2, r3⟩ := shp_row v (w / 4)
    obtain ⟨l1, l2, l3⟩ := shp_row vl (w / 2)
    obtain ⟨g1, g2⟩ := shp_log ve w
    refine ⟨(shp (.lst (ns.map D.int)) (w / 4), shp (.lst (es.map entD)) w, shp (.lst (ls.map D.int)) (w / 2)), rfl, ⟨r1, g1, l1⟩, fun r hr => ?_, fun x hx => ?_⟩
    · obtain ⟨ns', es', ls', _, e1, e2, _, e3, rfl⟩ := hr
      have e1 : rowOf (shp (.lst (ns.map D.int)) (w / 4)) = some (ns'.map D.int) := e1
      have e2 : logF (shp (.lst (es.map entD)) w) = some es' := e2
      have e3 : rowOf (shp (.lst (ls.map D.int)) (w / 2)) = some (ls'.map D.int) := e3
      rw [r3] at e1
      rw [g2] at e2
      rw [l3] at e3
      obtain rfl := ints_inj (Option.some.inj e1)
      obtain rfl := Option.some.inj e2
      obtain rfl := ints_inj (Option.some.inj e3)
      refine ⟨(ns, es, ls), rfl, ⟨v, vl, ve⟩, fun r hr => ?_, fun _ h => h.elim⟩
      have hr : r = .str (wordOf ns es ls) := hr
      subst hr
      refine ⟨.str (wordOf ns es ls), rfl, ⟨rfl, by show wt (.str _) ≤ 1000000; rw [wt]; decide⟩, fun r hr => ?_, fun _ h => h.elim⟩
      have hr : r = .bl true := hr
      subst hr
      exact hF
    · rcases hx with hx | ⟨_, hx, _⟩
      · have h : isRow 8 (shp (.lst (ns.map D.int)) (w / 4)) = false := hx.1
        rw [r2] at h
        cases h
      · have h : logF (shp (.lst (es.map entD)) w) = none ∨ isRow 8 (shp (.lst (ls.map D.int)) (w / 2)) = false := hx
        rw [g2, l2] at h
        rcases h with h | h <;> cases h
  refine ⟨(.lst (es.map entD), w), rfl, pre_log ve, fun d hd => ?_, fun _ _ => trivial⟩
  have hd : d = shp (.lst (es.map entD)) w := hd
  subst hd
  refine ⟨shp (.lst (es.map entD)) w, rfl, same_log ve w, fun r hr => ?_, fun _ h => h.elim⟩
  have hr : r = .bl true := hr
  subst hr
  have vll := vl.1
  have last : ∀ Q : W → En → Prop, ∀ ρ, Q (.d (.bl true)) ρ → rCall sp_same (fun _ P => P [.d (.lst (ls.map D.int)), .d (.lst (ls.map D.int))] ρ) (fun _ => False) ρ Q := fun Q ρ q => by
    refine ⟨.lst (ls.map D.int), rfl, same_lst ls (by omega), fun r hr => ?_, fun _ h => h.elim⟩
    have hr : r = .bl true := hr
    subst hr
    exact q
  have sh := shp_ints ls (w / 2)
  generalize shp (.lst (ls.map D.int)) (w / 2) = z at sh
  rcases sh with rfl | rfl
  · exact last _ _ ⟨rfl, _, rfl, hs1⟩
  · exact last _ _ ⟨rfl, _, rfl, hs1⟩
theorem has_law_judged (T : Tx K mg) (h_law_take : Has P w K mg base "_law_take" 2 ["store", "many"] (spS K sp_take)) (h_law_shaped : Has P w K mg base "_law_shaped" 4 ["thing", "way"] (spO K (sp_shaped 4))) (h_law_same : Has P w K mg base "_law_same" 1 ["actual", "due"] (spF K sp_same)) (h_law_word : Has P w K mg base "_law_word" 2 ["row", "log", "left"] (spF K sp_word)) (h_judge_log : Has P w K mg base "judge_log" 6 ["row", "log", "left"] (spF K (sp_judge K))) {f : Addr} {fd : FuncData} (F : Fd K "_law_judged" s_law_judged [] f fd) (gm : mg "_law_judged" = some (.ref f)) : Has P w K mg base "_law_judged" 7 ["store", "row", "log", "left"] (spS K sp_judged) := by
  exact has_of F gm (ok_law_judged T  h_law_take h_law_shaped h_law_same h_law_word h_judge_log F) fun _ _ _ _ _ _ us hl => match us, hl with | [_, _, _, _], _ => rfl
end
end Q
/-! C18 -/
set_option Elab.async false
set_option linter.all false
set_option maxRecDepth 100000
set_option maxHeartbeats 8000000
namespace Q
open PySem PySem.Spec PyProof.Rows L2 N
section
variable {P : Program} {w : World} {K : PySem.W.Frag} {mg : Str → Option Value} {base : Heap}
/-! a log grown -/
def sp_grown : SS := { α := List Int × Int × Int, args := fun g => [.lst (g.1.map D.int), .int g.2.1, .int g.2.2], pre := fun g => RowV 8 g.1 ∧ 0 ≤ g.2.1 ∧ g.2.1 ≤ 200, post := fun _ r => ∃ ms es, r = .tup [.lst (ms.map D.int), .lst (es.map entD)] ∧ RowV 8 ms ∧ LogV es, s0 := fun _ => StOk, s1 := fun _ => StOk }
/-! _law_grown_log -/
abbrev s_law_grown_log : Stmt := topS 55
abbrev n_law_grown_log : List Str := ["store", "base", "steps", "odd", "now", "log", "k", "p", "section", "others", "n", "kind"]
theorem sc_law_grown_log : FnScope n_law_grown_log ["store", "base", "steps", "odd"] (defScope s_law_grown_log) := ⟨rfl, rfl, rfl, by decide +kernel, rfl, by decide +kernel, by decide +kernel⟩
theorem ok_law_grown_log (T : Tx K mg) (h_law_take : Has P w K mg base "_law_take" 2 ["store", "many"] (spS K sp_take)) (h_law_arrangement : Has P w K mg base "_law_arrangement" 3 ["store", "things"] (spS K sp_arr)) {f : Addr} {fd : FuncData} (F : Fd K "_law_grown_log" s_law_grown_log [] f fd) : FnOk P w K mg base (L2N.CX P w) 4 f fd ["store", "base", "steps", "odd"] (spS K sp_grown) := by
  refine fnS_ok F sc_law_grown_log sp_grown (fun _ => rfl) (by decide) fun cdv A outer s H E g p ss hr pre hs => ?_
  refine ⟨_, (ds_cons (ds_set (i := 4) sc_law_grown_log.nd (de_new (dn_list T.b_list (da_cons (dv 1) da_nil))))
      (ds_cons (ds_setO (i := 5) sc_law_grown_log.nd (dn_lst da_nil))
      (ds_cons (ds_for (passes_of rfl) (di_range1 T.b_range (da_cons (dv 2) da_nil)) (dg 6 sc_law_grown_log.nd)
      (ds_cons (ds_if (dt_eq (dv 6) (dv 3))
      (ds_cons (ds_set (i := 7) sc_law_grown_log.nd (de_callS h_law_take (hr.mono (by decide : 2 ≤ 3)) (dv 0) (da_cons (de_add (de_len T.b_len (da_cons (dv 4) da_nil)) de_int) da_nil)))
      (ds_cons (ds_setLcO (j := 8) sc_law_grown_log.nd (di_range1 T.b_range (da_cons (de_add de_int (de_callS h_law_take (hr.mono (by decide : 2 ≤ 3)) (dv 0) (da_cons de_int da_nil))) da_nil)) (blkOk_by (own := [("n", 10)]) (N := n_law_grown_log) (sc := defScope s_law_grown_log) (by decide +kernel)) (fun _ _ _ _ _ _ _ => dts_nil) (fun _ _ _ _ _ _ _ => (de_callS h_law_take (hr.mono (by decide : 2 ≤ 3)) (dv 0) (da_cons de_int da_nil))) (fun _ _ _ _ _ => pg_name (i := 10) sc_law_grown_log.nd rfl (Or.inl rfl)) (sw_true rfl rfl rfl (by decide +kernel)))
      (ds_lock 8 ds_nil)))
      (ds_one (ds_if (dt_gt (de_len T.b_len (da_cons (dv 4) da_nil)) de_int)
      (ds_cons (ds_set (i := 7) sc_law_grown_log.nd (de_callS h_law_take (hr.mono (by decide : 2 ≤ 3)) (dv 0) (da_cons (de_len T.b_len (da_cons (dv 4) da_nil)) da_nil)))
      (ds_cons (ds_setLcO (j := 9) sc_law_grown_log.nd (di_range1 T.b_range (da_cons de_int da_nil)) (blkOk_by (own := [("kind", 11)]) (N := n_law_grown_log) (sc := defScope s_law_grown_log) (by decide +kernel)) (fun _ _ _ _ _ _ _ => (dts_one ((dw_and (dt_in (dv 11) (dv 4)) (dw_and1 (dt_ne (dv 11) (de_ix (dv 4) (dv 7)))))).dt)) (fun _ _ _ _ _ _ _ => (dv 11)) (fun _ _ _ _ _ => pg_name (i := 11) sc_law_grown_log.nd rfl (Or.inl rfl)) (sw_true rfl rfl rfl (by decide +kernel)))
      (ds_lock 9 (ds_one (ds_set (i := 8) sc_law_grown_log.nd (de_new (dn_cat (de_new (dn_lst (da_cons (de_ix (dv 4) (dv 7)) da_nil))) (de_new (dn_slice (de_callS h_law_arrangement hr (dv 0) (da_cons (dv 9) da_nil)) do_none (do_some (de_callS h_law_take (hr.mono (by decide : 2 ≤ 3)) (dv 0) (da_cons (de_add (de_len T.b_len (da_cons (dv 9) da_nil)) de_int) da_nil))))))))))))
      (ds_one ds_break))))
      (ds_cons (ds_if (dt_gt (de_add (de_len T.b_len (da_cons (dv 4) da_nil)) (de_len T.b_len (da_cons (dv 8) da_nil))) de_int)
      (ds_one ds_break)
      ds_nil)
      (ds_cons (ds_expr (de_insert (dv 5) de_int (de_tup (da_cons (dv 7) (da_cons (de_tuple T.b_tuple (da_cons (dv 8) da_nil)) da_nil)))))
      (ds_one (ds_set (i := 4) sc_law_grown_log.nd (de_new (dn_cat (de_new (dn_cat (de_new (dn_slice (dv 4) do_none (do_some (dv 7)))) (dv 8))) (de_new (dn_slice (dv 4) (do_some (dv 7)) do_none))))))))))
      (ds_lock 5 (ds_one (ds_ret (de_tup (da_cons (dv 4) (da_cons (dv 5) da_nil))))))))), ?_⟩
  obtain ⟨bs, steps, odd⟩ := g
  obtain ⟨v, st0, st1⟩ := pre
  change RowV 8 bs at v
  change 0 ≤ steps at st0
  change steps ≤ 200 at st1
  refine sAsg (d := .lst (bs.map D.int)) (fun Q h => h) ?_
  intro q
  try dsimp only
  refine seq_join (fun ρ => ∃ (s : List D) (ms : List Int) (es : List (Nat × List Int)) (s6 s7 s8 s9 : Slot), ρ = [.own p s, .v (.lst (bs.map D.int)), .v (.int steps), .v (.int odd), .v (.lst (ms.map D.int)), .own q (es.map entD), s6, s7, s8, s9, .un, .un] ∧ StOk s ∧ RowV 8 ms ∧ LogV es) ?_ (fun R hR => ?_)
  · rintro ρ ⟨s, ms, es, s6, s7, s8, s9, rfl, hs, vm, ve⟩
    exact ⟨⟨ms, es, rfl, vm, ve⟩, s, rfl, hs⟩
  refine ⟨by decide, by decide, by show -(2 ^ 62) ≤ steps; omega, by show steps < 2 ^ 62; omega, fun k ρ => ∃ (s : List D) (ms : List Int) (es : List (Nat × List Int)) (s6 s7 s8 s9 : Slot), ρ = [.own p s, .v (.lst (bs.map D.int)), .v (.int steps), .v (.int odd), .v (.lst (ms.map D.int)), .own q (es.map entD), s6, s7, s8, s9, .un, .un] ∧ StOk s ∧ RowV 8 ms ∧ LogV es ∧ es.length ≤ k, ⟨ss, bs, [], _, _, _, _, rfl, hs, v, ⟨by decide, fun e he => by simp at he⟩, Nat.le_refl _⟩, fun _ _ _ _ => trivial, ?_, ?_⟩
  · rintro k d ρ hk rfl ⟨s, ms, es, s6, s7, s8, s9, rfl, hs, vm, ve, hl⟩
    have vml := vm.1
    have eml : ((ms.map D.int).length : Nat) = ms.length := List.length_map _
    have br : ∀ (s : List D) (s7 s8 s9 : Slot), StOk s → R [.own p s, .v (.lst (bs.map D.int)), .v (.int steps), .v (.int odd), .v (.lst (ms.map D.int)), .own q (es.map entD), .v (.int (0 + k)), s7, s8, s9, .un, .un] := fun s s7 s8 s9 h => hR _ ⟨s, ms, es, _, s7, s8, s9, rfl, h, vm, ve⟩
    refine join1 (fun ρ => ∃ (s : List D) (pp : Nat) (sc : List Int) (s9 : Slot), ρ = [.own p s, .v (.lst (bs.map D.int)), .v (.int steps), .v (.int odd), .v (.lst (ms.map D.int)), .own q (es.map entD), .v (.int (0 + k)), .v (.int pp), .v (.lst (sc.map D.int)), s9, .un, .un] ∧ StOk s ∧ pp ≤ ms.length ∧ sc ≠ [] ∧ ∀ n ∈ sc, 0 ≤ n ∧ n < 8) (fun R' hR' => ?_) ?_
    · show if decide ((0 : Int) + k = odd) = true then _ else _
      refine ite2 (fun h => ?_) (fun h => ?_)
      · refine ⟨((ms.map D.int).length : Int) + 1, rfl, hs, tk (by omega), fun d s2 hd hs => ?_⟩
        obtain ⟨pz, rfl, p0, p1⟩ := hd
        obtain ⟨pp, rfl⟩ := Int.eq_ofNat_of_zero_le p0
        refine ⟨trivial, (10 : Int), rfl, hs, tk (by omega), fun d s3 hd hs => ?_⟩
        obtain ⟨i, rfl, i0, i1⟩ := hd
        refine ⟨by decide, by decide, by show -(2 ^ 62) ≤ 1 + i; omega, by show 1 + i < 2 ^ 62; omega, by show (1 + i - 0).toNat ≤ 16777216; omega, fun u acc ρ => ∃ (s : List D) (l l2 : Slot), ρ = [.own p s, .v (.lst (bs.map D.int)), .v (.int steps), .v (.int odd), .v (.lst (ms.map D.int)), .own q (es.map entD), .v (.int (0 + k)), .v (.int (pp : Nat)), l, l2, .un, .un] ∧ StOk s ∧ acc.length = u ∧ ∀ x ∈ acc, isK 8 x = true, ⟨s3, _, _, rfl, hs, rfl, fun n hn => by simp at hn⟩, fun _ _ _ _ _ => trivial, ?_, ?_⟩
        · rintro u _ acc ρ hu rfl ⟨s, l, l2, rfl, hs, hl2, hn⟩
          refine ⟨(8 : Int), rfl, hs, tk (by omega), fun x s5 hx hs => ?_⟩
          have hx := isK_take (by decide) hx
          refine ⟨s5, l, l2, rfl, hs, by rw [List.length_append, hl2]; rfl, fun y hy => ?_⟩
          rcases List.mem_append.mp hy with h | h
          · exact hn y h
          · rw [List.mem_singleton.mp h]; exact hx
        · rintro acc ρ ⟨s, l, l2, rfl, hs, hl2, hn⟩ q2
          obtain ⟨sc, rfl, hsc⟩ := ints_of hn
          have hl2 : (sc.map D.int).length = (1 + i - 0).toNat := hl2
          rw [List.length_map] at hl2
          refine hR' _ ⟨s, pp, sc, l2, rfl, hs, by omega, fun z => by rw [z] at hl2; simp at hl2; omega, hsc⟩
      · show if decide ((0 : Int) < ((ms.map D.int).length : Int)) = true then _ else _
        refine ite2 (fun h => ?_) (fun h => br s _ _ _ hs)
        have h := of_decide_eq_true h
        refine ⟨((ms.map D.int).length : Int), rfl, hs, tk (by omega), fun d s2 hd hs => ?_⟩
        obtain ⟨pz, rfl, p0, p1⟩ := hd
        obtain ⟨pp, rfl⟩ := Int.eq_ofNat_of_zero_le p0
        have hpp : pp < ms.length := by omega
        have hxp : ms[pp]? = some ms[pp] := List.getElem?_eq_getElem hpp
        have vx := vm.2 _ (List.mem_of_getElem? hxp)
        generalize ms[pp] = x at hxp vx
        refine ⟨trivial, by decide, by decide, by decide, by decide, by decide, fun u acc ρ => ∃ (l l2 : Slot) (os : List Int), ρ = [.own p s2, .v (.lst (bs.map D.int)), .v (.int steps), .v (.int odd), .v (.lst (ms.map D.int)), .own q (es.map entD), .v (.int (0 + k)), .v (.int (pp : Nat)), l, l2, .un, .un] ∧ acc = os.map D.int ∧ os.length ≤ u ∧ ∀ n ∈ os, 0 ≤ n ∧ n < 8, ⟨_, _, [], rfl, rfl, Nat.le_refl _, fun n hn => by simp at hn⟩, fun _ _ _ _ _ => trivial, ?_, ?_⟩
        · rintro u _ acc ρ hu rfl ⟨l, l2, os, rfl, rfl, hl2, hn⟩
          have hu : u < 8 := hu
          have keep : ∀ (l l2 : Slot), ∃ (l' l2' : Slot) (os' : List Int), [Slot.own p s2, .v (.lst (bs.map D.int)), .v (.int steps), .v (.int odd), .v (.lst (ms.map D.int)), .own q (es.map entD), .v (.int (0 + k)), .v (.int (pp : Nat)), l, l2, .un, .un] = [.own p s2, .v (.lst (bs.map D.int)), .v (.int steps), .v (.int odd), .v (.lst (ms.map D.int)), .own q (es.map entD), .v (.int (0 + k)), .v (.int (pp : Nat)), l', l2', .un, .un] ∧ os.map D.int = os'.map D.int ∧ os'.length ≤ u + 1 ∧ ∀ n ∈ os', 0 ≤ n ∧ n < 8 := fun l l2 => ⟨l, l2, os, rfl, rfl, by omega, hn⟩
          refine ⟨(0 + (u : Int)), false, ms, rfl, rfl, ?_⟩
          show if decide ((0 + (u : Int)) ∈ ms) = true then _ else _
          refine ite2 (fun h => ?_) (fun h => keep _ _)
          refine ⟨_, at_ints hxp, ?_⟩
          show if (!decide ((0 + (u : Int)) = x)) = true then _ else _
          refine ite2 (fun h => ?_) (fun h => keep _ _)
          refine ⟨_, _, os ++ [0 + (u : Int)], rfl, by rw [List.map_append]; rfl, by rw [List.length_append, List.length_singleton]; omega, fun n hm => ?_⟩
          rcases List.mem_append.mp hm with z | z
          · exact hn n z
          · rw [List.mem_singleton.mp z]
            omega
        · rintro acc ρ ⟨l, l2, os, rfl, rfl, hl2, hn⟩ q2
          have hl2 : os.length ≤ 8 := hl2
          have eol : ((os.map D.int).length : Nat) = os.length := List.length_map _
          refine ⟨_, at_ints hxp, ?_⟩
          refine ⟨(false, os.map D.int), rfl, hs, by show (os.map D.int).length ≤ _; omega, fun d s3 hd hs => ?_⟩
          obtain ⟨ds', rfl, hp⟩ := hd
          obtain ⟨os', rfl, hpo⟩ := perm_ints (show ds'.Perm (os.map D.int) from hp)
          refine ⟨((os.map D.int).length : Int) + 1, rfl, hs, tk (by omega), fun d s4 hd hs => ?_⟩
          obtain ⟨t, rfl, t0, t1⟩ := hd
          obtain ⟨tt, rfl⟩ := Int.eq_ofNat_of_zero_le t0
          have epl : os'.length = os.length := hpo.length_eq
          have e1 : N.cutD (os'.map D.int) none (some ((tt : Nat) : Int)) = (os'.take tt).map D.int := by rw [cut_to9 (by rw [List.length_map]; omega), List.map_take]
          refine ⟨_, rfl, ?_⟩
          rw [e1]
          refine ⟨by show 1 + ((os'.take tt).map D.int).length ≤ 16777216; rw [List.length_map, List.length_take]; omega, hR' _ ⟨s4, pp, x :: os'.take tt, _, rfl, hs, by omega, by simp, fun n hm => ?_⟩⟩
          rcases List.mem_cons.mp hm with rfl | hm
          · exact vx
          · exact hn n (hpo.mem_iff.mp (List.mem_of_mem_take hm))
    rintro ρ ⟨s, pp, sc, s9, rfl, hs, hp, hsc, hn⟩
    try dsimp only
    have ecl : ((sc.map D.int).length : Nat) = sc.length := List.length_map _
    show if decide ((200 : Int) < ((ms.map D.int).length : Int) + ((sc.map D.int).length : Int)) = true then _ else _
    refine ite2 (fun h => br s _ _ _ hs) (fun h => ?_)
    have h : ¬ (200 : Int) < ((ms.map D.int).length : Int) + ((sc.map D.int).length : Int) := fun z => h (decide_eq_true z)
    have hkk : (k : Int) < steps := by
      have hk : k < (steps - 0).toNat := hk
      omega
    have esl : es.length < 16777216 := by omega
    refine ⟨by decide, by decide, by rw [List.length_map]; exact esl, ?_⟩
    have e1 : N.cutD (ms.map D.int) none (some ((pp : Nat) : Int)) = (ms.take pp).map D.int := by rw [cut_to9 (by rw [List.length_map]; omega), List.map_take]
    have e2 : N.cutD (ms.map D.int) (some ((pp : Nat) : Int)) none = (ms.drop pp).map D.int := by rw [cut_from (by rw [List.length_map]; omega), List.map_drop]
    refine ⟨_, rfl, ?_⟩
    rw [e1]
    refine ⟨by show ((ms.take pp).map D.int).length + (sc.map D.int).length ≤ 16777216; rw [List.length_map, List.length_take]; omega, ?_⟩
    refine ⟨_, rfl, ?_⟩
    rw [e2]
    have e3 : (ms.take pp).map D.int ++ sc.map D.int ++ (ms.drop pp).map D.int = (ms.take pp ++ sc ++ ms.drop pp).map D.int := by rw [List.map_append, List.map_append]
    refine ⟨by rw [List.length_append, List.length_map, List.length_map, List.length_map, List.length_take, List.length_drop]; omega, ?_⟩
    rw [e3]
    have scv : RowV 8 sc := ⟨by omega, hn⟩
    refine ⟨s, ms.take pp ++ sc ++ ms.drop pp, (pp, sc) :: es, _, _, _, _, rfl, hs, ⟨?_, fun n hm => ?_⟩, ⟨by rw [List.length_cons]; omega, fun e he => ?_⟩, by rw [List.length_cons]; omega⟩
    · rw [List.length_append, List.length_append, List.length_take, List.length_drop]
      omega
    · rcases List.mem_append.mp hm with hm | hm
      · rcases List.mem_append.mp hm with hm | hm
        · exact vm.2 n (List.mem_of_mem_take hm)
        · exact hn n hm
      · exact vm.2 n (List.mem_of_mem_drop hm)
    · rcases List.mem_cons.mp he with rfl | he
      · exact ⟨hsc, scv⟩
      · exact ve.2 e he
  · rintro ρ ⟨s, ms, es, s6, s7, s8, s9, rfl, hs, vm, ve, hl⟩
    exact hR _ ⟨s, ms, es, s6, s7, s8, s9, rfl, hs, vm, ve⟩
theorem has_law_grown_log (T : Tx K mg) (h_law_take : Has P w K mg base "_law_take" 2 ["store", "many"] (spS K sp_take)) (h_law_arrangement : Has P w K mg base "_law_arrangement" 3 ["store", "things"] (spS K sp_arr)) {f : Addr} {fd : FuncData} (F : Fd K "_law_grown_log" s_law_grown_log [] f fd) (gm : mg "_law_grown_log" = some (.ref f)) : Has P w K mg base "_law_grown_log" 4 ["store", "base", "steps", "odd"] (spS K sp_grown) := by
  exact has_of F gm (ok_law_grown_log T  h_law_take h_law_arrangement F) fun _ _ _ _ _ _ us hl => match us, hl with | [_, _, _, _], _ => rfl
end
end Q
/-! C19 -/
set_option Elab.async false
set_option linter.all false
set_option maxRecDepth 100000
set_option maxHeartbeats 8000000
namespace Q
open PySem PySem.Spec PyProof.Rows L2 N
section
variable {P : Program} {w : World} {K : PySem.W.Frag} {mg : Str → Option Value} {base : Heap}
/-! sections, logs and left rows changed -/
def Kinds (ds : List D) : Prop := ∀ d ∈ ds, isK 8 d = true
theorem kinds_ints {ns : List Int} (h : ∀ n ∈ ns, 0 ≤ n ∧ n < 8) : Kinds (ns.map D.int) := fun d hd => by
  obtain ⟨n, hn, rfl⟩ := List.mem_map.mp hd
  exact decide_eq_true (h n hn)
theorem kinds_app {as bs : List D} (h : Kinds as) (h' : Kinds bs) : Kinds (as ++ bs) := fun d hd => (List.mem_append.mp hd).elim (h d) (h' d)
theorem kinds_one {d : D} (h : isK 8 d = true) : Kinds [d] := fun x hx => by rw [List.mem_singleton.mp hx]; exact h
theorem kinds_cut {ds : List D} {a b : Option Int} (h : Kinds ds) : Kinds (N.cutD ds a b) := fun d hd => h d (mem_cutD hd)
theorem kinds_row {ds : List D} (h : Kinds ds) (hl : ds.length ≤ 200) : ∃ ns : List Int, ds = ns.map D.int ∧ RowV 8 ns := by
  obtain ⟨ns, rfl, hn⟩ := ints_of h
  exact ⟨ns, rfl, by rw [List.length_map] at hl; exact hl, hn⟩
theorem kinds_sec {ds : List D} (h : Kinds ds) (hl : ds.length ≤ 200) (h0 : 0 < ds.length) : ∃ s' : List Int, D.tup ds = dTup s' ∧ s' ≠ [] ∧ RowV 8 s' := by
  obtain ⟨ns, rfl, hn⟩ := kinds_row h hl
  exact ⟨ns, rfl, fun z => by rw [z] at h0; simp at h0, hn⟩
theorem cutT_len {ds : List D} {n : Int} (h : 0 ≤ n) : (N.cutD ds none (some n)).length = min n.toNat ds.length := by rw [cut_to h, List.length_take]
theorem cutF_len {ds : List D} {n : Int} (h : 0 ≤ n) (hl : n ≤ (ds.length : Nat)) : (N.cutD ds (some n) none).length = ds.length - n.toNat := by
  obtain ⟨m, rfl⟩ := Int.eq_ofNat_of_zero_le h
  rw [cut_from (by omega), List.length_drop, Int.toNat_natCast]
theorem cutM_len {ds : List D} : (N.cutD ds none (some (-1))).length = ds.length - 1 := by
  show ((ds.drop 0).take ((if (-1 : Int) < 0 then ((-1 : Int) + (ds.length : Int)).toNat else min (-1 : Int).toNat ds.length) - 0)).length = _
  rw [if_pos (by decide), List.drop_zero, List.length_take]
  omega
def sp_chsec : SS := { α := List Int, args := fun s => [dTup s], pre := fun s => s ≠ [] ∧ RowV 8 s, post := fun _ r => ∃ s' : List Int, r = dTup s' ∧ s' ≠ [] ∧ RowV 8 s', s0 := fun _ => StOk, s1 := fun _ => StOk }
/-! _law_changed_section -/
abbrev s_law_changed_section : Stmt := topS 56
abbrev n_law_changed_section : List Str := ["store", "section", "place", "way"]
theorem sc_law_changed_section : FnScope n_law_changed_section ["store", "section"] (defScope s_law_changed_section) := ⟨rfl, rfl, rfl, by decide +kernel, rfl, by decide +kernel, by decide +kernel⟩
theorem ok_law_changed_section (T : Tx K mg) (h_law_take : Has P w K mg base "_law_take" 2 ["store", "many"] (spS K sp_take)) {f : Addr} {fd : FuncData} (F : Fd K "_law_changed_section" s_law_changed_section [] f fd) : FnOk P w K mg base (L2N.CX P w) 3 f fd ["store", "section"] (spS K sp_chsec) := by
  refine fnS_ok F sc_law_changed_section sp_chsec (fun _ => rfl) (by decide) fun cdv A outer s H E g p ss hr pre hs => ?_
  refine ⟨_, (ds_cons (ds_set (i := 2) sc_law_changed_section.nd (de_callS h_law_take hr (dv 0) (da_cons (de_len T.b_len (da_cons (dv 1) da_nil)) da_nil)))
      (ds_cons (ds_set (i := 3) sc_law_changed_section.nd (de_callS h_law_take hr (dv 0) (da_cons de_int da_nil)))
      (ds_cons (ds_if (dt_eq (dv 3) de_int)
      (ds_one (ds_ret (de_catT (de_sliceT (dv 1) (do_some de_int) do_none) (de_sliceT (dv 1) do_none (do_some de_int)))))
      ds_nil)
      (ds_cons (ds_if ((dw_and (dt_eq (dv 3) de_int) (dw_and1 (dt_lt (de_len T.b_len (da_cons (dv 1) da_nil)) de_int)))).dt
      (ds_one (ds_ret (de_catT (dv 1) (de_tup (da_cons (de_callS h_law_take hr (dv 0) (da_cons de_int da_nil)) da_nil)))))
      ds_nil)
      (ds_cons (ds_if ((dw_and (dt_eq (dv 3) de_int) (dw_and1 (dt_gt (de_len T.b_len (da_cons (dv 1) da_nil)) de_int)))).dt
      (ds_one (ds_ret (de_sliceT (dv 1) do_none (do_some (de_neg de_int)))))
      ds_nil)
      (ds_one (ds_ret (de_catT (de_catT (de_sliceT (dv 1) do_none (do_some (dv 2))) (de_tup (da_cons (de_callS h_law_take hr (dv 0) (da_cons de_int da_nil)) da_nil))) (de_sliceT (dv 1) (do_some (de_add (dv 2) de_int)) do_none))))))))), ?_⟩
  change List Int at g
  obtain ⟨ne, v⟩ := pre
  have hl : ((g.map D.int).length : Nat) = g.length := List.length_map _
  have g0 := List.length_pos_iff.mpr ne
  have vl := v.1
  have kg := kinds_ints v.2
  refine ⟨((g.map D.int).length : Int), rfl, hs, tk (by omega), fun d s1 hd hs => ?_⟩
  obtain ⟨pz, rfl, p0, p1⟩ := hd
  refine ⟨(4 : Int), rfl, hs, tk (by omega), fun d s1 hd hs => ?_⟩
  obtain ⟨w, rfl, w0, w1⟩ := hd
  show if decide (w = 0) = true then _ else _
  refine ite2 (fun h => ?_) (fun h => ?_)
  · have l1 : (N.cutD (g.map D.int) (some 1) none).length = (g.map D.int).length - (1 : Int).toNat := cutF_len (by decide) (by omega)
    have l2 : (N.cutD (g.map D.int) none (some 1)).length = min (1 : Int).toNat (g.map D.int).length := cutT_len (by decide)
    change _ = (g.map D.int).length - 1 at l1
    change _ = min 1 (g.map D.int).length at l2
    exact ⟨_, rfl, _, rfl, by rw [l1, l2]; omega, kinds_sec (kinds_app (kinds_cut kg) (kinds_cut kg)) (by rw [List.length_append, l1, l2]; omega) (by rw [List.length_append, l1, l2]; omega), _, rfl, hs⟩
  dsimp only [rNx]
  refine sifx (w = 1 ∧ g.length < 200) (fun A' F' hA hF => ?_) (fun h => ?_) (fun h => ?_)
  · show if decide (w = 1) = true then _ else _
    refine ite2 (fun h => ?_) (fun h => hF fun z => h (decide_eq_true z.1))
    show if decide (((g.map D.int).length : Int) < 200) = true then _ else _
    rw [hl]
    refine ite2 (fun h2 => hA ⟨of_decide_eq_true h, ?_⟩) (fun h2 => hF fun z => h2 (decide_eq_true (by omega)))
    have := of_decide_eq_true h2
    omega
  · refine ⟨(8 : Int), rfl, hs, tk (by omega), fun d s1 hd hs => ?_⟩
    have hd := isK_take (by decide) hd
    exact ⟨by show (g.map D.int).length + 1 ≤ 16777216; omega, kinds_sec (kinds_app kg (kinds_one hd)) (by rw [List.length_append]; show (g.map D.int).length + 1 ≤ 200; omega) (by rw [List.length_append]; omega), _, rfl, hs⟩
  try dsimp only
  refine sifx (w = 2 ∧ 1 < g.length) (fun A' F' hA hF => ?_) (fun h => ?_) (fun h => ?_)
  · show if decide (w = 2) = true then _ else _
    refine ite2 (fun h => ?_) (fun h => hF fun z => h (decide_eq_true z.1))
    show if decide ((1 : Int) < ((g.map D.int).length : Int)) = true then _ else _
    rw [hl]
    refine ite2 (fun h2 => hA ⟨of_decide_eq_true h, ?_⟩) (fun h2 => hF fun z => h2 (decide_eq_true (by omega)))
    have := of_decide_eq_true h2
    omega
  · have l1 : (N.cutD (g.map D.int) none (some (-1))).length = (g.map D.int).length - 1 := cutM_len
    exact ⟨_, rfl, kinds_sec (kinds_cut kg) (by rw [l1]; omega) (by rw [l1]; omega), _, rfl, hs⟩
  have l1 : (N.cutD (g.map D.int) none (some pz)).length = min pz.toNat (g.map D.int).length := cutT_len p0
  have l2 : (N.cutD (g.map D.int) (some (pz + 1)) none).length = (g.map D.int).length - (pz + 1).toNat := cutF_len (by omega) (by omega)
  refine ⟨_, rfl, ?_⟩
  refine ⟨(8 : Int), rfl, hs, tk (by omega), fun d s1 hd hs => ?_⟩
  have hd := isK_take (by decide) hd
  have l3 : (N.cutD (g.map D.int) none (some pz) ++ [d]).length = min pz.toNat (g.map D.int).length + 1 := by rw [List.length_append, l1]; rfl
  refine ⟨by show _ + 1 ≤ 16777216; rw [l1]; omega, _, rfl, by rw [l3, l2]; omega, kinds_sec (kinds_app (kinds_app (kinds_cut kg) (kinds_one hd)) (kinds_cut kg)) (by rw [List.length_append, l3, l2]; omega) (by rw [List.length_append, l3, l2]; omega), _, rfl, hs⟩
theorem has_law_changed_section (T : Tx K mg) (h_law_take : Has P w K mg base "_law_take" 2 ["store", "many"] (spS K sp_take)) {f : Addr} {fd : FuncData} (F : Fd K "_law_changed_section" s_law_changed_section [] f fd) (gm : mg "_law_changed_section" = some (.ref f)) : Has P w K mg base "_law_changed_section" 3 ["store", "section"] (spS K sp_chsec) := by
  exact has_of F gm (ok_law_changed_section T  h_law_take F) fun _ _ _ _ _ _ us hl => match us, hl with | [_, _], _ => rfl
def EntOk (d : D) : Prop := ∃ e : Nat × List Int, d = entD e ∧ e.2 ≠ [] ∧ RowV 8 e.2
def Ents (ds : List D) : Prop := ∀ d ∈ ds, EntOk d
theorem ents_log {es : List (Nat × List Int)} (h : LogV es) : Ents (es.map entD) := fun d hd => by
  obtain ⟨e, he, rfl⟩ := List.mem_map.mp hd
  exact ⟨e, rfl, h.2 e he⟩
theorem ents_of : ∀ {ds : List D}, Ents ds → ∃ es : List (Nat × List Int), ds = es.map entD ∧ ∀ e ∈ es, e.2 ≠ [] ∧ RowV 8 e.2
  | [], _ => ⟨[], rfl, fun e he => by simp at he⟩
  | d :: ds, h => by
    obtain ⟨e, rfl, he⟩ := h d (List.mem_cons_self ..)
    obtain ⟨es, rfl, hes⟩ := ents_of (ds := ds) fun x hx => h x (List.mem_cons_of_mem _ hx)
    refine ⟨e :: es, rfl, fun x hx => ?_⟩
    rcases List.mem_cons.mp hx with rfl | hx
    · exact he
    · exact hes x hx
theorem ents_set {ds : List D} {j : Nat} {d : D} (h : Ents ds) (hd : EntOk d) : Ents (ds.set j d) := fun x hx => by
  rcases List.mem_or_eq_of_mem_set hx with hx | rfl
  · exact h x hx
  · exact hd
theorem ents_app {as bs : List D} (h : Ents as) (h' : Ents bs) : Ents (as ++ bs) := fun d hd => (List.mem_append.mp hd).elim (h d) (h' d)
theorem ents_cut {ds : List D} {a b : Option Int} (h : Ents ds) : Ents (N.cutD ds a b) := fun d hd => h d (mem_cutD hd)
theorem ents_one {d : D} (h : EntOk d) : Ents [d] := fun x hx => by rw [List.mem_singleton.mp hx]; exact h
theorem ents_ins {ds : List D} {j : Nat} {d : D} (h : Ents ds) (hd : EntOk d) : Ents (ds.take j ++ [d] ++ ds.drop j) := ents_app (ents_app (fun x hx => h x (List.mem_of_mem_take hx)) (ents_one hd)) fun x hx => h x (List.mem_of_mem_drop hx)
def sp_chlog : SS := { α := List (Nat × List Int), args := fun es => [.lst (es.map entD)], pre := fun es => es ≠ [] ∧ LogV es, post := fun _ r => ∃ es', r = .lst (es'.map entD) ∧ LogV es', s0 := fun _ => StOk, s1 := fun _ => StOk }
/-! _law_changed_log -/
abbrev s_law_changed_log : Stmt := topS 57
abbrev n_law_changed_log : List Str := ["store", "log", "at", "p", "section", "way"]
theorem sc_law_changed_log : FnScope n_law_changed_log ["store", "log"] (defScope s_law_changed_log) := ⟨rfl, rfl, rfl, by decide +kernel, rfl, by decide +kernel, by decide +kernel⟩
theorem ok_law_changed_log (T : Tx K mg) (h_law_take : Has P w K mg base "_law_take" 2 ["store", "many"] (spS K sp_take)) (h_law_changed_section : Has P w K mg base "_law_changed_section" 3 ["store", "section"] (spS K sp_chsec)) {f : Addr} {fd : FuncData} (F : Fd K "_law_changed_log" s_law_changed_log [] f fd) : FnOk P w K mg base (L2N.CX P w) 4 f fd ["store", "log"] (spS K sp_chlog) := by
  refine fnS_ok F sc_law_changed_log sp_chlog (fun _ => rfl) (by decide) fun cdv A outer s H E g p ss hr pre hs => ?_
  refine ⟨_, (ds_cons (ds_setO (i := 1) sc_law_changed_log.nd (dn_list T.b_list (da_cons (dv 1) da_nil)))
      (ds_cons (ds_set (i := 2) sc_law_changed_log.nd (de_callS h_law_take (hr.mono (by decide : 2 ≤ 3)) (dv 0) (da_cons (de_len T.b_len (da_cons (dv 1) da_nil)) da_nil)))
      (ds_cons (ds_tup2 (i := 3) (j := 4) sc_law_changed_log.nd (de_ix (dv 1) (dv 2)))
      (ds_cons (ds_set (i := 5) sc_law_changed_log.nd (de_callS h_law_take (hr.mono (by decide : 2 ≤ 3)) (dv 0) (da_cons de_int da_nil)))
      (ds_cons (ds_if (dt_eq (dv 5) de_int)
      (ds_one (ds_setIx (de_tup (da_cons (de_add (dv 3) de_int) (da_cons (dv 4) da_nil))) (dv 1) (dv 2)))
      (ds_one (ds_if (dt_eq (dv 5) de_int)
      (ds_one (ds_setIx (de_tup (da_cons (de_max rfl T.b_max (da_cons de_int (da_cons (de_sub (dv 3) de_int) da_nil))) (da_cons (dv 4) da_nil))) (dv 1) (dv 2)))
      (ds_one (ds_if (dt_eq (dv 5) de_int)
      (ds_one (ds_setIx (de_tup (da_cons (de_pow de_int de_int) (da_cons (dv 4) da_nil))) (dv 1) (dv 2)))
      (ds_one (ds_if (dt_eq (dv 5) de_int)
      (ds_one (ds_expr (de_popI (dv 1) (dv 2))))
      (ds_one (ds_if (dt_eq (dv 5) de_int)
      (ds_one (ds_expr (de_insert (dv 1) (dv 2) (de_ix (dv 1) (dv 2)))))
      (ds_one (ds_if (dt_eq (dv 5) de_int)
      (ds_one (ds_setO (i := 1) sc_law_changed_log.nd (dn_cat (de_new (dn_cat (de_new (dn_cat (de_new (dn_slice (dv 1) do_none (do_some (dv 2)))) (de_new (dn_slice (dv 1) (do_some (de_add (dv 2) de_int)) (do_some (de_add (dv 2) de_int)))))) (de_new (dn_lst (da_cons (de_ix (dv 1) (dv 2)) da_nil))))) (de_new (dn_slice (dv 1) (do_some (de_add (dv 2) de_int)) do_none)))))
      (ds_one (ds_setIx (de_tup (da_cons (dv 3) (da_cons (de_callS h_law_changed_section hr (dv 0) (da_cons (dv 4) da_nil)) da_nil))) (dv 1) (dv 2))))))))))))))
      (ds_one (ds_ret (de_new (dn_slice (dv 1) do_none (do_some de_int)))))))))), ?_⟩
  change List (Nat × List Int) at g
  obtain ⟨ne, v⟩ := pre
  change LogV g at v
  have hl : ((g.map entD).length : Nat) = g.length := List.length_map _
  have g0 := List.length_pos_iff.mpr ne
  have vl := v.1
  have eg := ents_log v
  intro q
  try dsimp only
  refine ⟨((g.map entD).length : Int), rfl, hs, tk (by omega), fun d s1 hd hs => ?_⟩
  obtain ⟨az, rfl, a0, a1⟩ := hd
  obtain ⟨at', rfl⟩ := Int.eq_ofNat_of_zero_le a0
  have hat : at' < g.length := by omega
  have hx : g[at']? = some g[at'] := List.getElem?_eq_getElem hat
  have hxd : (g.map entD)[at']? = some (entD g[at']) := by rw [List.getElem?_map, hx]; rfl
  have hix : ixN (g.map entD).length (at' : Int) = some at' := by rw [ixN_nat (by omega) (by omega), Int.toNat_natCast]
  have hxa : atI (g.map entD) (at' : Int) = some (entD g[at']) := by
    unfold atI
    rw [hix]
    exact hxd
  obtain ⟨e1, e2⟩ := v.2 _ (List.mem_of_getElem? hx)
  have eo : EntOk (entD g[at']) := ⟨_, rfl, e1, e2⟩
  generalize g[at'] = en at hx hxd hxa e1 e2 eo
  obtain ⟨pp, sec⟩ := en
  refine ⟨_, hxa, ?_⟩
  dsimp only [kD, kP, entD]
  refine ⟨(8 : Int), rfl, hs, tk (by omega), fun d s2 hd hs => ?_⟩
  obtain ⟨w, rfl, w0, w1⟩ := hd
  dsimp only [kD]
  have eo2 : ∀ i : Int, 0 ≤ i → EntOk (.tup [.int i, dTup sec]) := fun i hi => ⟨(i.toNat, sec), by unfold entD; rw [show (((i.toNat, sec).1 : Nat) : Int) = i from Int.toNat_of_nonneg hi], e1, e2⟩
  refine seq_join (fun ρ => ∃ (s : List D) (q : Addr) (L : List D) (s2 s3 s4 s5 : Slot), ρ = [.own p s, .own q L, s2, s3, s4, s5] ∧ StOk s ∧ Ents L) ?_ (fun R hR => ?_)
  · rintro ρ ⟨s, q, L, s2, s3, s4, s5, rfl, hs, hL⟩
    refine ⟨_, rfl, ?_⟩
    obtain ⟨es', e, hes⟩ := ents_of (ents_cut (a := none) (b := some 200) hL)
    have l1 : (N.cutD L none (some 200)).length = min (200 : Int).toNat L.length := cutT_len (by decide)
    change _ = min 200 L.length at l1
    refine ⟨⟨es', congrArg D.lst e, ?_, hes⟩, s, rfl, hs⟩
    rw [e, List.length_map] at l1
    omega
  have fin : ∀ (s : List D) (q : Addr) (L : List D) (s2 s3 s4 s5 : Slot), StOk s → Ents L → R [.own p s, .own q L, s2, s3, s4, s5] := fun s q L s2 s3 s4 s5 hs hL => hR _ ⟨s, q, L, s2, s3, s4, s5, rfl, hs, hL⟩
  show if decide (w = 0) = true then _ else _
  refine ite2 (fun h => ⟨at', hix, fin _ _ _ _ _ _ _ hs (ents_set eg (eo2 _ (by omega)))⟩) (fun h => ?_)
  show if decide (w = 1) = true then _ else _
  refine ite2 (fun h => ⟨at', hix, fin _ _ _ _ _ _ _ hs (ents_set eg (eo2 _ (by omega)))⟩) (fun h => ?_)
  show if decide (w = 2) = true then _ else _
  refine ite2 (fun h => ⟨cp1040, at', hix, fin _ _ _ _ _ _ _ hs (ents_set eg (eo2 _ (by decide)))⟩) (fun h => ?_)
  show if decide (w = 3) = true then _ else _
  refine ite2 (fun h => ⟨at', _, by omega, rfl, hxd, by omega, fin _ _ _ _ _ _ _ hs fun d hd => eg d (List.mem_of_mem_eraseIdx hd)⟩) (fun h => ?_)
  show if decide (w = 4) = true then _ else _
  refine ite2 (fun h => ⟨_, hxa, by omega, by omega, by omega, fin _ _ _ _ _ _ _ hs (ents_ins eg eo)⟩) (fun h => ?_)
  show if decide (w = 5) = true then _ else _
  refine ite2 (fun h => ?_) (fun h => ?_)
  · have c1 : ∀ a b, (N.cutD (g.map entD) a b).length ≤ 200 := fun a b => by
      have := cutD_len (ds := g.map entD) (a := a) (b := b)
      omega
    have d1 := c1 none (some (at' : Int))
    have d2 := c1 (some ((at' : Int) + 1)) (some ((at' : Int) + 2))
    have d3 := c1 (some ((at' : Int) + 2)) none
    refine ⟨_, rfl, _, rfl, ?_⟩
    refine ⟨by omega, _, hxa, ?_⟩
    refine ⟨by rw [List.length_append]; show _ + 1 ≤ 16777216; omega, _, rfl, ?_⟩
    refine ⟨by rw [List.length_append, List.length_append]; show _ + 1 + _ ≤ 16777216; omega, fun q2 => fin _ _ _ _ _ _ _ hs (ents_app (ents_app (ents_app (ents_cut eg) (ents_cut eg)) (ents_one eo)) (ents_cut eg))⟩
  · refine ⟨sec, rfl, hs, ⟨e1, e2⟩, fun d s3 hd hs => ?_⟩
    obtain ⟨s', rfl, n1, n2⟩ := hd
    exact ⟨at', hix, fin _ _ _ _ _ _ _ hs (ents_set eg ⟨(pp, s'), rfl, n1, n2⟩)⟩
theorem has_law_changed_log (T : Tx K mg) (h_law_take : Has P w K mg base "_law_take" 2 ["store", "many"] (spS K sp_take)) (h_law_changed_section : Has P w K mg base "_law_changed_section" 3 ["store", "section"] (spS K sp_chsec)) {f : Addr} {fd : FuncData} (F : Fd K "_law_changed_log" s_law_changed_log [] f fd) (gm : mg "_law_changed_log" = some (.ref f)) : Has P w K mg base "_law_changed_log" 4 ["store", "log"] (spS K sp_chlog) := by
  exact has_of F gm (ok_law_changed_log T  h_law_take h_law_changed_section F) fun _ _ _ _ _ _ us hl => match us, hl with | [_, _], _ => rfl
def sp_chleft : SS := { α := List Int, args := fun s => [.lst (s.map D.int)], pre := fun s => RowV 8 s ∧ s.length ≤ 100, post := fun _ r => ∃ s' : List Int, r = .lst (s'.map D.int) ∧ RowV 8 s', s0 := fun _ => StOk, s1 := fun _ => StOk }
theorem kinds_lst {ds : List D} (h : Kinds ds) (hl : ds.length ≤ 200) : ∃ s' : List Int, D.lst ds = .lst (s'.map D.int) ∧ RowV 8 s' := by
  obtain ⟨ns, rfl, hn⟩ := kinds_row h hl
  exact ⟨ns, rfl, hn⟩
/-! _law_changed_left -/
abbrev s_law_changed_left : Stmt := topS 58
abbrev n_law_changed_left : List Str := ["store", "left", "at", "way"]
theorem sc_law_changed_left : FnScope n_law_changed_left ["store", "left"] (defScope s_law_changed_left) := ⟨rfl, rfl, rfl, by decide +kernel, rfl, by decide +kernel, by decide +kernel⟩
theorem ok_law_changed_left (T : Tx K mg) (h_law_take : Has P w K mg base "_law_take" 2 ["store", "many"] (spS K sp_take)) {f : Addr} {fd : FuncData} (F : Fd K "_law_changed_left" s_law_changed_left [] f fd) : FnOk P w K mg base (L2N.CX P w) 3 f fd ["store", "left"] (spS K sp_chleft) := by
  refine fnS_ok F sc_law_changed_left sp_chleft (fun _ => rfl) (by decide) fun cdv A outer s H E g p ss hr pre hs => ?_
  refine ⟨_, (ds_cons (ds_set (i := 2) sc_law_changed_left.nd (de_callS h_law_take hr (dv 0) (da_cons (de_add (de_len T.b_len (da_cons (dv 1) da_nil)) de_int) da_nil)))
      (ds_cons (ds_set (i := 3) sc_law_changed_left.nd (de_callS h_law_take hr (dv 0) (da_cons de_int da_nil)))
      (ds_cons (ds_if ((dw_and (dt_eq (dv 3) de_int) (dw_and1 (dt_lt (de_len T.b_len (da_cons (dv 1) da_nil)) de_int)))).dt
      (ds_one (ds_ret (de_new (dn_cat (de_new (dn_cat (de_new (dn_slice (dv 1) do_none (do_some (dv 2)))) (de_new (dn_lst (da_cons (de_callS h_law_take hr (dv 0) (da_cons de_int da_nil)) da_nil))))) (de_new (dn_slice (dv 1) (do_some (dv 2)) do_none))))))
      ds_nil)
      (ds_cons (ds_if (dt_eq (dv 3) de_int)
      (ds_one (ds_ret (de_new (dn_cat (de_new (dn_slice (dv 1) do_none (do_some (dv 2)))) (de_new (dn_slice (dv 1) (do_some (de_add (dv 2) de_int)) do_none))))))
      ds_nil)
      (ds_one (ds_ret (de_new (dn_cat (de_new (dn_cat (de_new (dn_slice (dv 1) do_none (do_some (dv 2)))) (de_new (dn_lst (da_cons (de_callS h_law_take hr (dv 0) (da_cons de_int da_nil)) da_nil))))) (de_new (dn_slice (dv 1) (do_some (de_add (dv 2) de_int)) do_none)))))))))), ?_⟩
  change List Int at g
  obtain ⟨v, v100⟩ := pre
  change RowV 8 g at v
  have hl : ((g.map D.int).length : Nat) = g.length := List.length_map _
  have vl := v.1
  have kg := kinds_ints v.2
  refine ⟨((g.map D.int).length : Int) + 1, rfl, hs, tk (by omega), fun d s1 hd hs => ?_⟩
  obtain ⟨pz, rfl, p0, p1⟩ := hd
  have p1 : pz ≤ ((g.map D.int).length : Int) := by omega
  refine ⟨(3 : Int), rfl, hs, tk (by omega), fun d s1 hd hs => ?_⟩
  obtain ⟨w, rfl, w0, w1⟩ := hd
  have l1 : (N.cutD (g.map D.int) none (some pz)).length = min pz.toNat (g.map D.int).length := cutT_len p0
  have l2 : (N.cutD (g.map D.int) (some pz) none).length = (g.map D.int).length - pz.toNat := cutF_len (by omega) (by omega)
  have l3 : (N.cutD (g.map D.int) (some (pz + 1)) none).length ≤ (g.map D.int).length - pz.toNat := by
    by_cases h : pz + 1 ≤ ((g.map D.int).length : Int)
    · rw [cutF_len (by omega) h]
      omega
    · obtain ⟨m, rfl⟩ := Int.eq_ofNat_of_zero_le p0
      unfold N.cutD
      rw [List.length_take, List.length_drop, show ((m : Nat) : Int) + 1 = ((m + 1 : Nat) : Int) from by omega, HT.sIx_nat, HT.sIx_none]
      omega
  have l4 : ∀ d : D, (N.cutD (g.map D.int) none (some pz) ++ [d]).length = min pz.toNat (g.map D.int).length + 1 := fun d => by rw [List.length_append, l1]; rfl
  dsimp only [kD]
  refine sifx (w = 0 ∧ g.length < 200) (fun A' F' hA hF => ?_) (fun h => ?_) (fun h => ?_)
  · show if decide (w = 0) = true then _ else _
    refine ite2 (fun h => ?_) (fun h => hF fun z => h (decide_eq_true z.1))
    show if decide (((g.map D.int).length : Int) < 200) = true then _ else _
    rw [hl]
    refine ite2 (fun h2 => hA ⟨of_decide_eq_true h, ?_⟩) (fun h2 => hF fun z => h2 (decide_eq_true (by omega)))
    have := of_decide_eq_true h2
    omega
  · refine ⟨_, rfl, ?_⟩
    refine ⟨(8 : Int), rfl, hs, tk (by omega), fun d s1 hd hs => ?_⟩
    have hd := isK_take (by decide) hd
    refine ⟨by show _ + 1 ≤ 16777216; rw [l1]; omega, _, rfl, by rw [l4, l2]; omega, kinds_lst (kinds_app (kinds_app (kinds_cut kg) (kinds_one hd)) (kinds_cut kg)) (by rw [List.length_append, l4, l2]; omega), _, rfl, hs⟩
  show if decide (w = 1) = true then _ else _
  refine ite2 (fun h => ?_) (fun h => ?_)
  · exact ⟨_, rfl, _, rfl, by rw [l1]; omega, kinds_lst (kinds_app (kinds_cut kg) (kinds_cut kg)) (by rw [List.length_append, l1]; omega), _, rfl, hs⟩
  dsimp only [rNx]
  refine ⟨_, rfl, ?_⟩
  refine ⟨(8 : Int), rfl, hs, tk (by omega), fun d s1 hd hs => ?_⟩
  have hd := isK_take (by decide) hd
  refine ⟨by show _ + 1 ≤ 16777216; rw [l1]; omega, _, rfl, by rw [l4]; omega, kinds_lst (kinds_app (kinds_app (kinds_cut kg) (kinds_one hd)) (kinds_cut kg)) ?_, _, rfl, hs⟩
  rw [List.length_append, l4]
  omega
theorem has_law_changed_left (T : Tx K mg) (h_law_take : Has P w K mg base "_law_take" 2 ["store", "many"] (spS K sp_take)) {f : Addr} {fd : FuncData} (F : Fd K "_law_changed_left" s_law_changed_left [] f fd) (gm : mg "_law_changed_left" = some (.ref f)) : Has P w K mg base "_law_changed_left" 3 ["store", "left"] (spS K sp_chleft) := by
  exact has_of F gm (ok_law_changed_left T  h_law_take F) fun _ _ _ _ _ _ us hl => match us, hl with | [_, _], _ => rfl
end
end Q
/-! C20 -/
set_option Elab.async false
set_option linter.all false
set_option maxRecDepth 100000
set_option maxHeartbeats 8000000
namespace Q
open PySem PySem.Spec PyProof.Rows L2 N
section
variable {P : Program} {w : World} {K : PySem.W.Frag} {mg : Str → Option Value} {base : Heap}
/-! a case; wrong logs -/
def sp_kcase : SS := { α := Int × Int, args := fun g => [.int g.1, .int g.2], pre := fun g => 0 ≤ g.2 ∧ g.2 ≤ 200, post := fun _ r => r = .bl true, s0 := fun _ => StOk, s1 := fun _ => StOk }
/-! _law_case_right -/
abbrev s_law_case_right : Stmt := topS 61
abbrev n_law_case_right : List Str := ["store", "kind_of", "steps", "left", "row", "log"]
theorem sc_law_case_right : FnScope n_law_case_right ["store", "kind_of", "steps"] (defScope s_law_case_right) := ⟨rfl, rfl, rfl, by decide +kernel, rfl, by decide +kernel, by decide +kernel⟩
theorem ok_law_case_right (T : Tx K mg) (h_law_row : Has P w K mg base "_law_row" 4 ["store", "many", "top"] (spS K sp_row)) (h_law_short_row : Has P w K mg base "_law_short_row" 4 ["store", "lot"] (spS K sp_short_row)) (h_law_lot : Has P w K mg base "_law_lot" 3 ["store", "many"] (spS K sp_lot)) (h_law_grown_log : Has P w K mg base "_law_grown_log" 4 ["store", "base", "steps", "odd"] (spS K sp_grown)) (h_law_take : Has P w K mg base "_law_take" 2 ["store", "many"] (spS K sp_take)) (h_law_changed_log : Has P w K mg base "_law_changed_log" 4 ["store", "log"] (spS K sp_chlog)) (h_law_changed_left : Has P w K mg base "_law_changed_left" 3 ["store", "left"] (spS K sp_chleft)) (h_law_judged : Has P w K mg base "_law_judged" 7 ["store", "row", "log", "left"] (spS K sp_judged)) {f : Addr} {fd : FuncData} (F : Fd K "_law_case_right" s_law_case_right [] f fd) : FnOk P w K mg base (L2N.CX P w) 8 f fd ["store", "kind_of", "steps"] (spS K sp_kcase) := by
  refine fnS_ok F sc_law_case_right sp_kcase (fun _ => rfl) (by decide) fun cdv A outer s H E g p ss hr pre hs => ?_
  refine ⟨_, (ds_cons (ds_set (i := 3) sc_law_case_right.nd (de_callS h_law_row (hr.mono (by decide : 4 ≤ 7)) (dv 0) (da_cons de_int (da_cons de_int da_nil))))
      (ds_cons (ds_if (dt_ne (dv 1) de_int)
      (ds_one (ds_set (i := 3) sc_law_case_right.nd (de_callS h_law_short_row (hr.mono (by decide : 4 ≤ 7)) (dv 0) (da_cons (de_callS h_law_lot (hr.mono (by decide : 3 ≤ 7)) (dv 0) (da_cons de_int da_nil)) da_nil))))
      ds_nil)
      (ds_cons (ds_tup2 (i := 4) (j := 5) sc_law_case_right.nd (de_callS h_law_grown_log (hr.mono (by decide : 4 ≤ 7)) (dv 0) (da_cons (dv 3) (da_cons (dv 2) (da_cons (de_if (dt_eq (dv 1) de_int) (de_callS h_law_take (hr.mono (by decide : 2 ≤ 7)) (dv 0) (da_cons (dv 2) da_nil)) (de_neg de_int)) da_nil)))))
      (ds_cons (ds_if ((dw_and (dt_eq (dv 1) de_int) (dw_and1 (dt_gt (de_len T.b_len (da_cons (dv 5) da_nil)) de_int)))).dt
      (ds_one (ds_set (i := 5) sc_law_case_right.nd (de_callS h_law_changed_log (hr.mono (by decide : 4 ≤ 7)) (dv 0) (da_cons (dv 5) da_nil))))
      ds_nil)
      (ds_cons (ds_if (dt_eq (dv 1) de_int)
      (ds_one (ds_set (i := 3) sc_law_case_right.nd (de_callS h_law_changed_left (hr.mono (by decide : 3 ≤ 7)) (dv 0) (da_cons (dv 3) da_nil))))
      ds_nil)
      (ds_one (ds_ret (de_callS h_law_judged hr (dv 0) (da_cons (dv 4) (da_cons (dv 5) (da_cons (dv 3) da_nil))))))))))), ?_⟩
  obtain ⟨ko, steps⟩ := g
  obtain ⟨st0, st1⟩ := pre
  change 0 ≤ steps at st0
  change steps ≤ 200 at st1
  refine ⟨((8 : Int), 14), rfl, hs, ⟨by show (1 : Int) ≤ 8; decide, by show (8 : Int) ≤ 64; decide, by show (0 : Int) ≤ 14; decide, by show (14 : Int) ≤ 1000; decide⟩, fun d s2 hd hs => ?_⟩
  obtain ⟨ds, rfl, hl, hd⟩ := hd
  obtain ⟨fs, rfl, hf⟩ := ints_of (m := 8) hd
  have hl : ((fs.map D.int).length : Int) ≤ 14 := hl
  rw [List.length_map] at hl
  dsimp only [kD]
  refine join1 (fun ρ => ∃ (s : List D) (ls : List Int) (s4 s5 : Slot), ρ = [.own p s, .v (.int ko), .v (.int steps), .v (.lst (ls.map D.int)), s4, s5] ∧ StOk s ∧ RowV 8 ls ∧ ls.length ≤ 24) (fun R' hR => ?_) ?_
  · show if (!decide (ko = 1)) = true then _ else _
    refine ite2 (fun h => ?_) (fun h => hR _ ⟨s2, fs, _, _, rfl, hs, ⟨by omega, hf⟩, by omega⟩)
    refine ⟨(8 : Int), rfl, hs, ⟨by show (1 : Int) ≤ 8; decide, by show (8 : Int) ≤ 64; decide⟩, fun d s3 hd hs => ?_⟩
    obtain ⟨lt, rfl, hlt⟩ := hd
    refine ⟨(true, lt), rfl, hs, lot_pre hlt, fun d s4 hd hs => ?_⟩
    obtain ⟨sm, rfl, hsm⟩ := hd
    obtain ⟨vs, sl⟩ := short_row hlt hsm
    exact hR _ ⟨s4, sm, _, _, rfl, hs, vs, sl⟩
  rintro ρ ⟨s, ls, s4, s5, rfl, hs, vl, l24⟩
  have grown : ∀ (s : List D) (odd : Int) (P : D → List D → Prop), StOk s → (∀ ms es s', RowV 8 ms → LogV es → StOk s' → P (.tup [.lst (ms.map D.int), .lst (es.map entD)]) s') → sp_grown.s0 (ls, steps, odd) s ∧ sp_grown.pre (ls, steps, odd) ∧ ∀ d s', sp_grown.post (ls, steps, odd) d → sp_grown.s1 (ls, steps, odd) s' → P d s' := fun s odd P hs h => ⟨hs, ⟨vl, st0, st1⟩, fun d s' hd hs' => by obtain ⟨ms, es, rfl, v1, v2⟩ := hd; exact h ms es s' v1 v2 hs'⟩
  refine join1 (fun ρ => ∃ (s : List D) (ms : List Int) (es : List (Nat × List Int)), ρ = [.own p s, .v (.int ko), .v (.int steps), .v (.lst (ls.map D.int)), .v (.lst (ms.map D.int)), .v (.lst (es.map entD))] ∧ StOk s ∧ RowV 8 ms ∧ LogV es) (fun R' hR => ?_) ?_
  · show if decide (ko = 2) = true then _ else _
    refine ite2 (fun h => ?_) (fun h => ?_)
    · refine ⟨steps, rfl, hs, tk (by omega), fun d s2 hd hs => ?_⟩
      obtain ⟨odd, rfl, o0, o1⟩ := hd
      refine ⟨(ls, steps, odd), rfl, ?_⟩
      exact grown _ _ _ hs fun ms es s' v1 v2 hs' => hR _ ⟨s', ms, es, rfl, hs', v1, v2⟩
    · refine ⟨(ls, steps, -1), rfl, ?_⟩
      exact grown _ _ _ hs fun ms es s' v1 v2 hs' => hR _ ⟨s', ms, es, rfl, hs', v1, v2⟩
  rintro ρ ⟨s, ms, es, rfl, hs, vm, ve⟩
  have eel : ((es.map entD).length : Nat) = es.length := List.length_map _
  try dsimp only
  refine join1 (fun ρ => ∃ (s : List D) (es : List (Nat × List Int)), ρ = [.own p s, .v (.int ko), .v (.int steps), .v (.lst (ls.map D.int)), .v (.lst (ms.map D.int)), .v (.lst (es.map entD))] ∧ StOk s ∧ LogV es) (fun R' hR => ?_) ?_
  · refine rif (ko = 3 ∧ es ≠ []) (fun A' F' hA hF => ?_) (fun h => ?_) (fun h => hR _ ⟨s, es, rfl, hs, ve⟩)
    · show if decide (ko = 3) = true then _ else _
      refine ite2 (fun h => ?_) (fun h => hF fun z => h (decide_eq_true z.1))
      show if decide ((0 : Int) < ((es.map entD).length : Int)) = true then _ else _
      rw [eel]
      refine ite2 (fun h2 => hA ⟨of_decide_eq_true h, fun z => ?_⟩) (fun h2 => hF fun z => h2 (decide_eq_true (by have := List.length_pos_iff.mpr z.2; omega)))
      rw [z] at h2
      exact absurd h2 (by decide)
    · refine ⟨es, rfl, hs, ⟨h.2, ve⟩, fun d s2 hd hs => ?_⟩
      obtain ⟨es', rfl, v'⟩ := hd
      exact hR _ ⟨s2, es', rfl, hs, v'⟩
  clear ve eel
  rintro ρ ⟨s, es, rfl, hs, ve⟩
  try dsimp only
  refine join1 (fun ρ => ∃ (s : List D) (ls : List Int), ρ = [.own p s, .v (.int ko), .v (.int steps), .v (.lst (ls.map D.int)), .v (.lst (ms.map D.int)), .v (.lst (es.map entD))] ∧ StOk s ∧ RowV 8 ls) (fun R' hR => ?_) ?_
  · show if decide (ko = 4) = true then _ else _
    refine ite2 (fun h => ?_) (fun h => hR _ ⟨s, ls, rfl, hs, vl⟩)
    refine ⟨ls, rfl, hs, ⟨vl, by omega⟩, fun d s2 hd hs => ?_⟩
    obtain ⟨ls', rfl, v'⟩ := hd
    exact hR _ ⟨s2, ls', rfl, hs, v'⟩
  clear vl l24 grown
  rintro ρ ⟨s, ls, rfl, hs, vl⟩
  refine ⟨(ms, es, ls), rfl, hs, ⟨vm, vl, ve⟩, fun d s2 hd hs => ?_⟩
  exact ⟨hd, _, rfl, hs⟩
theorem has_law_case_right (T : Tx K mg) (h_law_row : Has P w K mg base "_law_row" 4 ["store", "many", "top"] (spS K sp_row)) (h_law_short_row : Has P w K mg base "_law_short_row" 4 ["store", "lot"] (spS K sp_short_row)) (h_law_lot : Has P w K mg base "_law_lot" 3 ["store", "many"] (spS K sp_lot)) (h_law_grown_log : Has P w K mg base "_law_grown_log" 4 ["store", "base", "steps", "odd"] (spS K sp_grown)) (h_law_take : Has P w K mg base "_law_take" 2 ["store", "many"] (spS K sp_take)) (h_law_changed_log : Has P w K mg base "_law_changed_log" 4 ["store", "log"] (spS K sp_chlog)) (h_law_changed_left : Has P w K mg base "_law_changed_left" 3 ["store", "left"] (spS K sp_chleft)) (h_law_judged : Has P w K mg base "_law_judged" 7 ["store", "row", "log", "left"] (spS K sp_judged)) {f : Addr} {fd : FuncData} (F : Fd K "_law_case_right" s_law_case_right [] f fd) (gm : mg "_law_case_right" = some (.ref f)) : Has P w K mg base "_law_case_right" 8 ["store", "kind_of", "steps"] (spS K sp_kcase) := by
  exact has_of F gm (ok_law_case_right T  h_law_row h_law_short_row h_law_lot h_law_grown_log h_law_take h_law_changed_log h_law_changed_left h_law_judged F) fun _ _ _ _ _ _ us hl => match us, hl with | [_, _, _], _ => rfl
end
end Q
/-! C21 -/
set_option Elab.async false
set_option linter.all false
set_option maxRecDepth 100000
set_option maxHeartbeats 8000000
namespace Q
open PySem PySem.Spec PyProof.Rows L2 N
section
variable {P : Program} {w : World} {K : PySem.W.Frag} {mg : Str → Option Value} {base : Heap}
/-! wrong logs -/
def EntIn (d : D) : Prop := (ty7 d).isSome = true ∧ ∀ xs, rowOf d = some xs → ∀ x ∈ xs, RowIn x
theorem rowIn_no {d : D} (h : rowOf d = none) (t : (ty7 d).isSome = true) : RowIn d := ⟨t, fun ds e => by rw [h] at e; cases e⟩
theorem entIn_no {d : D} (h : rowOf d = none) (t : (ty7 d).isSome = true) : EntIn d ∧ entF d = none := ⟨⟨t, fun ds e => by rw [h] at e; cases e⟩, by unfold entF; rw [h]⟩
theorem entIn_tup {ds : List D} (h : ∀ x ∈ ds, RowIn x) : EntIn (.tup ds) := ⟨rfl, fun xs e => by cases e; exact h⟩
theorem ent_len {ds : List D} (h : ∀ x ∈ ds, RowIn x) (hl : ds.length ≠ 2) : EntIn (.tup ds) ∧ entF (.tup ds) = none := ⟨entIn_tup h, entF_ne2 rfl hl⟩
theorem ent_2 {a b : D} (ha : RowIn a) (hb : RowIn b) (h : natD a = none ∨ isRow 8 b = false ∨ toIs b = []) : EntIn (.tup [a, b]) ∧ entF (.tup [a, b]) = none := by
  refine ⟨entIn_tup fun x hx => ?_, ?_⟩
  · simp only [List.mem_cons, List.not_mem_nil, or_false] at hx
    rcases hx with rfl | rfl
    · exact ha
    · exact hb
  · rw [entF_2 (a := a) (b := b) rfl]
    rcases h with h | h | h
    · rw [h]
    · cases natD a with
      | none => rfl
      | some p => exact if_neg fun z => by rw [h] at z; cases z.1
    · cases natD a with
      | none => rfl
      | some p => exact if_neg fun z => z.2 h
theorem rowIn_of {ds : List D} (h : ∀ x ∈ ds, (ty7 x).isSome = true) : RowIn (.tup ds) := ⟨rfl, fun es e x hx => by cases e; exact h x hx⟩
theorem rowIn_i (i : Int) : RowIn (.int i) := rowIn_no rfl rfl
theorem isRow_no {d : D} (h : rowOf d = none) : isRow 8 d = false := by unfold isRow; rw [h]
def WrongLog (d : D) : Prop := logF d = none ∧ LogIn d
def sp_wrong_log : SS := { α := Unit, args := fun _ => [], pre := fun _ => True, post := fun _ r => WrongLog r, s0 := fun _ => StOk, s1 := fun _ => StOk }
theorem noLists_log {v : D} (h : v ∈ noLists) : WrongLog v := by
  have : rowOf v = none ∧ (ty7 v).isSome = true := by
    simp only [noLists, List.mem_cons, List.not_mem_nil, or_false] at h
    rcases h with rfl | rfl | rfl | rfl | rfl | rfl | rfl | rfl | rfl | rfl | rfl | rfl <;> exact ⟨rfl, rfl⟩
  exact ⟨by unfold logF; rw [this.1], this.2, fun es e => by rw [this.1] at e; cases e⟩
theorem wrong_of {ds : List D} (h : ∀ d ∈ ds, EntIn d) {d : D} (hd : d ∈ ds) (he : entF d = none) : WrongLog (.lst ds) := by
  refine ⟨?_, rfl, fun es e x hx => by cases e; exact h x hx⟩
  show (if ds.length ≤ 200 then entsF ds else none) = none
  split
  · exact entsF_none hd he
  · rfl
/-- the wrong entries -/
def wrongEs (k : Int) : List D := [.tup [.int 0, .tup []], .tup [.int 0, .tup (List.replicate (201 : Int).toNat [D.int k]).flatten], .tup [.int 0, .tup [.int k, .int 8]], .tup [.int 0, .tup [.bl true]], .tup [.int 0, .tup [.int k, .int (-1)]], .tup [.int 0, .non], .tup [.int 0, .int k], .tup [.int 0]] ++
  [.tup [.bl true, .tup [.int k]], .tup [.int (-1), .tup [.int k]], .tup [.int (-10 ^ (40 : Int).toNat), .tup [.int k]], .tup [.non, .tup [.int k]], .tup [.tup [.int k], .int 0], .non] ++
  [.tup [.int 0, .tup [.int k], .int 0], .str "0a", .int 0, .dic [], .tup [.int 0, .str "a"], .tup [.tup [], .tup [.int k]], .tup [.int 0, .tup [.tup [.int k]]]]
theorem ints_in (ns : List Int) : RowIn (.tup (ns.map D.int)) := (rowIn_ints ns).1
theorem wrongEs_bad {k : Int} {d : D} (h : d ∈ wrongEs k) : EntIn d ∧ entF d = none := by
  have i0 := rowIn_i 0
  have tk := ints_in [k]
  have h8 : isRow 8 (.tup [D.int k, .int 8]) = false := by
    show (true && (decide (0 ≤ k ∧ k < 8) && (false && true))) = false
    simp
  have hm : isRow 8 (.tup [D.int k, .int (-1)]) = false := by
    show (true && (decide (0 ≤ k ∧ k < 8) && (false && true))) = false
    simp
  simp only [wrongEs, List.mem_append, List.mem_cons, List.not_mem_nil, or_false] at h
  rcases h with (h | h) | h
  · rcases h with rfl | rfl | rfl | rfl | rfl | rfl | rfl | rfl
    · exact ent_2 i0 (ints_in []) (.inr (.inr rfl))
    · refine ent_2 i0 (rowIn_of fun x hx => ?_) (.inr (.inl ?_))
      · rw [List.mem_singleton.mp (mem_flat hx)]
        rfl
      · show (decide ((List.replicate 201 [D.int k]).flatten.length ≤ 200) && (List.replicate 201 [D.int k]).flatten.all (isK 8)) = false
        rw [len_flat]
        rfl
    · exact ent_2 i0 (ints_in [k, 8]) (.inr (.inl h8))
    · exact ent_2 i0 (rowIn_of fun x hx => by rw [List.mem_singleton.mp hx]; rfl) (.inr (.inl rfl))
    · exact ent_2 i0 (ints_in [k, -1]) (.inr (.inl hm))
    · exact ent_2 i0 (rowIn_no rfl rfl) (.inr (.inl rfl))
    · exact ent_2 i0 (rowIn_i k) (.inr (.inl rfl))
    · exact ent_len (fun x hx => by rw [List.mem_singleton.mp hx]; exact i0) (by decide)
  · rcases h with rfl | rfl | rfl | rfl | rfl | rfl
    · exact ent_2 (rowIn_no rfl rfl) tk (.inl rfl)
    · exact ent_2 (rowIn_i _) tk (.inl rfl)
    · exact ent_2 (rowIn_i _) tk (.inl (by show (if (0 : Int) ≤ -10 ^ (40 : Int).toNat then some (-10 ^ (40 : Int).toNat : Int).toNat else none) = none; exact if_neg (by decide)))
    · exact ent_2 (rowIn_no rfl rfl) tk (.inl rfl)
    · exact ent_2 tk i0 (.inl rfl)
    · exact entIn_no rfl rfl
  · rcases h with rfl | rfl | rfl | rfl | rfl | rfl | rfl
    · refine ent_len (fun x hx => ?_) (by show (3 : Nat) ≠ 2; decide)
      simp only [List.mem_cons, List.not_mem_nil, or_false] at hx
      rcases hx with rfl | rfl | rfl
      · exact i0
      · exact tk
      · exact i0
    · exact entIn_no rfl rfl
    · exact entIn_no rfl rfl
    · exact entIn_no rfl rfl
    · exact ent_2 i0 (rowIn_no rfl rfl) (.inr (.inl rfl))
    · exact ent_2 (ints_in []) tk (.inl rfl)
    · exact ent_2 i0 (rowIn_of fun x hx => by rw [List.mem_singleton.mp hx]; rfl) (.inr (.inl rfl))
/-! _law_wrong_log -/
abbrev s_law_wrong_log : Stmt := topS 63
abbrev n_law_wrong_log : List Str := ["store", "kind", "entries", "wrong"]
theorem sc_law_wrong_log : FnScope n_law_wrong_log ["store"] (defScope s_law_wrong_log) := ⟨rfl, rfl, rfl, by decide +kernel, rfl, by decide +kernel, by decide +kernel⟩
theorem ok_law_wrong_log (T : Tx K mg) (h_law_take : Has P w K mg base "_law_take" 2 ["store", "many"] (spS K sp_take)) (h_law_pick : Has P w K mg base "_law_pick" 3 ["store", "things"] (spS K sp_pick)) (h_law_no_list : Has P w K mg base "_law_no_list" 4 ["store"] (spS K sp_no_list)) {f : Addr} {fd : FuncData} (F : Fd K "_law_wrong_log" s_law_wrong_log [] f fd) : FnOk P w K mg base (L2N.CX P w) 5 f fd ["store"] (spS K sp_wrong_log) := by
  refine fnS_ok F sc_law_wrong_log sp_wrong_log (fun _ => rfl) (by decide) fun cdv A outer s H E g p ss hr pre hs => ?_
  refine ⟨_, (ds_cons (ds_set (i := 1) sc_law_wrong_log.nd (de_callS h_law_take (hr.mono (by decide : 2 ≤ 4)) (dv 0) (da_cons de_int da_nil)))
      (ds_cons (ds_set (i := 2) sc_law_wrong_log.nd (de_new (dn_lst (da_cons (de_tup (da_cons de_int (da_cons (de_tup da_nil) da_nil))) (da_cons (de_tup (da_cons de_int (da_cons (de_repT (de_tup (da_cons (dv 1) da_nil)) de_int) da_nil))) (da_cons (de_tup (da_cons de_int (da_cons (de_tup (da_cons (dv 1) (da_cons de_int da_nil))) da_nil))) (da_cons (de_tup (da_cons de_int (da_cons (de_tup (da_cons de_bl da_nil)) da_nil))) (da_cons (de_tup (da_cons de_int (da_cons (de_tup (da_cons (dv 1) (da_cons (de_neg de_int) da_nil))) da_nil))) (da_cons (de_tup (da_cons de_int (da_cons de_non da_nil))) (da_cons (de_tup (da_cons de_int (da_cons (dv 1) da_nil))) (da_cons (de_tup (da_cons de_int da_nil)) da_nil)))))))))))
      (ds_cons (ds_set (i := 2) sc_law_wrong_log.nd (de_new (dn_cat (dv 2) (de_new (dn_lst (da_cons (de_tup (da_cons de_bl (da_cons (de_tup (da_cons (dv 1) da_nil)) da_nil))) (da_cons (de_tup (da_cons (de_neg de_int) (da_cons (de_tup (da_cons (dv 1) da_nil)) da_nil))) (da_cons (de_tup (da_cons (de_neg (de_pow de_int de_int)) (da_cons (de_tup (da_cons (dv 1) da_nil)) da_nil))) (da_cons (de_tup (da_cons de_non (da_cons (de_tup (da_cons (dv 1) da_nil)) da_nil))) (da_cons (de_tup (da_cons (de_tup (da_cons (dv 1) da_nil)) (da_cons de_int da_nil))) (da_cons de_non da_nil)))))))))))
      (ds_cons (ds_set (i := 2) sc_law_wrong_log.nd (de_new (dn_cat (dv 2) (de_new (dn_lst (da_cons (de_tup (da_cons de_int (da_cons (de_tup (da_cons (dv 1) da_nil)) (da_cons de_int da_nil)))) (da_cons de_str (da_cons de_int (da_cons de_dic0 (da_cons (de_tup (da_cons de_int (da_cons de_str da_nil))) (da_cons (de_tup (da_cons (de_tup da_nil) (da_cons (de_tup (da_cons (dv 1) da_nil)) da_nil))) (da_cons (de_tup (da_cons de_int (da_cons (de_tup (da_cons (de_tup (da_cons (dv 1) da_nil)) da_nil)) da_nil))) da_nil))))))))))))
      (ds_cons (ds_set (i := 3) sc_law_wrong_log.nd (de_new (dn_cat (de_new (dn_rep (de_new (dn_lst (da_cons (de_tup (da_cons de_int (da_cons (de_tup (da_cons (dv 1) da_nil)) da_nil))) da_nil))) (de_callS h_law_take (hr.mono (by decide : 2 ≤ 4)) (dv 0) (da_cons de_int da_nil)))) (de_new (dn_lst (da_cons (de_callS h_law_pick (hr.mono (by decide : 3 ≤ 4)) (dv 0) (da_cons (dv 2) da_nil)) da_nil))))))
      (ds_one (ds_ret (de_callS h_law_pick (hr.mono (by decide : 3 ≤ 4)) (dv 0) (da_cons (de_new (dn_lst (da_cons (dv 3) (da_cons (dv 3) (da_cons (dv 3) (da_cons (dv 3) (da_cons (de_callS h_law_no_list hr (dv 0) da_nil) da_nil))))))) da_nil))))))))), ?_⟩
  refine ⟨(8 : Int), rfl, hs, tk (by omega), fun d s1 hd hs => ?_⟩
  obtain ⟨k, rfl, k0, k1⟩ := hd
  refine ⟨by simp, by decide, by decide, by show 1 * 201 ≤ 1000000; decide, cp1040, by show 8 + 6 ≤ 16777216; decide, by show 14 + 7 ≤ 16777216; decide, ?_⟩
  refine ⟨(3 : Int), rfl, hs, tk (by omega), fun d s2 hd hs => ?_⟩
  obtain ⟨t, rfl, t0, t1⟩ := hd
  have t3 : t.toNat ≤ 3 := by omega
  refine ⟨by show -(2 ^ 63) ≤ t; omega, by show t < 2 ^ 63; omega, by show 1 * t.toNat ≤ 16777216; omega, ?_⟩
  refine ⟨(false, wrongEs k), rfl, hs, ⟨by unfold wrongEs; simp, by show 14 + 7 ≤ 16777216; decide⟩, fun bad s3 hd hs => ?_⟩
  obtain ⟨b1, b2⟩ := wrongEs_bad hd
  refine ⟨by rw [len_flat]; show t.toNat * 1 + 1 ≤ 16777216; omega, ?_⟩
  have hw : WrongLog (.lst ((List.replicate t.toNat [D.tup [.int 0, .tup [.int k]]]).flatten ++ [bad])) := by
    refine wrong_of (d := bad) (fun d hd => ?_) (List.mem_append_right _ List.mem_cons_self) b2
    rcases List.mem_append.mp hd with hd | hd
    · rw [List.mem_singleton.mp (mem_flat hd)]
      refine entIn_tup fun x hx => ?_
      simp only [List.mem_cons, List.not_mem_nil, or_false] at hx
      rcases hx with rfl | rfl
      · exact rowIn_i 0
      · exact ints_in [k]
    · rw [List.mem_singleton.mp hd]
      exact b1
  refine ⟨(), rfl, hs, trivial, fun nl s4 hnl hs => ?_⟩
  have hnl := noLists_log hnl
  refine ⟨(false, [.lst ((List.replicate t.toNat [D.tup [.int 0, .tup [.int k]]]).flatten ++ [bad]), .lst ((List.replicate t.toNat [D.tup [.int 0, .tup [.int k]]]).flatten ++ [bad]), .lst ((List.replicate t.toNat [D.tup [.int 0, .tup [.int k]]]).flatten ++ [bad]), .lst ((List.replicate t.toNat [D.tup [.int 0, .tup [.int k]]]).flatten ++ [bad]), nl]), rfl, hs, ⟨by simp, by show 5 ≤ 16777216; decide⟩, fun d s5 hd hs => ⟨?_, _, rfl, hs⟩⟩
  have hd : d ∈ [_, _, _, _, nl] := hd
  simp only [List.mem_cons, List.not_mem_nil, or_false] at hd
  show WrongLog d
  rcases hd with rfl | rfl | rfl | rfl | rfl
  · exact hw
  · exact hw
  · exact hw
  · exact hw
  · exact hnl
theorem has_law_wrong_log (T : Tx K mg) (h_law_take : Has P w K mg base "_law_take" 2 ["store", "many"] (spS K sp_take)) (h_law_pick : Has P w K mg base "_law_pick" 3 ["store", "things"] (spS K sp_pick)) (h_law_no_list : Has P w K mg base "_law_no_list" 4 ["store"] (spS K sp_no_list)) {f : Addr} {fd : FuncData} (F : Fd K "_law_wrong_log" s_law_wrong_log [] f fd) (gm : mg "_law_wrong_log" = some (.ref f)) : Has P w K mg base "_law_wrong_log" 5 ["store"] (spS K sp_wrong_log) := by
  exact has_of F gm (ok_law_wrong_log T  h_law_take h_law_pick h_law_no_list F) fun _ _ _ _ _ _ us hl => match us, hl with | [_], _ => rfl
end
end Q
/-! C22 -/
set_option Elab.async false
set_option linter.all false
set_option maxRecDepth 100000
set_option maxHeartbeats 8000000
namespace Q
open PySem PySem.Spec PyProof.Rows L2 N
section
variable {P : Program} {w : World} {K : PySem.W.Frag} {mg : Str → Option Value} {base : Heap}
/-! long logs; refusals -/
theorem flat_rep (n : Nat) (k : Int) : (List.replicate n [D.int k]).flatten = (List.replicate n k).map D.int := by
  induction n with
  | zero => rfl
  | succ n ih => rw [List.replicate_succ, List.flatten_cons, ih, List.replicate_succ, List.map_cons]; rfl
theorem rep_row {n : Nat} {k : Int} (hn : n ≤ 200) (h0 : 0 ≤ k) (h8 : k < 8) : RowV 8 (List.replicate n k) := ⟨by rw [List.length_replicate]; exact hn, fun x hx => by rw [List.eq_of_mem_replicate hx]; exact ⟨h0, h8⟩⟩
theorem one_row {k : Int} (h0 : 0 ≤ k) (h8 : k < 8) : RowV 8 [k] := ⟨by show 1 ≤ 200; decide, fun x hx => by rw [List.mem_singleton.mp hx]; exact ⟨h0, h8⟩⟩
theorem rep_log {n : Nat} {k : Int} (hn : n ≤ 200) (h0 : 0 ≤ k) (h8 : k < 8) : LogV (List.replicate n ((0 : Nat), [k])) := ⟨by rw [List.length_replicate]; exact hn, fun e he => by rw [List.eq_of_mem_replicate he]; exact ⟨by simp, one_row h0 h8⟩⟩
theorem logIn_of {es : List (Nat × List Int)} : LogIn (.lst (es.map entD)) := ⟨rfl, fun xs e d hd => by
  cases e
  obtain ⟨en, _, rfl⟩ := List.mem_map.mp hd
  refine ⟨rfl, fun ys e y hy => ?_⟩
  have e : some [D.int en.1, dTup en.2] = some ys := e
  cases e
  simp only [List.mem_cons, List.not_mem_nil, or_false] at hy
  rcases hy with rfl | rfl
  · exact rowIn_i _
  · exact (rowIn_ints en.2).1⟩
theorem jl_bad {K : PySem.W.Frag} {d a b : D} (hb : isRow 8 d = false) : (∀ r, ¬ (sp_judge K).post (d, a, b) r) ∧ ∀ x, (sp_judge K).exc (d, a, b) x → x = exBad K "BadRow" := by
  have no : ∀ {G : Prop}, isRow 8 d = true → G := fun h => by rw [hb] at h; cases h
  refine ⟨fun r ⟨_, _, _, h, _⟩ => no h, fun x hx => ?_⟩
  rcases hx with hx | ⟨h, _⟩
  · exact hx.2
  · exact no h
theorem jl_paper {K : PySem.W.Frag} {d a b : D} (hb : isRow 8 d = true) (hn : logF a = none ∨ isRow 8 b = false) : (∀ r, ¬ (sp_judge K).post (d, a, b) r) ∧ ∀ x, (sp_judge K).exc (d, a, b) x → x = exBad K "BadPaper" := by
  refine ⟨fun r ⟨_, _, _, _, _, h1, h2, _⟩ => ?_, fun x hx => ?_⟩
  · have h1 : logF a = some _ := h1
    have h2 : isRow 8 b = true := h2
    rcases hn with h | h
    · rw [h] at h1; cases h1
    · rw [h] at h2; cases h2
  · rcases hx with ⟨h, _⟩ | ⟨_, _, h⟩
    · have h : isRow 8 d = false := h
      rw [hb] at h; cases h
    · exact h
def sp_long : SS := { α := Unit, args := fun _ => [], pre := fun _ => True, post := fun _ r => r = .bl true, s0 := fun _ => StOk, s1 := fun _ => StOk }
/-! _law_long_right -/
abbrev s_law_long_right : Stmt := topS 62
abbrev n_law_long_right : List Str := ["store", "kind", "many", "left", "log", "k"]
theorem sc_law_long_right : FnScope n_law_long_right ["store"] (defScope s_law_long_right) := ⟨rfl, rfl, rfl, by decide +kernel, rfl, by decide +kernel, by decide +kernel⟩
theorem ok_law_long_right (T : Tx K mg) {Tb : Tbs} (hTb : TabFn Tb) (TO : TabO base mg K Tb "_law_long_right") {gA : Addr} {fdA : FuncData} (FA : Fd K "_law_answer" s_law_answer [] gA fdA) (mA : mg "_law_answer" = some (.ref gA)) (kx : ∀ nm ∈ cls13, KitX K nm) (h_law_take : Has P w K mg base "_law_take" 2 ["store", "many"] (spS K sp_take)) (h_law_refused : Has P w K mg base "_law_refused" 2 ["answer", "name", "value"] (spF K sp_refused)) (h_judge_log : Has P w K mg base "judge_log" 6 ["row", "log", "left"] (spF K (sp_judge K))) (h_law_judged : Has P w K mg base "_law_judged" 7 ["store", "row", "log", "left"] (spS K sp_judged)) {fd : FuncData} (F : Fd K "_law_long_right" s_law_long_right [] (He.fAd K ("_law_long_right", none)) fd) : FnOk P w K mg base (L2N.CX P w) 9 (He.fAd K ("_law_long_right", none)) fd ["store"] (spST K Tb sp_long) := by
  refine fnST_ok F sc_law_long_right sp_long (fun _ => rfl) (by decide) (by decide) fun A outer s H E g p ss hr pre hs => ?_
  refine ⟨_, (ds_cons (ds_set (i := 1) sc_law_long_right.nd (de_callS h_law_take (hr.mono (by decide : 2 ≤ 8)) (dv 0) (da_cons de_int da_nil)))
      (ds_cons (ds_set (i := 2) sc_law_long_right.nd (de_add de_int (de_callS h_law_take (hr.mono (by decide : 2 ≤ 8)) (dv 0) (da_cons de_int da_nil))))
      (ds_cons (ds_set (i := 3) sc_law_long_right.nd (de_new (dn_rep (de_new (dn_lst (da_cons (dv 1) da_nil))) (de_max rfl T.b_max (da_cons de_int (da_cons (de_sub de_int (dv 2)) da_nil))))))
      (ds_cons (ds_set (i := 4) sc_law_long_right.nd (de_new (dn_lc sc_law_long_right.nd (di_range1 T.b_range (da_cons (dv 2) da_nil)) (blkOk_by (own := [("k", 5)]) (N := n_law_long_right) (sc := defScope s_law_long_right) (by decide +kernel)) (fun _ _ _ _ _ _ _ => dts_nil) (fun _ _ _ _ _ _ _ => (de_tup (da_cons de_int (da_cons (de_tup (da_cons (dv 1) da_nil)) da_nil)))) (fun _ _ _ _ _ => pg_name (i := 5) sc_law_long_right.nd rfl (Or.inl rfl)))))
      (ds_cons (ds_if (dt_eq (dv 2) de_int)
      (ds_one (ds_ret (de_call h_law_refused (hr.mono (by decide : 2 ≤ 8)) (da_cons (de_answerT (n := 6) (T := Tb) (Ans := AnsN K) noT_no FA mA sc_law_answer rfl (Or.inl rfl) (fun _ _ _ _ _ _ us hl => match us, hl with | [_], _ => rfl) (fun cdg => gives_law_answer T kx) TO.b rfl hTb TO.m hr (fun Xp B' A outer s H E f c' hr hE => (de_callX h_judge_log hr (L2N.passes_call (L2N.takes_of rfl rfl rfl rfl) (fun _ _ _ _ h => h)) hE (da_cons (de_new (dn_rep (de_new (dn_lst (da_cons (dv 1) da_nil))) de_int)) (da_cons (dv 4) (da_cons (dv 3) da_nil))))) (L := (LamX.lamS_by (by decide +kernel) : LamX.LamS (defScope s_law_long_right) _))) (da_cons de_str (da_cons de_non da_nil))))))
      ds_nil)
      (ds_one (ds_ret (de_callS h_law_judged (hr.mono (by decide : 7 ≤ 8)) (dv 0) (da_cons (de_new (dn_rep (de_new (dn_lst (da_cons (dv 1) da_nil))) de_int)) (da_cons (dv 4) (da_cons (dv 3) da_nil))))))))))), ?_⟩
  refine ⟨(8 : Int), rfl, hs, tk (by omega), fun d s1 hd hs => ?_⟩
  obtain ⟨k, rfl, k0, k1⟩ := hd
  have k8 : k < 8 := by omega
  refine ⟨(5 : Int), rfl, hs, tk (by omega), fun d s2 hd hs => ?_⟩
  obtain ⟨m, rfl, m0, m1⟩ := hd
  obtain ⟨n, hn, n1, n2⟩ : ∃ n : Nat, max 1 (200 - (197 + m)) = (n : Int) ∧ 1 ≤ n ∧ n ≤ 200 := ⟨(max 1 (200 - (197 + m))).toNat, by omega, by omega, by omega⟩
  obtain ⟨l, hl, l1, l2⟩ : ∃ l : Nat, 197 + m = (l : Int) ∧ 197 ≤ l ∧ l ≤ 201 := ⟨(197 + m).toNat, by omega, by omega, by omega⟩
  have e1 : (List.replicate (max 1 (200 - (197 + m))).toNat [D.int k]).flatten = (List.replicate n k).map D.int := by rw [hn, Int.toNat_natCast, flat_rep]
  have e2 : (List.replicate (200 : Int).toNat [D.int k]).flatten = (List.replicate 200 k).map D.int := flat_rep 200 k
  have v200 := rep_row (n := 200) (Nat.le_refl _) k0 k8
  have vn := rep_row n2 k0 k8
  refine ⟨by show -(2 ^ 63) ≤ max 1 (200 - (197 + m)); omega, by show max 1 (200 - (197 + m)) < 2 ^ 63; omega, by show 1 * (max 1 (200 - (197 + m))).toNat ≤ 16777216; omega, ?_⟩
  refine ⟨trivial, by decide, by decide, by show -(2 ^ 62) ≤ 197 + m; omega, by show 197 + m < 2 ^ 62; omega, by show (197 + m - 0).toNat ≤ 16777216; omega, fun u acc ρ => ρ = [.own p s2, .v (.int k), .v (.int (197 + m)), .v (.lst ((List.replicate n k).map D.int)), .un, .un] ++ tabL Tb ∧ acc = (List.replicate u ((0 : Nat), [k])).map entD, ⟨by rw [← e1]; rfl, rfl⟩, fun _ _ _ _ _ => trivial, ?_, ?_⟩
  · rintro u _ acc ρ hu rfl ⟨rfl, rfl⟩
    exact ⟨rfl, by rw [List.replicate_succ', List.map_append]; rfl⟩
  rintro acc ρ ⟨rfl, rfl⟩
  have el : (197 + m - 0).toNat = l := by omega
  rw [el]
  show if decide (197 + m = 201) = true then _ else _
  refine ite2 (fun h => ?_) (fun h => ?_)
  · have h := of_decide_eq_true h
    have hlog : logF (.lst ((List.replicate l ((0 : Nat), [k])).map entD)) = none := by
      show (if _ ≤ 200 then _ else none) = none
      rw [if_neg (by rw [List.length_map, List.length_replicate]; omega)]
    refine ⟨⟨rfl, rfl, rfl⟩, fun x => x = exBad K "BadPaper", ?_, fun x hx => ⟨raisedD "BadPaper", ⟨"BadPaper", by decide, hx, rfl⟩, ?_⟩⟩
    · refine ⟨by decide, by decide, by show 1 * 200 ≤ 16777216; decide, ?_⟩
      have jp := jl_paper (K := K) (d := .lst ((List.replicate 200 k).map D.int)) (b := .lst ((List.replicate n k).map D.int)) (row_ok v200).2 (.inl hlog)
      refine ⟨(.lst ((List.replicate 200 k).map D.int), .lst ((List.replicate l ((0 : Nat), [k])).map entD), .lst ((List.replicate n k).map D.int)), by rw [← e2]; rfl, ⟨(rowIn_ints _).2, logIn_of, (rowIn_ints _).2⟩, fun r hr => absurd hr (jp.1 r), jp.2⟩
    · exact ⟨("BadPaper", .non), rfl, ref_pre (by decide), fun r hr => ⟨hr, ⟨_, rfl, hs⟩, rfl⟩, fun _ h => h.elim⟩
  · have h : ¬ (197 + m = 201) := fun z => h (decide_eq_true z)
    refine ⟨by decide, by decide, by show 1 * 200 ≤ 16777216; decide, ?_⟩
    refine ⟨(List.replicate 200 k, List.replicate l ((0 : Nat), [k]), List.replicate n k), congrArg (fun z => [W.d (.lst z), W.d (.lst ((List.replicate l ((0 : Nat), [k])).map entD)), W.d (.lst ((List.replicate n k).map D.int))]) e2, hs, ⟨v200, vn, rep_log (by omega) k0 k8⟩, fun r s' hr hs' => ?_⟩
    exact ⟨hr, ⟨_, rfl, hs'⟩, rfl⟩
theorem has_law_long_right (T : Tx K mg) {Tb : Tbs} (hTb : TabFn Tb) (TO : TabO base mg K Tb "_law_long_right") {gA : Addr} {fdA : FuncData} (FA : Fd K "_law_answer" s_law_answer [] gA fdA) (mA : mg "_law_answer" = some (.ref gA)) (kx : ∀ nm ∈ cls13, KitX K nm) (h_law_take : Has P w K mg base "_law_take" 2 ["store", "many"] (spS K sp_take)) (h_law_refused : Has P w K mg base "_law_refused" 2 ["answer", "name", "value"] (spF K sp_refused)) (h_judge_log : Has P w K mg base "judge_log" 6 ["row", "log", "left"] (spF K (sp_judge K))) (h_law_judged : Has P w K mg base "_law_judged" 7 ["store", "row", "log", "left"] (spS K sp_judged)) {fd : FuncData} (F : Fd K "_law_long_right" s_law_long_right [] (He.fAd K ("_law_long_right", none)) fd) (gm : mg "_law_long_right" = some (.ref (He.fAd K ("_law_long_right", none)))) : Has P w K mg base "_law_long_right" 9 ["store"] (spST K Tb sp_long) := by
  exact has_of F gm (ok_law_long_right T  hTb TO FA mA kx h_law_take h_law_refused h_judge_log h_law_judged F) fun _ _ _ _ _ _ us hl => match us, hl with | [_], _ => rfl
def sp_refs : SS := { α := List Int, args := fun ns => [.lst (ns.map D.int)], pre := fun ns => RowV 8 ns, post := fun _ r => r = .bl true, s0 := fun _ => StOk, s1 := fun _ => StOk }
/-! _law_refusals_right -/
abbrev s_law_refusals_right : Stmt := topS 64
abbrev n_law_refusals_right : List Str := ["store", "row", "bad", "wrong", "calls", "answer", "name"]
theorem sc_law_refusals_right : FnScope n_law_refusals_right ["store", "row"] (defScope s_law_refusals_right) := ⟨rfl, rfl, rfl, by decide +kernel, rfl, by decide +kernel, by decide +kernel⟩
theorem ok_law_refusals_right (T : Tx K mg) {Tb : Tbs} (hTb : TabFn Tb) (TO : TabO base mg K Tb "_law_refusals_right") {gA : Addr} {fdA : FuncData} (FA : Fd K "_law_answer" s_law_answer [] gA fdA) (mA : mg "_law_answer" = some (.ref gA)) (kx : ∀ nm ∈ cls13, KitX K nm) (h_law_bad_row : Has P w K mg base "_law_bad_row" 7 ["store", "many"] (spS K sp_bad_row)) (h_law_wrong_log : Has P w K mg base "_law_wrong_log" 5 ["store"] (spS K sp_wrong_log)) (h_judge_log : Has P w K mg base "judge_log" 6 ["row", "log", "left"] (spF K (sp_judge K))) (h_law_refused : Has P w K mg base "_law_refused" 2 ["answer", "name", "value"] (spF K sp_refused)) {fd : FuncData} (F : Fd K "_law_refusals_right" s_law_refusals_right [] (He.fAd K ("_law_refusals_right", none)) fd) : FnOk P w K mg base (L2N.CX P w) 9 (He.fAd K ("_law_refusals_right", none)) fd ["store", "row"] (spST K Tb sp_refs) := by
  refine fnST_ok F sc_law_refusals_right sp_refs (fun _ => rfl) (by decide) (by decide) fun A outer s H E g p ss hr pre hs => ?_
  refine ⟨_, (ds_cons (ds_set (i := 2) sc_law_refusals_right.nd (de_callS h_law_bad_row (hr.mono (by decide : 7 ≤ 8)) (dv 0) (da_cons de_int da_nil)))
      (ds_cons (ds_set (i := 3) sc_law_refusals_right.nd (de_callS h_law_wrong_log (hr.mono (by decide : 5 ≤ 8)) (dv 0) da_nil))
      (ds_cons (ds_setO (i := 4) sc_law_refusals_right.nd (dn_lst (da_cons (de_tup (da_cons (de_answerT (n := 7) (T := Tb) (Ans := AnsN K) noT_no FA mA sc_law_answer rfl (Or.inl rfl) (fun _ _ _ _ _ _ us hl => match us, hl with | [_], _ => rfl) (fun cdg => gives_law_answer T kx) TO.b rfl hTb TO.m hr (fun Xp B' A outer s H E f c' hr hE => (de_callX h_judge_log hr (L2N.passes_call (L2N.takes_of rfl rfl rfl rfl) (fun _ _ _ _ h => h)) hE (da_cons (dv 2) (da_cons (dv 3) (da_cons (dv 2) da_nil))))) (L := (LamX.lamS_by (by decide +kernel) : LamX.LamS (defScope s_law_refusals_right) _))) (da_cons de_str da_nil))) da_nil)))
      (ds_cons (ds_expr (de_append (dv 4) (de_tup (da_cons (de_answerT (n := 7) (T := Tb) (Ans := AnsN K) noT_no FA mA sc_law_answer rfl (Or.inl rfl) (fun _ _ _ _ _ _ us hl => match us, hl with | [_], _ => rfl) (fun cdg => gives_law_answer T kx) TO.b rfl hTb TO.m hr (fun Xp B' A outer s H E f c' hr hE => (de_callX h_judge_log hr (L2N.passes_call (L2N.takes_of rfl rfl rfl rfl) (fun _ _ _ _ h => h)) hE (da_cons (dv 2) (da_cons (de_new (dn_lst da_nil)) (da_cons (dv 1) da_nil))))) (L := (LamX.lamS_by (by decide +kernel) : LamX.LamS (defScope s_law_refusals_right) _))) (da_cons de_str da_nil)))))
      (ds_cons (ds_expr (de_append (dv 4) (de_tup (da_cons (de_answerT (n := 7) (T := Tb) (Ans := AnsN K) noT_no FA mA sc_law_answer rfl (Or.inl rfl) (fun _ _ _ _ _ _ us hl => match us, hl with | [_], _ => rfl) (fun cdg => gives_law_answer T kx) TO.b rfl hTb TO.m hr (fun Xp B' A outer s H E f c' hr hE => (de_callX h_judge_log hr (L2N.passes_call (L2N.takes_of rfl rfl rfl rfl) (fun _ _ _ _ h => h)) hE (da_cons (dv 1) (da_cons (dv 3) (da_cons (dv 1) da_nil))))) (L := (LamX.lamS_by (by decide +kernel) : LamX.LamS (defScope s_law_refusals_right) _))) (da_cons de_str da_nil)))))
      (ds_cons (ds_expr (de_append (dv 4) (de_tup (da_cons (de_answerT (n := 7) (T := Tb) (Ans := AnsN K) noT_no FA mA sc_law_answer rfl (Or.inl rfl) (fun _ _ _ _ _ _ us hl => match us, hl with | [_], _ => rfl) (fun cdg => gives_law_answer T kx) TO.b rfl hTb TO.m hr (fun Xp B' A outer s H E f c' hr hE => (de_callX h_judge_log hr (L2N.passes_call (L2N.takes_of rfl rfl rfl rfl) (fun _ _ _ _ h => h)) hE (da_cons (dv 1) (da_cons (de_new (dn_lst da_nil)) (da_cons (dv 2) da_nil))))) (L := (LamX.lamS_by (by decide +kernel) : LamX.LamS (defScope s_law_refusals_right) _))) (da_cons de_str da_nil)))))
      (ds_cons (ds_for (passes_of rfl) (di_seq (dv 4)) (dg2 5 6 sc_law_refusals_right.nd)
      (ds_one (ds_if (dt_not (dt_val (de_call h_law_refused (hr.mono (by decide : 2 ≤ 8)) (da_cons (dv 5) (da_cons (dv 6) (da_cons de_non da_nil))))))
      (ds_one (ds_ret de_bl))
      ds_nil)))
      (ds_one (ds_ret de_bl))))))))), ?_⟩
  change List Int at g
  have v : RowV 8 g := pre
  have p8 : sp_bad_row.pre (8 : Int) := ⟨by show (1 : Int) ≤ 8; decide, by show (8 : Int) ≤ 64; decide⟩
  refine ⟨(8 : Int), rfl, hs, p8, fun d s2 hd hs => ?_⟩
  obtain ⟨hb, hi⟩ := hd
  have hb : isRow 8 d = false := hb
  refine ⟨(), rfl, hs, trivial, fun l s3 hd hs => ?_⟩
  obtain ⟨hl, li⟩ := hd
  have r8 := (row_ok v).2
  have ri := (rowIn_ints g).2
  have le : LogIn (.lst []) := ⟨rfl, fun es e x hx => by cases e; simp at hx⟩
  have tok : ∀ {L : List D} {q : Addr}, TOk 7 Tb [p] ([.own p s3, .v (.lst (g.map D.int)), .v d, .v l, .own q L, .un, .un] ++ tabL Tb) := ⟨rfl, rfl, rfl⟩
  have c1 := jl_bad (K := K) (a := l) (b := d) hb
  have c2 := jl_bad (K := K) (a := .lst []) (b := .lst (g.map D.int)) hb
  have c3 := jl_paper (K := K) (a := l) (b := .lst (g.map D.int)) r8 (.inl hl)
  have c4 := jl_paper (K := K) (a := .lst []) (b := d) r8 (.inr hb)
  refine ⟨⟨rfl, rfl, rfl⟩, fun x => x = exBad K "BadRow", ⟨(d, l, d), rfl, ⟨hi, li, hi⟩, fun r hr => absurd hr (c1.1 r), c1.2⟩, fun x hx => ⟨raisedD "BadRow", ⟨"BadRow", by decide, hx, rfl⟩, ?_⟩⟩
  intro q
  refine ⟨tok, fun x => x = exBad K "BadRow", ⟨(d, .lst [], .lst (g.map D.int)), rfl, ⟨hi, le, ri⟩, fun r hr => absurd hr (c2.1 r), c2.2⟩, fun x hx => ⟨raisedD "BadRow", ⟨"BadRow", by decide, hx, rfl⟩, by decide, ?_⟩⟩
  refine ⟨tok, fun x => x = exBad K "BadPaper", ⟨(.lst (g.map D.int), l, .lst (g.map D.int)), rfl, ⟨ri, li, ri⟩, fun r hr => absurd hr (c3.1 r), c3.2⟩, fun x hx => ⟨raisedD "BadPaper", ⟨"BadPaper", by decide, hx, rfl⟩, by decide, ?_⟩⟩
  refine ⟨tok, fun x => x = exBad K "BadPaper", ⟨(.lst (g.map D.int), .lst [], d), rfl, ⟨ri, le, hi⟩, fun r hr => absurd hr (c4.1 r), c4.2⟩, fun x hx => ⟨raisedD "BadPaper", ⟨"BadPaper", by decide, hx, rfl⟩, by decide, ?_⟩⟩
  refine ⟨fun k ρ => ∃ (a b : Slot), ρ = [.own p s3, .v (.lst (g.map D.int)), .v d, .v l, .own q [rr "BadRow", rr "BadRow", rr "BadPaper", rr "BadPaper"], a, b] ++ tabL Tb, ⟨_, _, rfl⟩, fun k ρ _ ⟨_, _, e⟩ => ⟨q, rfl, by rw [e]; rfl⟩, ?_, ?_⟩
  · rintro k d hk hk2 hd ⟨a, b, rfl⟩
    have hm := List.mem_of_getElem? (show [rr "BadRow", rr "BadRow", rr "BadPaper", rr "BadPaper"][k]? = some d from hd)
    have ⟨nm, hn, e⟩ : ∃ nm ∈ cls13, d = rr nm := by
      simp only [List.mem_cons, List.not_mem_nil, or_false] at hm
      rcases hm with rfl | rfl | rfl | rfl
      · exact ⟨_, by decide, rfl⟩
      · exact ⟨_, by decide, rfl⟩
      · exact ⟨_, by decide, rfl⟩
      · exact ⟨_, by decide, rfl⟩
    subst e
    refine ⟨(nm, .non), rfl, ref_pre hn, fun r hr => ?_, fun _ h => h.elim⟩
    have hr : r = .bl true := hr
    subst hr
    exact ⟨_, _, rfl⟩
  · rintro ρ ⟨a, b, rfl⟩
    exact ⟨rfl, ⟨_, rfl, hs⟩, rfl⟩
theorem has_law_refusals_right (T : Tx K mg) {Tb : Tbs} (hTb : TabFn Tb) (TO : TabO base mg K Tb "_law_refusals_right") {gA : Addr} {fdA : FuncData} (FA : Fd K "_law_answer" s_law_answer [] gA fdA) (mA : mg "_law_answer" = some (.ref gA)) (kx : ∀ nm ∈ cls13, KitX K nm) (h_law_bad_row : Has P w K mg base "_law_bad_row" 7 ["store", "many"] (spS K sp_bad_row)) (h_law_wrong_log : Has P w K mg base "_law_wrong_log" 5 ["store"] (spS K sp_wrong_log)) (h_judge_log : Has P w K mg base "judge_log" 6 ["row", "log", "left"] (spF K (sp_judge K))) (h_law_refused : Has P w K mg base "_law_refused" 2 ["answer", "name", "value"] (spF K sp_refused)) {fd : FuncData} (F : Fd K "_law_refusals_right" s_law_refusals_right [] (He.fAd K ("_law_refusals_right", none)) fd) (gm : mg "_law_refusals_right" = some (.ref (He.fAd K ("_law_refusals_right", none)))) : Has P w K mg base "_law_refusals_right" 9 ["store", "row"] (spST K Tb sp_refs) := by
  exact has_of F gm (ok_law_refusals_right T  hTb TO FA mA kx h_law_bad_row h_law_wrong_log h_judge_log h_law_refused F) fun _ _ _ _ _ _ us hl => match us, hl with | [_, _], _ => rfl
end
end Q
/-! C23 -/
set_option Elab.async false
set_option linter.all false
set_option maxRecDepth 100000
set_option maxHeartbeats 8000000
namespace Q
open PySem PySem.Spec PyProof.Rows L2 N
section
variable {P : Program} {w : World} {K : PySem.W.Frag} {mg : Str → Option Value} {base : Heap}
/-! k21: the law -/
theorem nil_row : RowV 8 [] := ⟨by decide, fun n hn => by simp at hn⟩
/-! law -/
abbrev s_law : Stmt := topS 65
abbrev n_law : List Str := ["script", "store", "steps", "kind_of", "log", "left"]
theorem sc_law : FnScope n_law ["script"] (defScope s_law) := ⟨rfl, rfl, rfl, by decide +kernel, rfl, by decide +kernel, by decide +kernel⟩
theorem ok_law (T : Tx K mg) {Tb : Tbs} (h_law_store : Has P w K mg base "_law_store" 1 ["script"] (spRaw K StOk)) (h_law_take : Has P w K mg base "_law_take" 2 ["store", "many"] (spS K sp_take)) (h_law_pick : Has P w K mg base "_law_pick" 3 ["store", "things"] (spS K sp_pick)) (h_law_case_right : Has P w K mg base "_law_case_right" 8 ["store", "kind_of", "steps"] (spS K sp_kcase)) (h_law_long_right : Has P w K mg base "_law_long_right" 9 ["store"] (spST K Tb sp_long)) (h_law_judged : Has P w K mg base "_law_judged" 7 ["store", "row", "log", "left"] (spS K sp_judged)) (h_law_refusals_right : Has P w K mg base "_law_refusals_right" 9 ["store", "row"] (spST K Tb sp_refs)) (h_law_row : Has P w K mg base "_law_row" 4 ["store", "many", "top"] (spS K sp_row)) {fd : FuncData} (F : Fd K "law" s_law [] (He.fAd K ("law", none)) fd) :
    FnOk P w K mg base (L2N.CX P w) 10 (He.fAd K ("law", none)) fd ["script"] (spLaw K (Tb.map (·.1))) := by
  refine law_ok (N := n_law) (st := StOk) (T := Tb) F sc_law h_law_store (by decide) (by decide) rfl rfl (by first | exact Or.inl rfl | exact Or.inr rfl) (by first | exact Or.inl rfl | exact Or.inr rfl) rfl (fun _ _ => rfl) (by decide) (by decide) (by decide) fun A outer s H E hr => ?_
  refine ⟨_, (ds_cons (ds_set (i := 2) sc_law.nd (de_add de_int (de_callS h_law_take (hr.mono (by decide : 2 ≤ 9)) (dv 1) (da_cons (de_callS h_law_pick (hr.mono (by decide : 3 ≤ 9)) (dv 1) (da_cons (de_new (dn_cat (de_new (dn_rep (de_new (dn_lst (da_cons de_int da_nil))) de_int)) (de_new (dn_lst (da_cons de_int da_nil))))) da_nil)) da_nil))))
      (ds_cons (ds_for (passes_of rfl) (di_seq (de_new (dn_lst (da_cons de_int (da_cons de_int (da_cons de_int (da_cons de_int (da_cons de_int (da_cons de_int (da_cons de_int da_nil)))))))))) (dg 3 sc_law.nd)
      (ds_one (ds_if (dt_not (dt_val (de_callS h_law_case_right (hr.mono (by decide : 8 ≤ 9)) (dv 1) (da_cons (dv 3) (da_cons (dv 2) da_nil)))))
      (ds_one (ds_ret de_bl))
      ds_nil)))
      (ds_cons (ds_if ((dw_and (dt_eq (de_callS h_law_take (hr.mono (by decide : 2 ≤ 9)) (dv 1) (da_cons de_int da_nil)) de_int) (dw_and1 (dt_not (dt_val (de_callST (n := 6) (T := Tb) noH_no h_law_long_right hr (dv 1) da_nil)))))).dt
      (ds_one (ds_ret de_bl))
      ds_nil)
      (ds_cons (ds_for (passes_of rfl) (di_seq (de_new (dn_lst (da_cons (de_tup (da_cons (de_new (dn_lst da_nil)) (da_cons (de_new (dn_lst da_nil)) da_nil))) (da_cons (de_tup (da_cons (de_new (dn_lst (da_cons (de_tup (da_cons de_int (da_cons (de_repT (de_tup (da_cons de_int da_nil)) (de_callS h_law_pick (hr.mono (by decide : 3 ≤ 9)) (dv 1) (da_cons (de_new (dn_lst (da_cons de_int (da_cons de_int da_nil)))) da_nil))) da_nil))) da_nil))) (da_cons (de_new (dn_lst da_nil)) da_nil))) (da_cons (de_tup (da_cons (de_new (dn_lst da_nil)) (da_cons (de_new (dn_rep (de_new (dn_lst (da_cons de_int da_nil))) (de_callS h_law_pick (hr.mono (by decide : 3 ≤ 9)) (dv 1) (da_cons (de_new (dn_lst (da_cons de_int (da_cons de_int da_nil)))) da_nil)))) da_nil))) da_nil)))))) (dg2 4 5 sc_law.nd)
      (ds_one (ds_if (dt_not (dt_val (de_callS h_law_judged (hr.mono (by decide : 7 ≤ 9)) (dv 1) (da_cons (de_new (dn_lst da_nil)) (da_cons (dv 4) (da_cons (dv 5) da_nil))))))
      (ds_one (ds_ret de_bl))
      ds_nil)))
      (ds_one (ds_ret (de_and (de_callST (n := 6) (T := Tb) noH_no h_law_refusals_right hr (dv 1) (da_cons (de_callS h_law_row (hr.mono (by decide : 4 ≤ 9)) (dv 1) (da_cons de_int (da_cons de_int da_nil))) da_nil)) (de_one (de_callS h_law_case_right (hr.mono (by decide : 8 ≤ 9)) (dv 1) (da_cons de_int (da_cons (dv 2) da_nil))))))))))), fun p ss hs => ?_⟩
  refine ⟨by decide, by decide, by decide, by decide, (false, (List.replicate (11 : Int).toNat [D.int 6]).flatten ++ [D.int 190]), rfl, hs, ⟨by simp, by decide⟩, fun d s1 hd hs => ?_⟩
  have hd : ∃ t : Int, d = .int t ∧ t ≤ 190 := by
    rcases List.mem_append.mp (show d ∈ (List.replicate (11 : Int).toNat [D.int 6]).flatten ++ [D.int 190] from hd) with hd | hd
    · exact ⟨6, List.mem_singleton.mp (mem_flat hd), by decide⟩
    · exact ⟨190, List.mem_singleton.mp hd, by decide⟩
  obtain ⟨t, rfl, t1⟩ := hd
  refine ⟨t, rfl, hs, tk (by omega), fun d s2 hd hs => ?_⟩
  obtain ⟨u, rfl, u0, u1⟩ := hd
  have kc : ∀ k : Int, sp_kcase.pre (k, 1 + u) := fun k => ⟨by show 0 ≤ 1 + u; omega, by show 1 + u ≤ 200; omega⟩
  refine ⟨fun k ρ => ∃ (s : List D) (k3 k4 k5 : Slot), ρ = [.un, .own p s, .v (.int (1 + u)), k3, k4, k5] ++ tabL Tb ∧ StOk s, ⟨s2, _, _, _, rfl, hs⟩, fun _ _ _ _ => trivial, ?_, ?_⟩
  · rintro k d ρ hk hd ⟨s, k3, k4, k5, rfl, hs⟩
    have hm : d ∈ [D.int 0, .int 1, .int 2, .int 2, .int 3, .int 3, .int 4] := List.mem_of_getElem? hd
    obtain ⟨i, rfl⟩ : ∃ i : Int, d = .int i := by
      simp only [List.mem_cons, List.not_mem_nil, or_false] at hm
      rcases hm with h | h | h | h | h | h | h <;> exact ⟨_, h⟩
    refine ⟨(i, 1 + u), rfl, hs, kc i, fun r s' hr hs' => ?_⟩
    have hr : r = .bl true := hr
    subst hr
    exact ⟨s', _, _, _, rfl, hs'⟩
  rintro ρ ⟨s, k3, k4, k5, rfl, hs⟩
  try dsimp only
  refine join1 (fun ρ => ∃ (s : List D), ρ = [.un, .own p s, .v (.int (1 + u)), k3, k4, k5] ++ tabL Tb ∧ StOk s) (fun R' hR => ?_) ?_
  · refine ⟨(6 : Int), rfl, hs, tk (by omega), fun d s3 hd hs => ?_⟩
    obtain ⟨w, rfl, w0, w1⟩ := hd
    show if decide (w = 0) = true then _ else _
    refine ite2 (fun h => ?_) (fun h => hR _ ⟨s3, rfl, hs⟩)
    refine ⟨(), rfl, hs, trivial, ⟨rfl, trivial⟩, fun r s' hr hs' => ?_⟩
    have hr : r = .bl true := hr
    subst hr
    exact hR _ ⟨s', rfl, hs'⟩
  rintro ρ ⟨s, rfl, hs⟩
  try dsimp only
  refine ⟨(false, [.int 1, .int 200]), rfl, hs, ⟨by simp, by decide⟩, fun d s4 hd hs => ?_⟩
  have hd : ∃ a : Nat, d = .int (a : Nat) ∧ 1 ≤ a ∧ a ≤ 200 := by
    have hd : d ∈ [D.int 1, .int 200] := hd
    simp only [List.mem_cons, List.not_mem_nil, or_false] at hd
    rcases hd with h | h
    · exact ⟨1, h, by decide, by decide⟩
    · exact ⟨200, h, by decide, by decide⟩
  obtain ⟨a, rfl, a1, a2⟩ := hd
  refine ⟨by simp, by omega, by omega, by show 1 * (a : Int).toNat ≤ 1000000; omega, ?_⟩
  refine ⟨(false, [.int 1, .int 200]), rfl, hs, ⟨by simp, by decide⟩, fun d s5 hd hs => ?_⟩
  have hd : ∃ b : Nat, d = .int (b : Nat) ∧ 1 ≤ b ∧ b ≤ 200 := by
    have hd : d ∈ [D.int 1, .int 200] := hd
    simp only [List.mem_cons, List.not_mem_nil, or_false] at hd
    rcases hd with h | h
    · exact ⟨1, h, by decide, by decide⟩
    · exact ⟨200, h, by decide, by decide⟩
  obtain ⟨b, rfl, b1, b2⟩ := hd
  refine ⟨by omega, by omega, by show 1 * (b : Int).toNat ≤ 16777216; omega, ?_⟩
  have ea : (List.replicate (a : Int).toNat [D.int 1]).flatten = (List.replicate a (1 : Int)).map D.int := by rw [Int.toNat_natCast, flat_rep]
  have eb : (List.replicate (b : Int).toNat [D.int 3]).flatten = (List.replicate b (3 : Int)).map D.int := by rw [Int.toNat_natCast, flat_rep]
  rw [ea, eb]
  have va := rep_row (k := 1) a2 (by decide) (by decide)
  have vb := rep_row (k := 3) b2 (by decide) (by decide)
  have hc : ∀ d ∈ [D.tup [.lst [], .lst []], .tup [.lst [.tup [.int 0, .tup ((List.replicate a (1 : Int)).map D.int)]], .lst []], .tup [.lst [], .lst ((List.replicate b (3 : Int)).map D.int)]], ∃ (es : List (Nat × List Int)) (ls : List Int), d = .tup [.lst (es.map entD), .lst (ls.map D.int)] ∧ LogV es ∧ RowV 8 ls := by
    have ln : LogV [] := ⟨by decide, fun e he => by simp at he⟩
    intro d hd
    simp only [List.mem_cons, List.not_mem_nil, or_false] at hd
    rcases hd with rfl | rfl | rfl
    · exact ⟨[], [], rfl, ln, nil_row⟩
    · refine ⟨[(0, List.replicate a (1 : Int))], [], rfl, ⟨by show 1 ≤ 200; decide, fun e he => ?_⟩, nil_row⟩
      rw [List.mem_singleton.mp he]
      exact ⟨fun z => by have := congrArg List.length z; simp at this; omega, va⟩
    · exact ⟨[], _, rfl, ln, vb⟩
  refine ⟨fun k ρ => ∃ (s : List D) (k3 k4 k5 : Slot), ρ = [.un, .own p s, .v (.int (1 + u)), k3, k4, k5] ++ tabL Tb ∧ StOk s, ⟨s5, _, _, _, rfl, hs⟩, fun _ _ _ _ => trivial, ?_, ?_⟩
  · rintro k d ρ hk hd ⟨s, k3, k4, k5, rfl, hs⟩
    obtain ⟨es, ls, rfl, v1, v2⟩ := hc d (List.mem_of_getElem? hd)
    refine ⟨([], es, ls), rfl, hs, ⟨nil_row, v2, v1⟩, fun r s' hr hs' => ?_⟩
    have hr : r = .bl true := hr
    subst hr
    exact ⟨s', _, _, _, rfl, hs'⟩
  rintro ρ ⟨s, k3, k4, k5, rfl, hs⟩
  refine ⟨((8 : Int), 14), rfl, hs, ⟨by show (1 : Int) ≤ 8; decide, by show (8 : Int) ≤ 64; decide, by show (0 : Int) ≤ 14; decide, by show (14 : Int) ≤ 1000; decide⟩, fun d s2 hd hs => ?_⟩
  obtain ⟨ds, rfl, hl, hd⟩ := hd
  obtain ⟨fs, rfl, hf⟩ := ints_of (m := 8) hd
  have hl : ((fs.map D.int).length : Int) ≤ 14 := hl
  rw [List.length_map] at hl
  refine ⟨fs, rfl, hs, ⟨by omega, hf⟩, ⟨rfl, trivial⟩, fun r s' hr hs => ?_⟩
  have hr : r = .bl true := hr
  subst hr
  refine ⟨((0 : Int), 1 + u), rfl, hs, kc 0, fun r s' hr hs => ?_⟩
  exact hr
end
end Q
/-! E -/
set_option Elab.async false
set_option linter.all false
set_option maxRecDepth 100000
set_option maxHeartbeats 0
namespace Q
section
open PySem PySem.Spec PyProof.Rows L2 N
/-! the head -/
def exOk (K : PySem.W.Frag) (nm : Str) : Bool :=
  He.eqO (PySem.W.findIn K (.ref (He.ga K nm)) "__getattribute__") (some (some (.builtin "BaseException.__getattribute__"))) && (He.eqO (PySem.W.findIn K (.ref (He.ga K nm)) "__getattr__") (some none) &&
  (decide (PySem.W.subIn K (.ref (He.ga K nm)) (.type "BaseException") = some true) && (PySem.W.hasDictIn K (He.ga K nm) &&
  (He.eqO (PySem.W.findIn K (.ref (He.ga K nm)) "__class__") (some (some (.builtin "object.__class__"))) && (He.eqO (PySem.W.specialIn K (.builtin "object.__class__") "__get__") (some (some (.builtin "getset_descriptor.__get__"))) &&
  (decide (PySem.W.takesIn K (.builtin "object.__class__") = some true) && (decide (PySem.W.mroIn K (He.ga K nm) (.type "object") = some true) &&
  (decide (PySem.W.exmOne K (.ref (He.ga K nm)) (.ref (He.ga K "WorksError")) = some true) && (cls16.all (fun x => decide (PySem.W.kitOne K (.ref (He.ga K nm)) (.ref (He.ga K x)) = some (decide (x = nm)))) &&
  decide (PySem.W.kitOne K (.ref (He.ga K nm)) (.type "ValueError") = some true))))))))))
theorem kitX_of {K : PySem.W.Frag} {nm : Str} (h : exOk K nm = true) : KitX K nm := by
  obtain ⟨h1, h⟩ := He.ba h
  obtain ⟨h2, h⟩ := He.ba h
  obtain ⟨h3, h⟩ := He.ba h
  obtain ⟨h4, h⟩ := He.ba h
  obtain ⟨h5, h⟩ := He.ba h
  obtain ⟨h6, h⟩ := He.ba h
  obtain ⟨h7, h⟩ := He.ba h
  obtain ⟨h8, h⟩ := He.ba h
  obtain ⟨h9, h⟩ := He.ba h
  obtain ⟨h10, h11⟩ := He.ba h
  exact ⟨⟨He.eqO_ok h1, He.eqO_ok h2, of_decide_eq_true h3, h4, He.eqO_ok h5, He.eqO_ok h6, of_decide_eq_true h7, of_decide_eq_true h8⟩, of_decide_eq_true h9, fun x hx => of_decide_eq_true (List.all_eq_true.mp h10 x hx), of_decide_eq_true h11⟩
theorem noCX {P : Program} {w : World} {H : Hp} {s s' : Shared} {u : Value} (h : L2N.CX P w [] H s (fun _ _ _ => False) u s') : False := by
  obtain ⟨_, _, _, _, _, _, _, _, _, _, _, _, h⟩ := h
  exact h
abbrev dd (x : Str) (st : Stmt) (dv : List He.Dv) : He.DefD := ⟨(x, none), x, x, defArgs st, defBody st, defScope st, dv, []⟩
def fnL : List He.DefD := [dd "_law_mix" s_law_mix [], dd "_law_take" s_law_take [], dd "_law_pick" s_law_pick [], dd "_law_edge" s_law_edge [], dd "_law_no_number" s_law_no_number [], dd "_law_no_list" s_law_no_list [], dd "_law_outside" s_law_outside [], dd "_law_bent" s_law_bent [], dd "_law_arrangement" s_law_arrangement [], dd "_law_lot" s_law_lot [], dd "_law_row" s_law_row [], dd "_law_bad_row" s_law_bad_row [], dd "_law_same" s_law_same [], dd "_law_refused" s_law_refused [], dd "_law_shaped" s_law_shaped [], dd "_law_short_row" s_law_short_row [], dd "_law_store" s_law_store [], dd "is_whole" s_is_whole [], dd "is_kind" s_is_kind [], dd "is_row" s_is_row [], dd "checked_row" s_checked_row [.int 8], dd "singles_of" s_singles_of [], dd "gaps_of" s_gaps_of [], dd "is_short" s_is_short [], dd "first_places" s_first_places [], dd "last_places" s_last_places [], dd "start_for" s_start_for [], dd "is_cut" s_is_cut [], dd "_law_is_short" s_law_is_short [], dd "checked_log" s_checked_log [], dd "judge_log" s_judge_log [], dd "_law_word" s_law_word [], dd "_law_judged" s_law_judged [], dd "_law_grown_log" s_law_grown_log [], dd "_law_changed_section" s_law_changed_section [], dd "_law_changed_log" s_law_changed_log [], dd "_law_changed_left" s_law_changed_left [], dd "_law_case_right" s_law_case_right [], dd "_law_wrong_log" s_law_wrong_log [], dd "_law_long_right" s_law_long_right [], dd "_law_refusals_right" s_law_refusals_right [], dd "_law_answer" s_law_answer [], dd "law" s_law []]
def faL : List He.Fa := [.free "ValueError", .free "bool", .free "enumerate", .free "int", .free "isinstance", .free "len", .free "list", .free "max", .free "min", .free "range", .free "set", .free "str", .free "super", .free "tuple", .int "KINDS" 8, .int "PIECES" 200, .glo "BadPaper", .exc "BadPaper", .glo "BadRow", .exc "BadRow", .glo "BadBatch", .glo "BadFold", .glo "BadKind", .glo "BadLot", .glo "BadNumber", .glo "BadOrder", .glo "BadRing", .glo "BadRule", .glo "BadSlot", .glo "BadTable", .glo "BadText", .glo "Gains", .glo "Outside", .glo "TooMany", .glo "WorksError", .glo "_law_mix", .glo "_law_take", .glo "_law_pick", .glo "_law_edge", .glo "_law_no_number", .glo "_law_no_list", .glo "_law_outside", .glo "_law_bent", .glo "_law_arrangement", .glo "_law_lot", .glo "_law_row", .glo "_law_bad_row", .glo "_law_same", .glo "_law_refused", .glo "_law_shaped", .glo "_law_short_row", .glo "_law_store", .glo "is_whole", .glo "is_kind", .glo "is_row", .glo "checked_row", .glo "singles_of", .glo "gaps_of", .glo "is_short", .glo "first_places", .glo "last_places", .glo "start_for", .glo "is_cut", .glo "_law_is_short", .glo "checked_log", .glo "judge_log", .glo "_law_word", .glo "_law_judged", .glo "_law_grown_log", .glo "_law_changed_section", .glo "_law_changed_log", .glo "_law_changed_left", .glo "_law_case_right", .glo "_law_wrong_log", .glo "_law_long_right", .glo "_law_refusals_right", .glo "_law_answer", .glo "law"]
def tfL : List (Str × Option Str) := [("_law_long_right", none), ("_law_refusals_right", none)]
def TbK (K : PySem.W.Frag) : Tbs := tfL.map fun t => ((He.cT K t).2, lamQ t.1)
def tabDis (K : PySem.W.Frag) : Bool := (TbK K).all fun p => (TbK K).all fun p' => !decide (p.1 = p'.1) || decide (p.2 = p'.2)
theorem tabDis_ok {K : PySem.W.Frag} (h : tabDis K = true) : TabFn (TbK K) := fun p hp p' hp' e => by
  have h1 := List.all_eq_true.mp (List.all_eq_true.mp h p hp) p' hp'
  rw [decide_eq_true e] at h1
  exact of_decide_eq_true (by simpa using h1)
def exL (K : PySem.W.Frag) : Bool := tabDis K && cls13.all (exOk K)
abbrev R : PySem.W.OpenRow := PySem.W.OpenLaw.row PySem.Challenge.rw_staysandturns_k21_judge_log_words
abbrev hk : PySem.W.Hook := He.hookX 5 faL fnL [] tfL exL
def ob (s : PySem.W.SharedT) : He.AlX := He.obsX 5 faL fnL [] tfL exL (HandSHeadRun.getT s)
theorem ob_eq (s : PySem.W.SharedT) : ob s = hk.obs s.abs := He.obsX_eq (HandSHeadRun.getT_eq s)
def names0 : List PySem.Str := ["WorksError", "BadNumber", "BadTable", "BadKind", "BadLot", "BadOrder", "BadBatch", "BadRow", "BadFold", "BadRing", "BadSlot", "BadPaper", "BadRule", "Outside", "BadText", "TooMany", "Gains", "KINDS", "PIECES", "is_whole", "is_kind", "is_row", "checked_row", "singles_of", "gaps_of", "is_short", "first_places", "last_places", "start_for", "is_cut"]
def names1 : List PySem.Str := ["checked_log", "judge_log", "_law_store", "_law_mix", "_law_take", "_law_pick", "_law_edge", "_law_no_number", "_law_no_list", "_law_outside", "_law_bent", "_law_shaped", "_law_lot", "_law_arrangement", "_law_row", "_law_short_row", "_law_bad_row", "_law_same", "_law_answer", "_law_refused", "_law_is_short", "_law_grown_log", "_law_changed_section", "_law_changed_log", "_law_changed_left", "_law_word", "_law_judged", "_law_case_right", "_law_long_right", "_law_wrong_log"]
def names2 : List PySem.Str := ["_law_refusals_right"]
def names : List PySem.Str := names0 ++ names1 ++ names2
theorem run (w : World) : HandSHeadRun.RunEq R (PySem.W.view R.prog [65]) hk ob 6000 names w := by
  intro os
  kernel_rfl
theorem facts {P : Program} {w : World} {K : PySem.W.Frag} {h : Heap} {mg : Str → Option Value} {fa : Addr} (X : K.In h) (G : h.Ns mainGlobals mg) (hfa : mg ("law" : Str) = some (.ref fa)) (c : He.SaysX faL fnL [] tfL exL w h K) :
    ∃ fd : FuncData, (∀ (s : Shared) (v : Value), BindsTo s fd ⟨[v], []⟩ [("script", v)]) ∧ ∀ base : Heap, (∀ t ∈ tfL, LamX.TabB base mg (He.cT K t).1 (He.cT K t).2) → FnOk P w K mg base (L2N.CX P w) 10 fa fd ["script"] (spLaw K ((TbK K).map (·.1))) := by
  have cd := c.t.d
  obtain ⟨m1, m2⟩ := He.ba c.more
  have hTb : TabFn (TbK K) := tabDis_ok m1
  have kx : ∀ nm ∈ cls13, KitX K nm := fun nm hn => kitX_of (List.all_eq_true.mp m2 nm hn)
  obtain ⟨fd0, F0⟩ := cd.def_ 0 (d := dd "_law_mix" s_law_mix []) rfl
  have F0 : Fd K "_law_mix" s_law_mix [] (He.fAd K ("_law_mix", none)) fd0 := F0
  have g0 : mg "_law_mix" = some (.ref (He.fAd K ("_law_mix", none))) := He.glo_ok X G (cd.fact 35 (f := .glo "_law_mix") rfl)
  obtain ⟨fd1, F1⟩ := cd.def_ 1 (d := dd "_law_take" s_law_take []) rfl
  have F1 : Fd K "_law_take" s_law_take [] (He.fAd K ("_law_take", none)) fd1 := F1
  have g1 : mg "_law_take" = some (.ref (He.fAd K ("_law_take", none))) := He.glo_ok X G (cd.fact 36 (f := .glo "_law_take") rfl)
  obtain ⟨fd2, F2⟩ := cd.def_ 2 (d := dd "_law_pick" s_law_pick []) rfl
  have F2 : Fd K "_law_pick" s_law_pick [] (He.fAd K ("_law_pick", none)) fd2 := F2
  have g2 : mg "_law_pick" = some (.ref (He.fAd K ("_law_pick", none))) := He.glo_ok X G (cd.fact 37 (f := .glo "_law_pick") rfl)
  obtain ⟨fd3, F3⟩ := cd.def_ 3 (d := dd "_law_edge" s_law_edge []) rfl
  have F3 : Fd K "_law_edge" s_law_edge [] (He.fAd K ("_law_edge", none)) fd3 := F3
  have g3 : mg "_law_edge" = some (.ref (He.fAd K ("_law_edge", none))) := He.glo_ok X G (cd.fact 38 (f := .glo "_law_edge") rfl)
  obtain ⟨fd4, F4⟩ := cd.def_ 4 (d := dd "_law_no_number" s_law_no_number []) rfl
  have F4 : Fd K "_law_no_number" s_law_no_number [] (He.fAd K ("_law_no_number", none)) fd4 := F4
  have g4 : mg "_law_no_number" = some (.ref (He.fAd K ("_law_no_number", none))) := He.glo_ok X G (cd.fact 39 (f := .glo "_law_no_number") rfl)
  obtain ⟨fd5, F5⟩ := cd.def_ 5 (d := dd "_law_no_list" s_law_no_list []) rfl
  have F5 : Fd K "_law_no_list" s_law_no_list [] (He.fAd K ("_law_no_list", none)) fd5 := F5
  have g5 : mg "_law_no_list" = some (.ref (He.fAd K ("_law_no_list", none))) := He.glo_ok X G (cd.fact 40 (f := .glo "_law_no_list") rfl)
  obtain ⟨fd6, F6⟩ := cd.def_ 6 (d := dd "_law_outside" s_law_outside []) rfl
  have F6 : Fd K "_law_outside" s_law_outside [] (He.fAd K ("_law_outside", none)) fd6 := F6
  have g6 : mg "_law_outside" = some (.ref (He.fAd K ("_law_outside", none))) := He.glo_ok X G (cd.fact 41 (f := .glo "_law_outside") rfl)
  obtain ⟨fd7, F7⟩ := cd.def_ 7 (d := dd "_law_bent" s_law_bent []) rfl
  have F7 : Fd K "_law_bent" s_law_bent [] (He.fAd K ("_law_bent", none)) fd7 := F7
  have g7 : mg "_law_bent" = some (.ref (He.fAd K ("_law_bent", none))) := He.glo_ok X G (cd.fact 42 (f := .glo "_law_bent") rfl)
  obtain ⟨fd8, F8⟩ := cd.def_ 8 (d := dd "_law_arrangement" s_law_arrangement []) rfl
  have F8 : Fd K "_law_arrangement" s_law_arrangement [] (He.fAd K ("_law_arrangement", none)) fd8 := F8
  have g8 : mg "_law_arrangement" = some (.ref (He.fAd K ("_law_arrangement", none))) := He.glo_ok X G (cd.fact 43 (f := .glo "_law_arrangement") rfl)
  obtain ⟨fd9, F9⟩ := cd.def_ 9 (d := dd "_law_lot" s_law_lot []) rfl
  have F9 : Fd K "_law_lot" s_law_lot [] (He.fAd K ("_law_lot", none)) fd9 := F9
  have g9 : mg "_law_lot" = some (.ref (He.fAd K ("_law_lot", none))) := He.glo_ok X G (cd.fact 44 (f := .glo "_law_lot") rfl)
  obtain ⟨fd10, F10⟩ := cd.def_ 10 (d := dd "_law_row" s_law_row []) rfl
  have F10 : Fd K "_law_row" s_law_row [] (He.fAd K ("_law_row", none)) fd10 := F10
  have g10 : mg "_law_row" = some (.ref (He.fAd K ("_law_row", none))) := He.glo_ok X G (cd.fact 45 (f := .glo "_law_row") rfl)
  obtain ⟨fd11, F11⟩ := cd.def_ 11 (d := dd "_law_bad_row" s_law_bad_row []) rfl
  have F11 : Fd K "_law_bad_row" s_law_bad_row [] (He.fAd K ("_law_bad_row", none)) fd11 := F11
  have g11 : mg "_law_bad_row" = some (.ref (He.fAd K ("_law_bad_row", none))) := He.glo_ok X G (cd.fact 46 (f := .glo "_law_bad_row") rfl)
  obtain ⟨fd12, F12⟩ := cd.def_ 12 (d := dd "_law_same" s_law_same []) rfl
  have F12 : Fd K "_law_same" s_law_same [] (He.fAd K ("_law_same", none)) fd12 := F12
  have g12 : mg "_law_same" = some (.ref (He.fAd K ("_law_same", none))) := He.glo_ok X G (cd.fact 47 (f := .glo "_law_same") rfl)
  obtain ⟨fd13, F13⟩ := cd.def_ 13 (d := dd "_law_refused" s_law_refused []) rfl
  have F13 : Fd K "_law_refused" s_law_refused [] (He.fAd K ("_law_refused", none)) fd13 := F13
  have g13 : mg "_law_refused" = some (.ref (He.fAd K ("_law_refused", none))) := He.glo_ok X G (cd.fact 48 (f := .glo "_law_refused") rfl)
  obtain ⟨fd14, F14⟩ := cd.def_ 14 (d := dd "_law_shaped" s_law_shaped []) rfl
  have F14 : Fd K "_law_shaped" s_law_shaped [] (He.fAd K ("_law_shaped", none)) fd14 := F14
  have g14 : mg "_law_shaped" = some (.ref (He.fAd K ("_law_shaped", none))) := He.glo_ok X G (cd.fact 49 (f := .glo "_law_shaped") rfl)
  obtain ⟨fd15, F15⟩ := cd.def_ 15 (d := dd "_law_short_row" s_law_short_row []) rfl
  have F15 : Fd K "_law_short_row" s_law_short_row [] (He.fAd K ("_law_short_row", none)) fd15 := F15
  have g15 : mg "_law_short_row" = some (.ref (He.fAd K ("_law_short_row", none))) := He.glo_ok X G (cd.fact 50 (f := .glo "_law_short_row") rfl)
  obtain ⟨fd16, F16⟩ := cd.def_ 16 (d := dd "_law_store" s_law_store []) rfl
  have F16 : Fd K "_law_store" s_law_store [] (He.fAd K ("_law_store", none)) fd16 := F16
  have g16 : mg "_law_store" = some (.ref (He.fAd K ("_law_store", none))) := He.glo_ok X G (cd.fact 51 (f := .glo "_law_store") rfl)
  obtain ⟨fd17, F17⟩ := cd.def_ 17 (d := dd "is_whole" s_is_whole []) rfl
  have F17 : Fd K "is_whole" s_is_whole [] (He.fAd K ("is_whole", none)) fd17 := F17
  have g17 : mg "is_whole" = some (.ref (He.fAd K ("is_whole", none))) := He.glo_ok X G (cd.fact 52 (f := .glo "is_whole") rfl)
  obtain ⟨fd18, F18⟩ := cd.def_ 18 (d := dd "is_kind" s_is_kind []) rfl
  have F18 : Fd K "is_kind" s_is_kind [] (He.fAd K ("is_kind", none)) fd18 := F18
  have g18 : mg "is_kind" = some (.ref (He.fAd K ("is_kind", none))) := He.glo_ok X G (cd.fact 53 (f := .glo "is_kind") rfl)
  obtain ⟨fd19, F19⟩ := cd.def_ 19 (d := dd "is_row" s_is_row []) rfl
  have F19 : Fd K "is_row" s_is_row [] (He.fAd K ("is_row", none)) fd19 := F19
  have g19 : mg "is_row" = some (.ref (He.fAd K ("is_row", none))) := He.glo_ok X G (cd.fact 54 (f := .glo "is_row") rfl)
  obtain ⟨fd20, F20⟩ := cd.def_ 20 (d := dd "checked_row" s_checked_row [.int 8]) rfl
  have F20 : Fd K "checked_row" s_checked_row (intD [8]) (He.fAd K ("checked_row", none)) fd20 := F20
  have g20 : mg "checked_row" = some (.ref (He.fAd K ("checked_row", none))) := He.glo_ok X G (cd.fact 55 (f := .glo "checked_row") rfl)
  obtain ⟨fd21, F21⟩ := cd.def_ 21 (d := dd "singles_of" s_singles_of []) rfl
  have F21 : Fd K "singles_of" s_singles_of [] (He.fAd K ("singles_of", none)) fd21 := F21
  have g21 : mg "singles_of" = some (.ref (He.fAd K ("singles_of", none))) := He.glo_ok X G (cd.fact 56 (f := .glo "singles_of") rfl)
  obtain ⟨fd22, F22⟩ := cd.def_ 22 (d := dd "gaps_of" s_gaps_of []) rfl
  have F22 : Fd K "gaps_of" s_gaps_of [] (He.fAd K ("gaps_of", none)) fd22 := F22
  have g22 : mg "gaps_of" = some (.ref (He.fAd K ("gaps_of", none))) := He.glo_ok X G (cd.fact 57 (f := .glo "gaps_of") rfl)
  obtain ⟨fd23, F23⟩ := cd.def_ 23 (d := dd "is_short" s_is_short []) rfl
  have F23 : Fd K "is_short" s_is_short [] (He.fAd K ("is_short", none)) fd23 := F23
  have g23 : mg "is_short" = some (.ref (He.fAd K ("is_short", none))) := He.glo_ok X G (cd.fact 58 (f := .glo "is_short") rfl)
  obtain ⟨fd24, F24⟩ := cd.def_ 24 (d := dd "first_places" s_first_places []) rfl
  have F24 : Fd K "first_places" s_first_places [] (He.fAd K ("first_places", none)) fd24 := F24
  have g24 : mg "first_places" = some (.ref (He.fAd K ("first_places", none))) := He.glo_ok X G (cd.fact 59 (f := .glo "first_places") rfl)
  obtain ⟨fd25, F25⟩ := cd.def_ 25 (d := dd "last_places" s_last_places []) rfl
  have F25 : Fd K "last_places" s_last_places [] (He.fAd K ("last_places", none)) fd25 := F25
  have g25 : mg "last_places" = some (.ref (He.fAd K ("last_places", none))) := He.glo_ok X G (cd.fact 60 (f := .glo "last_places") rfl)
  obtain ⟨fd26, F26⟩ := cd.def_ 26 (d := dd "start_for" s_start_for []) rfl
  have F26 : Fd K "start_for" s_start_for [] (He.fAd K ("start_for", none)) fd26 := F26
  have g26 : mg "start_for" = some (.ref (He.fAd K ("start_for", none))) := He.glo_ok X G (cd.fact 61 (f := .glo "start_for") rfl)
  obtain ⟨fd27, F27⟩ := cd.def_ 27 (d := dd "is_cut" s_is_cut []) rfl
  have F27 : Fd K "is_cut" s_is_cut [] (He.fAd K ("is_cut", none)) fd27 := F27
  have g27 : mg "is_cut" = some (.ref (He.fAd K ("is_cut", none))) := He.glo_ok X G (cd.fact 62 (f := .glo "is_cut") rfl)
  obtain ⟨fd28, F28⟩ := cd.def_ 28 (d := dd "_law_is_short" s_law_is_short []) rfl
  have F28 : Fd K "_law_is_short" s_law_is_short [] (He.fAd K ("_law_is_short", none)) fd28 := F28
  have g28 : mg "_law_is_short" = some (.ref (He.fAd K ("_law_is_short", none))) := He.glo_ok X G (cd.fact 63 (f := .glo "_law_is_short") rfl)
  obtain ⟨fd29, F29⟩ := cd.def_ 29 (d := dd "checked_log" s_checked_log []) rfl
  have F29 : Fd K "checked_log" s_checked_log [] (He.fAd K ("checked_log", none)) fd29 := F29
  have g29 : mg "checked_log" = some (.ref (He.fAd K ("checked_log", none))) := He.glo_ok X G (cd.fact 64 (f := .glo "checked_log") rfl)
  obtain ⟨fd30, F30⟩ := cd.def_ 30 (d := dd "judge_log" s_judge_log []) rfl
  have F30 : Fd K "judge_log" s_judge_log [] (He.fAd K ("judge_log", none)) fd30 := F30
  have g30 : mg "judge_log" = some (.ref (He.fAd K ("judge_log", none))) := He.glo_ok X G (cd.fact 65 (f := .glo "judge_log") rfl)
  obtain ⟨fd31, F31⟩ := cd.def_ 31 (d := dd "_law_word" s_law_word []) rfl
  have F31 : Fd K "_law_word" s_law_word [] (He.fAd K ("_law_word", none)) fd31 := F31
  have g31 : mg "_law_word" = some (.ref (He.fAd K ("_law_word", none))) := He.glo_ok X G (cd.fact 66 (f := .glo "_law_word") rfl)
  obtain ⟨fd32, F32⟩ := cd.def_ 32 (d := dd "_law_judged" s_law_judged []) rfl
  have F32 : Fd K "_law_judged" s_law_judged [] (He.fAd K ("_law_judged", none)) fd32 := F32
  have g32 : mg "_law_judged" = some (.ref (He.fAd K ("_law_judged", none))) := He.glo_ok X G (cd.fact 67 (f := .glo "_law_judged") rfl)
  obtain ⟨fd33, F33⟩ := cd.def_ 33 (d := dd "_law_grown_log" s_law_grown_log []) rfl
  have F33 : Fd K "_law_grown_log" s_law_grown_log [] (He.fAd K ("_law_grown_log", none)) fd33 := F33
  have g33 : mg "_law_grown_log" = some (.ref (He.fAd K ("_law_grown_log", none))) := He.glo_ok X G (cd.fact 68 (f := .glo "_law_grown_log") rfl)
  obtain ⟨fd34, F34⟩ := cd.def_ 34 (d := dd "_law_changed_section" s_law_changed_section []) rfl
  have F34 : Fd K "_law_changed_section" s_law_changed_section [] (He.fAd K ("_law_changed_section", none)) fd34 := F34
  have g34 : mg "_law_changed_section" = some (.ref (He.fAd K ("_law_changed_section", none))) := He.glo_ok X G (cd.fact 69 (f := .glo "_law_changed_section") rfl)
  obtain ⟨fd35, F35⟩ := cd.def_ 35 (d := dd "_law_changed_log" s_law_changed_log []) rfl
  have F35 : Fd K "_law_changed_log" s_law_changed_log [] (He.fAd K ("_law_changed_log", none)) fd35 := F35
  have g35 : mg "_law_changed_log" = some (.ref (He.fAd K ("_law_changed_log", none))) := He.glo_ok X G (cd.fact 70 (f := .glo "_law_changed_log") rfl)
  obtain ⟨fd36, F36⟩ := cd.def_ 36 (d := dd "_law_changed_left" s_law_changed_left []) rfl
  have F36 : Fd K "_law_changed_left" s_law_changed_left [] (He.fAd K ("_law_changed_left", none)) fd36 := F36
  have g36 : mg "_law_changed_left" = some (.ref (He.fAd K ("_law_changed_left", none))) := He.glo_ok X G (cd.fact 71 (f := .glo "_law_changed_left") rfl)
  obtain ⟨fd37, F37⟩ := cd.def_ 37 (d := dd "_law_case_right" s_law_case_right []) rfl
  have F37 : Fd K "_law_case_right" s_law_case_right [] (He.fAd K ("_law_case_right", none)) fd37 := F37
  have g37 : mg "_law_case_right" = some (.ref (He.fAd K ("_law_case_right", none))) := He.glo_ok X G (cd.fact 72 (f := .glo "_law_case_right") rfl)
  obtain ⟨fd38, F38⟩ := cd.def_ 38 (d := dd "_law_wrong_log" s_law_wrong_log []) rfl
  have F38 : Fd K "_law_wrong_log" s_law_wrong_log [] (He.fAd K ("_law_wrong_log", none)) fd38 := F38
  have g38 : mg "_law_wrong_log" = some (.ref (He.fAd K ("_law_wrong_log", none))) := He.glo_ok X G (cd.fact 73 (f := .glo "_law_wrong_log") rfl)
  obtain ⟨fd39, F39⟩ := cd.def_ 39 (d := dd "_law_long_right" s_law_long_right []) rfl
  have F39 : Fd K "_law_long_right" s_law_long_right [] (He.fAd K ("_law_long_right", none)) fd39 := F39
  have g39 : mg "_law_long_right" = some (.ref (He.fAd K ("_law_long_right", none))) := He.glo_ok X G (cd.fact 74 (f := .glo "_law_long_right") rfl)
  obtain ⟨fd40, F40⟩ := cd.def_ 40 (d := dd "_law_refusals_right" s_law_refusals_right []) rfl
  have F40 : Fd K "_law_refusals_right" s_law_refusals_right [] (He.fAd K ("_law_refusals_right", none)) fd40 := F40
  have g40 : mg "_law_refusals_right" = some (.ref (He.fAd K ("_law_refusals_right", none))) := He.glo_ok X G (cd.fact 75 (f := .glo "_law_refusals_right") rfl)
  obtain ⟨fd41, F41⟩ := cd.def_ 41 (d := dd "_law_answer" s_law_answer []) rfl
  have F41 : Fd K "_law_answer" s_law_answer [] (He.fAd K ("_law_answer", none)) fd41 := F41
  have g41 : mg "_law_answer" = some (.ref (He.fAd K ("_law_answer", none))) := He.glo_ok X G (cd.fact 76 (f := .glo "_law_answer") rfl)
  obtain ⟨fd42, F42⟩ := cd.def_ 42 (d := dd "law" s_law []) rfl
  have F42 : Fd K "law" s_law [] (He.fAd K ("law", none)) fd42 := F42
  have g42 : mg "law" = some (.ref (He.fAd K ("law", none))) := He.glo_ok X G (cd.fact 77 (f := .glo "law") rfl)
  have e := hfa.symm.trans g42
  cases e
  have b := FunD.bindsA (ps := ["script"]) F42 fun _ _ _ _ _ _ us hl => match us, hl with | [_], _ => rfl
  refine ⟨fd42, fun s v => b s [v] rfl, fun base hTB => ?_⟩
  have T : Tx K mg := ⟨He.free_ok X G (cd.fact 0 (f := .free "ValueError") rfl), He.free_ok X G (cd.fact 1 (f := .free "bool") rfl), He.free_ok X G (cd.fact 2 (f := .free "enumerate") rfl), He.free_ok X G (cd.fact 3 (f := .free "int") rfl), He.free_ok X G (cd.fact 4 (f := .free "isinstance") rfl), He.free_ok X G (cd.fact 5 (f := .free "len") rfl), He.free_ok X G (cd.fact 6 (f := .free "list") rfl), He.free_ok X G (cd.fact 7 (f := .free "max") rfl), He.free_ok X G (cd.fact 8 (f := .free "min") rfl), He.free_ok X G (cd.fact 9 (f := .free "range") rfl), He.free_ok X G (cd.fact 10 (f := .free "set") rfl), He.free_ok X G (cd.fact 11 (f := .free "str") rfl), He.free_ok X G (cd.fact 12 (f := .free "super") rfl), He.free_ok X G (cd.fact 13 (f := .free "tuple") rfl), He.int_ok X G (cd.fact 14 (f := .int "KINDS" 8) rfl), He.int_ok X G (cd.fact 15 (f := .int "PIECES" 200) rfl), He.glo_ok X G (cd.fact 16 (f := .glo "BadPaper") rfl), He.exc_ok (cd.fact 17 (f := .exc "BadPaper") rfl), He.glo_ok X G (cd.fact 18 (f := .glo "BadRow") rfl), He.exc_ok (cd.fact 19 (f := .exc "BadRow") rfl), He.glo_ok X G (cd.fact 20 (f := .glo "BadBatch") rfl), He.glo_ok X G (cd.fact 21 (f := .glo "BadFold") rfl), He.glo_ok X G (cd.fact 22 (f := .glo "BadKind") rfl), He.glo_ok X G (cd.fact 23 (f := .glo "BadLot") rfl), He.glo_ok X G (cd.fact 24 (f := .glo "BadNumber") rfl), He.glo_ok X G (cd.fact 25 (f := .glo "BadOrder") rfl), He.glo_ok X G (cd.fact 26 (f := .glo "BadRing") rfl), He.glo_ok X G (cd.fact 27 (f := .glo "BadRule") rfl), He.glo_ok X G (cd.fact 28 (f := .glo "BadSlot") rfl), He.glo_ok X G (cd.fact 29 (f := .glo "BadTable") rfl), He.glo_ok X G (cd.fact 30 (f := .glo "BadText") rfl), He.glo_ok X G (cd.fact 31 (f := .glo "Gains") rfl), He.glo_ok X G (cd.fact 32 (f := .glo "Outside") rfl), He.glo_ok X G (cd.fact 33 (f := .glo "TooMany") rfl), He.glo_ok X G (cd.fact 34 (f := .glo "WorksError") rfl)⟩
  have TO__law_long_right : TabO base mg K (TbK K) "_law_long_right" := ⟨hTB _ (by simp [tfL]), List.mem_map.mpr ⟨("_law_long_right", none), by simp [tfL], rfl⟩⟩
  have TO__law_refusals_right : TabO base mg K (TbK K) "_law_refusals_right" := ⟨hTB _ (by simp [tfL]), List.mem_map.mpr ⟨("_law_refusals_right", none), by simp [tfL], rfl⟩⟩
  have h_law_mix := has_law_mix (P := P) (w := w) (base := base) T  F0 g0
  have h_law_take := has_law_take (P := P) (w := w) (base := base) T h_law_mix F1 g1
  have h_law_pick := has_law_pick (P := P) (w := w) (base := base) T h_law_take F2 g2
  have h_law_edge := has_law_edge (P := P) (w := w) (base := base) T h_law_take F3 g3
  have h_law_no_number := has_law_no_number (P := P) (w := w) (base := base) T h_law_pick F4 g4
  have h_law_no_list := has_law_no_list (P := P) (w := w) (base := base) T h_law_pick F5 g5
  have h_law_outside := has_law_outside (P := P) (w := w) (base := base) T h_law_take h_law_no_number h_law_pick F6 g6
  have h_law_bent := has_law_bent (P := P) (w := w) (base := base) T h_law_outside h_law_take F7 g7
  have h_law_arrangement := has_law_arrangement (P := P) (w := w) (base := base) T h_law_take F8 g8
  have h_law_lot := has_law_lot (P := P) (w := w) (base := base) T h_law_take F9 g9
  have h_law_row := has_law_row (P := P) (w := w) (base := base) T h_law_edge h_law_take h_law_pick F10 g10
  have h_law_bad_row := has_law_bad_row (P := P) (w := w) (base := base) T h_law_row h_law_take h_law_no_list h_law_bent F11 g11
  have h_law_same := has_law_same (P := P) (w := w) (base := base) T  F12 g12
  have h_law_refused := has_law_refused (P := P) (w := w) (base := base) T h_law_same F13 g13
  have h_law_shaped := has_law_shaped (P := P) (w := w) (base := base) T  F14 g14 4
  have h_law_short_row := has_law_short_row (P := P) (w := w) (base := base) T h_law_arrangement h_law_take F15 g15
  have h_law_store := has_law_store (P := P) (w := w) (base := base) T  F16 g16
  have h_is_whole := has_is_whole (P := P) (w := w) (base := base) T  F17 g17
  have h_is_kind := has_is_kind (P := P) (w := w) (base := base) T h_is_whole F18 g18
  have h_is_row := has_is_row (P := P) (w := w) (base := base) T h_is_kind F19 g19
  have h_is_row_R := has_is_row_R (P := P) (w := w) (base := base) T h_is_kind F19 g19
  have h_checked_row := has_checked_row (P := P) (w := w) (base := base) T h_is_row F20 g20
  have h_checked_row_R := has_checked_row_R (P := P) (w := w) (base := base) T h_is_row_R F20 g20
  have h_singles_of := has_singles_of (P := P) (w := w) (base := base) T  F21 g21
  have h_gaps_of := has_gaps_of (P := P) (w := w) (base := base) T h_singles_of F22 g22
  have h_is_short := has_is_short (P := P) (w := w) (base := base) T h_checked_row h_gaps_of F23 g23
  have h_is_short_R := has_is_short_R (P := P) (w := w) (base := base) T h_checked_row_R h_gaps_of F23 g23
  have h_first_places := has_first_places (P := P) (w := w) (base := base) T  F24 g24
  have h_last_places := has_last_places (P := P) (w := w) (base := base) T  F25 g25
  have h_start_for := has_start_for (P := P) (w := w) (base := base) T  F26 g26
  have h_is_cut := has_is_cut (P := P) (w := w) (base := base) T h_start_for h_last_places h_first_places F27 g27
  have h_law_is_short := has_law_is_short (P := P) (w := w) (base := base) T  F28 g28
  have h_checked_log := has_checked_log (P := P) (w := w) (base := base) T h_is_whole h_is_row F29 g29
  have h_judge_log := has_judge_log (P := P) (w := w) (base := base) T h_checked_row h_checked_log h_is_row h_is_cut h_is_short F30 g30
  have h_law_word := has_law_word (P := P) (w := w) (base := base) T h_law_is_short F31 g31
  have h_law_judged := has_law_judged (P := P) (w := w) (base := base) T h_law_take h_law_shaped h_law_same h_law_word h_judge_log F32 g32
  have h_law_grown_log := has_law_grown_log (P := P) (w := w) (base := base) T h_law_take h_law_arrangement F33 g33
  have h_law_changed_section := has_law_changed_section (P := P) (w := w) (base := base) T h_law_take F34 g34
  have h_law_changed_log := has_law_changed_log (P := P) (w := w) (base := base) T h_law_take h_law_changed_section F35 g35
  have h_law_changed_left := has_law_changed_left (P := P) (w := w) (base := base) T h_law_take F36 g36
  have h_law_case_right := has_law_case_right (P := P) (w := w) (base := base) T h_law_row h_law_short_row h_law_lot h_law_grown_log h_law_take h_law_changed_log h_law_changed_left h_law_judged F37 g37
  have h_law_wrong_log := has_law_wrong_log (P := P) (w := w) (base := base) T h_law_take h_law_pick h_law_no_list F38 g38
  have h_law_long_right := has_law_long_right (P := P) (w := w) (base := base) (Tb := TbK K) T hTb TO__law_long_right F41 g41 kx h_law_take h_law_refused h_judge_log h_law_judged F39 g39
  have h_law_refusals_right := has_law_refusals_right (P := P) (w := w) (base := base) (Tb := TbK K) T hTb TO__law_refusals_right F41 g41 kx h_law_bad_row h_law_wrong_log h_judge_log h_law_refused F40 g40
  exact ok_law (Tb := TbK K) T h_law_store h_law_take h_law_pick h_law_case_right h_law_long_right h_law_judged h_law_refusals_right h_law_row F42
end
end Q
section
open PySem PySem.W PySem.Calls PyProof.Rows
theorem PySem.Challenge.cw_staysandturns_k21_judge_log_words_holds : PySem.Challenge.rw_staysandturns_k21_judge_log_words.Holds := by
  w_on; o_law
  refine HandSHeadRun.head_any (r := Q.R) (q := view Q.R.prog [65]) (H := Q.hk) (ob := Q.ob) (M := 6000) (loose := Q.names) (d := HandSHeadRun.topDef Q.R.prog 65) (kwd := []) Q.ob_eq
    (by kernel_rfl) (fun s => by kernel_rfl) Q.run (by kernel_rfl) (by kernel_rfl) (by kernel_rfl) (by rfl) (by first | assumption | decide +kernel) (by decide +kernel) ⟨rfl, rfl, rfl, rfl, rfl, by decide +kernel⟩ ?hw ?hc
  case hw => w_witness2
  case hc =>
    refine LamX.walk_ofTsE (l := PySem.Challenge.rw_staysandturns_k21_judge_log_words) (n := 63) (k := 10) (x := "script") (CX := L2N.CX (PySem.Challenge.rw_staysandturns_k21_judge_log_words).prog) rfl (by decide) (by kernel_rfl) ⟨rfl, by decide, by decide⟩ ?F ?hCX
    case hCX =>
      intro w H s e s' h
      exact Q.noCX h
    case F =>
      intro w mg fa h Y G hmg0
      obtain ⟨K, KX, c⟩ := Y
      have hmg : mg ("law" : PySem.Str) = some (.ref fa) := by
        have e : (HandSHeadRun.topDef Q.R.prog 65).name = ("law" : PySem.Str) := by kernel_rfl
        rw [← e]
        exact hmg0
      obtain ⟨fd, hb, hF⟩ := Q.facts (P := (PySem.Challenge.rw_staysandturns_k21_judge_log_words).prog) (w := w) KX G hmg c
      refine ⟨K, KX, fd, Q.tfL.map (He.cT K), N.spLaw K ((Q.TbK K).map (·.1)), fun p hp => ?_, fun p hp => ?_, fun p hp => ?_, hb, fun H a ns hl _ hT hS => ⟨a, ns, rfl, by omega, hS, fun P hP => ?_, fun _ => rfl⟩, fun base _ _ hT => hF base fun t ht => hT _ (List.mem_map.mpr ⟨t, ht, rfl⟩)⟩
      · obtain ⟨t, ht, rfl⟩ := List.mem_map.mp hp
        exact c.empty _ ht
      · obtain ⟨t, ht, rfl⟩ := List.mem_map.mp hp
        exact c.out _ ht
      · obtain ⟨t, ht, rfl⟩ := List.mem_map.mp hp
        exact PySem.W.codeHd_of_K KX (c.hd _ ht)
      · obtain ⟨q, hq, rfl⟩ := List.mem_map.mp hP
        obtain ⟨t, ht, rfl⟩ := List.mem_map.mp hq
        exact hT _ (List.mem_map.mpr ⟨t, ht, rfl⟩)
end
