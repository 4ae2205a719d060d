import PyProof.Rows.All
import Wide.All
import OpenK.AllK
import Wide.FinOn
import HandS.ForMost
import HandS.ForExc
import HandS.IsInst
import HandS.Style
import HandS.Zip
import HandS.Defaults
import HandS.SetFor
import HandS.Wide
import HandS.TupAny
import HandS.Conv
import HandS.Lambda
import HandS.ExcIs
import HandS.HeadHook4
import HandS.HotCalls
import HandS.Deep
import KE.GoesMore
import KE.GoesEnum
import HandS.Walk
import HandS.Zip0
import HandS.TupMul
import HandS.NoneIn
import KE.KExcSuper
import HandS.ExcInit
import HandS.ExcSuper
import HandS.ExcField
import KE.KExcIs
import HandS.Rev
import KE.KRevSl
import HandS.Property
import HandS.HeadWalk
import HandS.Head0
import HandS.Head1
import HandS.Head2
import HandS.HeadEnd
import KE.KStateDown
import Lean
import PySem.Challenge.RW_staysandturns_k09_house_overs_of_lots
/-! N0 -/
set_option Elab.async false
set_option linter.all false
set_option maxRecDepth 100000
set_option maxHeartbeats 1000000
/-! N0: data, what stands for data, states of a def by slots, the judgements over data. -/
namespace N
open PySem PySem.Spec PyProof.Rows L2

/-! ### data -/
inductive D where
  | non | bl (b : Bool) | int (i : Int) | str (s : Str) | tup (ds : List D) | lst (ds : List D)
  | dic (kvs : List (Key × V)) | obj (a : Addr) | ins (C : Addr) (ns : List Str) (ds : List D) | ty (n : String)

/-- a list that stays: locked -/
def FzL (K : PySem.W.Frag) (H : Hp) (a : Addr) (xs : List V) : Prop := ∃ o, H a = some (.frz o (.lst xs))
theorem FzL.sq {K : PySem.W.Frag} {H : Hp} {a : Addr} {xs : List V} (h : FzL K H a xs) : SqL K H a xs := by
  obtain ⟨o, h⟩ := h
  exact .inl (.inr ⟨o, h⟩)
/-- a tuple of which is known that it has no dict (its methods can be called) -/
def TpN (K : PySem.W.Frag) (H : Hp) (a : Addr) (xs : List V) : Prop := (∃ o : Obj, o.dict = none ∧ H a = some (.frz o (.tup xs))) ∨
  ∃ (o : Obj) (its : Array Value) (n : Nat), o.dict = none ∧ K.lookup a = some o ∧ o.cls = .type "tuple" ∧ o.data = .seq its n ∧ its.size ≤ sizeLine ∧ Vals xs its.toList
theorem TpN.sq {K : PySem.W.Frag} {H : Hp} {a : Addr} {xs : List V} (h : TpN K H a xs) : SqT K H a xs := by
  rcases h with ⟨o, _, h⟩ | ⟨o, its, n, _, h⟩
  · exact .inl (.inr ⟨o, h⟩)
  · exact .inr ⟨o, its, n, h⟩
/-- a dict that stays -/
def FzD (H : Hp) (a : Addr) (kvs : List (Key × V)) : Prop := ∃ o, o.cls = .type "dict" ∧ H a = some (.frz o (.dK kvs))

/-- what never changes again -/
def Imm : HO → Prop
  | .tup _ => True
  | .frz _ _ => True
  | .ins _ _ _ => True
  | _ => False
def Keep (H H' : Hp) : Prop := ∀ b o, H b = some o → Imm o → H' b = some o
theorem Keep.refl (H : Hp) : Keep H H := fun _ _ h _ => h
theorem Keep.trans {H H1 H2 : Hp} (a : Keep H H1) (b : Keep H1 H2) : Keep H H2 := fun c o h i => b c o (a c o h i) i
/-- what a call may do: only what stands at M may change, and no tuple, no locked thing, no instance -/
def Frm (M : List Addr) (H H' : Hp) : Prop := ∀ b o, H b = some o → (Imm o ∨ b ∉ M) → H' b = some o
theorem Frm.refl (M : List Addr) (H : Hp) : Frm M H H := fun _ _ h _ => h
theorem Frm.trans {M : List Addr} {H H1 H2 : Hp} (a : Frm M H H1) (b : Frm M H1 H2) : Frm M H H2 := fun c o h i => b c o (a c o h i) i
theorem Frm.keep {M : List Addr} {H H' : Hp} (a : Frm M H H') : Keep H H' := fun c o h i => a c o h (.inl i)
theorem Frm.same {H H' : Hp} (a : Frm [] H H') : Same H H' := fun c o h => a c o h (.inr (by simp))
theorem Frm.of {M : List Addr} {H H' : Hp} (a : Same H H') : Frm M H H' := fun c o h _ => a c o h
theorem Keep.of {H H' : Hp} (a : Same H H') : Keep H H' := fun c o h _ => a c o h
theorem same_upd {H : Hp} {p : Addr} {o : HO} (h : H p = none) : Same H (upd H p o) := fun b x e => by
  rw [upd_ne (ne_of_none e h)]
  exact e

mutual
/-- v stands for d -/
def Rep (K : PySem.W.Frag) (H : Hp) : D → V → Prop
  | .non, v => v = .non
  | .bl b, v => v = .bl b
  | .int i, v => v = .int i
  | .str s, v => v = .str s
  | .tup ds, v => ∃ a vs, v = .ref a ∧ TpN K H a vs ∧ RepL K H ds vs
  | .lst ds, v => ∃ a vs, v = .ref a ∧ FzL K H a vs ∧ RepL K H ds vs
  | .dic kvs, v => ∃ a, v = .ref a ∧ FzD H a kvs
  | .obj a, v => v = .ref a
  | .ty n, v => v = .ty n
  | .ins C ns ds, v => ∃ a dx fs, v = .ref a ∧ H a = some (.ins C dx fs) ∧ fs.map (·.1) = ns ∧ RepL K H ds (fs.map (·.2))
def RepL (K : PySem.W.Frag) (H : Hp) : List D → List V → Prop
  | [], vs => vs = []
  | d :: ds, vs => ∃ v vr, vs = v :: vr ∧ Rep K H d v ∧ RepL K H ds vr
end
section
variable {K : PySem.W.Frag} {H H' : Hp}
theorem TpN.keep {a : Addr} {xs : List V} (k : Keep H H') (h : TpN K H a xs) : TpN K H' a xs := by
  rcases h with ⟨o, d, h⟩ | h
  · exact .inl ⟨o, d, k _ _ h trivial⟩
  · exact .inr h
theorem FzL.keep {a : Addr} {xs : List V} (k : Keep H H') (h : FzL K H a xs) : FzL K H' a xs := by
  obtain ⟨o, h⟩ := h
  exact ⟨o, k _ _ h trivial⟩
mutual
theorem Rep.keep (k : Keep H H') : ∀ (d : D) {v : V}, Rep K H d v → Rep K H' d v
  | .non, _, h => h
  | .bl _, _, h => h
  | .int _, _, h => h
  | .str _, _, h => h
  | .tup ds, _, h => by
    obtain ⟨a, vs, e, s, r⟩ := h
    exact ⟨a, vs, e, TpN.keep k s, RepL.keep k ds r⟩
  | .lst ds, _, h => by
    obtain ⟨a, vs, e, s, r⟩ := h
    exact ⟨a, vs, e, FzL.keep k s, RepL.keep k ds r⟩
  | .dic _, _, h => by
    obtain ⟨a, e, o, c, s⟩ := h
    exact ⟨a, e, o, c, k _ _ s trivial⟩
  | .obj _, _, h => h
  | .ty _, _, h => h
  | .ins C ns ds, _, h => by
    obtain ⟨a, dx, fs, e, s, n, r⟩ := h
    exact ⟨a, dx, fs, e, k _ _ s trivial, n, RepL.keep k ds r⟩
theorem RepL.keep (k : Keep H H') : ∀ (ds : List D) {vs : List V}, RepL K H ds vs → RepL K H' ds vs
  | [], _, h => h
  | d :: ds, _, h => by
    obtain ⟨v, vr, e, r, rr⟩ := h
    exact ⟨v, vr, e, Rep.keep k d r, RepL.keep k ds rr⟩
end
theorem RepL.length : ∀ {ds : List D} {vs : List V}, RepL K H ds vs → vs.length = ds.length
  | [], _, h => by rw [show _ = [] from h]; rfl
  | d :: ds, _, h => by
    obtain ⟨v, vr, e, _, rr⟩ := h
    rw [e, List.length_cons, List.length_cons, RepL.length rr]
theorem RepL.append : ∀ {ds es : List D} {vs ws : List V}, RepL K H ds vs → RepL K H es ws → RepL K H (ds ++ es) (vs ++ ws)
  | [], _, _, _, h, h' => by rw [show _ = [] from h]; exact h'
  | d :: ds, es, _, _, h, h' => by
    obtain ⟨v, vr, e, r, rr⟩ := h
    rw [e]
    exact ⟨v, vr ++ _, rfl, r, RepL.append rr h'⟩
theorem RepL.get : ∀ {ds : List D} {vs : List V} {i : Nat} {d : D}, RepL K H ds vs → ds[i]? = some d → ∃ v, vs[i]? = some v ∧ Rep K H d v
  | [], _, _, _, _, e => by simp at e
  | d :: ds, _, 0, x, h, e => by
    obtain ⟨v, vr, ev, r, rr⟩ := h
    have e' : d = x := by simpa using e
    rw [ev, ← e']
    exact ⟨v, rfl, r⟩
  | d :: ds, _, i + 1, x, h, e => by
    obtain ⟨v, vr, ev, r, rr⟩ := h
    obtain ⟨w, h1, h2⟩ := RepL.get (i := i) rr (by simpa using e)
    rw [ev]
    exact ⟨w, by simpa using h1, h2⟩
theorem RepL.set : ∀ {ds : List D} {vs : List V} (i : Nat) {d : D} {v : V}, RepL K H ds vs → Rep K H d v → RepL K H (ds.set i d) (vs.set i v)
  | [], _, _, _, _, h, _ => by rw [show _ = [] from h]; exact rfl
  | d :: ds, _, 0, x, w, h, r' => by
    obtain ⟨v, vr, ev, r, rr⟩ := h
    rw [ev]
    exact ⟨w, vr, rfl, r', rr⟩
  | d :: ds, _, i + 1, x, w, h, r' => by
    obtain ⟨v, vr, ev, r, rr⟩ := h
    rw [ev]
    exact ⟨v, vr.set i w, rfl, r, RepL.set i rr r'⟩
theorem RepL.take : ∀ {ds : List D} {vs : List V} (n : Nat), RepL K H ds vs → RepL K H (ds.take n) (vs.take n)
  | _, _, 0, _ => by rw [List.take_zero, List.take_zero]; exact rfl
  | [], _, n + 1, h => by rw [show _ = [] from h]; exact rfl
  | d :: ds, _, n + 1, h => by
    obtain ⟨v, vr, ev, r, rr⟩ := h
    rw [ev]
    exact ⟨v, vr.take n, rfl, r, RepL.take n rr⟩
theorem RepL.drop : ∀ {ds : List D} {vs : List V} (n : Nat), RepL K H ds vs → RepL K H (ds.drop n) (vs.drop n)
  | _, _, 0, h => by rw [List.drop_zero, List.drop_zero]; exact h
  | [], _, n + 1, h => by rw [show _ = [] from h]; exact rfl
  | d :: ds, _, n + 1, h => by
    obtain ⟨v, vr, ev, r, rr⟩ := h
    rw [ev]
    exact RepL.drop n rr
theorem RepL.eraseIdx : ∀ {ds : List D} {vs : List V} (n : Nat), RepL K H ds vs → RepL K H (ds.eraseIdx n) (vs.eraseIdx n)
  | [], _, n, h => by rw [show _ = [] from h]; exact rfl
  | d :: ds, _, 0, h => by
    obtain ⟨v, vr, ev, r, rr⟩ := h
    rw [ev]
    exact rr
  | d :: ds, _, n + 1, h => by
    obtain ⟨v, vr, ev, r, rr⟩ := h
    rw [ev]
    exact ⟨v, vr.eraseIdx n, rfl, r, RepL.eraseIdx n rr⟩
theorem RepL.reverse : ∀ {ds : List D} {vs : List V}, RepL K H ds vs → RepL K H ds.reverse vs.reverse
  | [], _, h => by rw [show _ = [] from h]; exact rfl
  | d :: ds, _, h => by
    obtain ⟨v, vr, ev, r, rr⟩ := h
    rw [ev, List.reverse_cons, List.reverse_cons]
    exact RepL.append (RepL.reverse rr) ⟨v, [], rfl, r, rfl⟩
theorem RepL.one {d : D} {v : V} (r : Rep K H d v) : RepL K H [d] [v] := ⟨v, [], rfl, r, rfl⟩
theorem RepL.ints : ∀ {ns : List Int} {vs : List V}, RepL K H (ns.map D.int) vs → vs = ns.map V.int
  | [], _, h => h
  | n :: ns, _, h => by
    obtain ⟨v, vr, ev, r, rr⟩ := h
    rw [ev, show v = V.int n from r, RepL.ints rr]
    rfl
theorem RepL.of_ints : ∀ (ns : List Int), RepL K H (ns.map D.int) (ns.map V.int)
  | [] => rfl
  | n :: ns => ⟨.int n, ns.map V.int, rfl, rfl, RepL.of_ints ns⟩
theorem RepL.bls : ∀ {ns : List Bool} {vs : List V}, RepL K H (ns.map D.bl) vs → vs = ns.map V.bl
  | [], _, h => h
  | n :: ns, _, h => by
    obtain ⟨v, vr, ev, r, rr⟩ := h
    rw [ev, show v = V.bl n from r, RepL.bls rr]
    rfl
theorem RepL.snoc {ds : List D} {vs : List V} {d : D} {v : V} (h : RepL K H ds vs) (r : Rep K H d v) : RepL K H (ds ++ [d]) (vs ++ [v]) := RepL.append h (RepL.one r)
end

/-! ### the state of a def by its slots -/
inductive Slot where
  | un
  | v (d : D)
  | own (p : Addr) (ds : List D)
  | tab (P : Addr) (q : Str)
abbrev En := List Slot
/-- what holds of a slot; o: what the def's name holds (none behind the names: a list without a name) -/
def SlotOk (K : PySem.W.Frag) (H : Hp) : Slot → Option (Option V) → Prop
  | .un, _ => True
  | .v d, o => o = none ∨ ∃ v, o = some (some v) ∧ Rep K H d v
  | .own p ds, o => (o = none ∨ o = some (some (.ref p))) ∧ ∃ vs, H p = some (.lst vs) ∧ RepL K H ds vs
  | .tab P q, _ => LamX.TabS H P q
structure Sta (K : PySem.W.Frag) (B : Hp) (M : List Addr) (ρ : En) (σ : L2.St) (H : Hp) : Prop where
  frm : Frm M B H
  ok : ∀ (i : Nat) s, ρ[i]? = some s → SlotOk K H s σ[i]?
  dis : ∀ (i j : Nat) p q ds es, ρ[i]? = some (.own p ds) → ρ[j]? = some (.own q es) → i ≠ j → p ≠ q
  new : ∀ (i : Nat) p ds, ρ[i]? = some (.own p ds) → B p = none ∨ p ∈ M
  mh : ∀ p ∈ M, ∃ o, H p = some o
  /-- tables stand behind the names -/
  tbi : ∀ (i : Nat) P q, ρ[i]? = some (.tab P q) → σ.length ≤ i
theorem tab_set {ρ : En} {i j : Nat} {s : Slot} {P : Addr} {q : Str} (h : (ρ.set i s)[j]? = some (.tab P q)) (hs : ∀ P q, s ≠ .tab P q) : ρ[j]? = some (.tab P q) := by
  by_cases hj : j = i
  · subst hj
    have hlt : j < (ρ.set j s).length := (List.getElem?_eq_some_iff.mp h).1
    rw [List.length_set] at hlt
    rw [List.getElem?_set_self hlt] at h
    exact absurd (Option.some.inj h) (hs P q)
  · rw [List.getElem?_set_ne (Ne.symm hj)] at h
    exact h
/-- what an expression gives: data, or the list that slot i owns -/
inductive W where
  | d (x : D)
  | o (i : Nat)
def WOk (K : PySem.W.Frag) (H : Hp) (ρ : En) : W → V → Prop
  | .d x, v => Rep K H x v
  | .o i, v => ∃ p ds, ρ[i]? = some (.own p ds) ∧ v = .ref p
def OwnEq (ρ ρ' : En) : Prop := ∀ (i : Nat) p ds, ρ[i]? = some (.own p ds) → ∃ ds', ρ'[i]? = some (.own p ds')
theorem OwnEq.refl (ρ : En) : OwnEq ρ ρ := fun _ _ ds h => ⟨ds, h⟩
theorem OwnEq.trans {ρ ρ1 ρ2 : En} (a : OwnEq ρ ρ1) (b : OwnEq ρ1 ρ2) : OwnEq ρ ρ2 := fun i p ds h => by
  obtain ⟨ds', h'⟩ := a i p ds h
  exact b i p ds' h'
section
variable {K : PySem.W.Frag} {B H H' : Hp} {M : List Addr} {ρ ρ' : En} {σ : L2.St}
theorem WOk.keep (k : Keep H H') (oe : OwnEq ρ ρ') : ∀ {w : W} {v : V}, WOk K H ρ w v → WOk K H' ρ' w v
  | .d x, _, h => Rep.keep k x h
  | .o i, _, h => by
    obtain ⟨p, ds, e, ev⟩ := h
    obtain ⟨ds', e'⟩ := oe i p ds e
    exact ⟨p, ds', e', ev⟩
theorem tab_upd {P p : Addr} {q : Str} {vs : List V} {o : HO} (hp : H p = some (.lst vs)) (t : LamX.TabS H P q) : LamX.TabS (upd H p o) P q := by
  obtain ⟨ps, h1, h2, h3⟩ := t
  refine ⟨ps, by rw [upd_ne (fun z => by rw [z, hp] at h1; cases h1)]; exact h1, h2, fun pos cv hc => ?_⟩
  obtain ⟨c, e1, e2⟩ := h3 pos cv hc
  refine ⟨c, e1, ?_⟩
  rw [upd_ne (fun z => by rw [z, hp] at e2; unfold LamX.CodeO at e2; cases e2)]
  exact e2
theorem tab_frm {P p : Addr} {q : Str} {vs : List V} (hp : H p = some (.lst vs)) (fr : Frm [p] H H') (t : LamX.TabS H P q) : LamX.TabS H' P q := by
  obtain ⟨ps, h1, h2, h3⟩ := t
  refine ⟨ps, fr _ _ h1 (.inr (fun z => by rw [List.mem_singleton.mp z, hp] at h1; cases h1)), h2, fun pos cv hc => ?_⟩
  obtain ⟨c, e1, e2⟩ := h3 pos cv hc
  exact ⟨c, e1, fr _ _ e2 (.inr (fun z => by rw [List.mem_singleton.mp z, hp] at e2; unfold LamX.CodeO at e2; cases e2))⟩
theorem SlotOk.keep (k : Keep H H') : ∀ {s : Slot} {o : Option (Option V)}, (∀ p ds, s = .own p ds → ∃ vs, H' p = some (.lst vs) ∧ RepL K H' ds vs) → (∀ P q, s = .tab P q → LamX.TabS H' P q) → SlotOk K H s o → SlotOk K H' s o
  | .un, _, _, _, _ => trivial
  | .tab P q, _, _, w, _ => w P q rfl
  | .v d, _, _, _, h => by
    rcases h with e | ⟨v, e, r⟩
    · exact .inl e
    · exact .inr ⟨v, e, Rep.keep k d r⟩
  | .own p ds, _, w, _, h => ⟨h.1, w p ds rfl⟩
theorem SlotOk.same (k : Same H H') {s : Slot} {o : Option (Option V)} (h : SlotOk K H s o) : SlotOk K H' s o := SlotOk.keep (Keep.of k) (fun p ds e => by
  subst e
  obtain ⟨_, vs, hp, r⟩ := h
  exact ⟨vs, k _ _ hp, RepL.keep (Keep.of k) ds r⟩) (fun P q e => by
  subst e
  exact LamX.TabS.ext h k) h
theorem Sta.same (S : Sta K B M ρ σ H) (k : Same H H') : Sta K B M ρ σ H' where
  frm := S.frm.trans (Frm.of k)
  ok := fun i s e => SlotOk.same k (S.ok i s e)
  dis := S.dis
  new := S.new
  mh := fun p hp => by
    obtain ⟨o, h⟩ := S.mh p hp
    exact ⟨o, k _ _ h⟩
  tbi := S.tbi
/-- the list that slot i owns gets new items -/
theorem Sta.mut {i : Nat} {p : Addr} {ds es : List D} {vs : List V} (S : Sta K B M ρ σ H) (e : ρ[i]? = some (.own p ds)) (hp : H p = some (.lst vs)) {ws : List V} (r : RepL K H es ws) :
    Sta K B M (ρ.set i (.own p es)) σ (upd H p (.lst ws)) := by
  have kp : Keep H (upd H p (.lst ws)) := fun b o h im => by
    have : b ≠ p := fun z => by
      rw [z, hp] at h
      cases h
      exact im
    rw [upd_ne this]
    exact h
  refine ⟨fun b o h im => ?_, fun j s ej => ?_, fun j k q q' fs gs ej ek hjk => ?_, fun j q fs ej => ?_, fun q hq => ?_, fun j P q h => S.tbi j P q (tab_set h fun _ _ z => by cases z)⟩
  · have hb : b ≠ p := fun z => by
      have h2 := S.frm b o h im
      rw [z, hp] at h2
      cases h2
      rcases S.new i p ds e with n | n
      · rw [z, n] at h
        cases h
      · rcases im with im | im
        · exact im
        · exact im (z ▸ n)
    rw [upd_ne hb]
    exact S.frm b o h im
  · by_cases hj : j = i
    · subst hj
      have hlt : j < ρ.length := (List.getElem?_eq_some_iff.mp e).1
      rw [List.getElem?_set_self hlt] at ej
      cases ej
      obtain ⟨h2, _⟩ := S.ok j _ e
      exact ⟨h2, ws, upd_same, RepL.keep kp es r⟩
    · rw [List.getElem?_set_ne (Ne.symm hj)] at ej
      refine SlotOk.keep kp (fun q fs es' => ?_) (fun P q et => by
        subst et
        exact tab_upd hp (S.ok j _ ej)) (S.ok j s ej)
      subst es'
      obtain ⟨_, us, hq, r'⟩ := S.ok j _ ej
      exact ⟨us, by rw [upd_ne (S.dis j i q p fs ds ej e hj)]; exact hq, RepL.keep kp fs r'⟩
  · have look : ∀ {j : Nat} {q fs}, (ρ.set i (Slot.own p es))[j]? = some (Slot.own q fs) → ∃ fs', ρ[j]? = some (Slot.own q fs') := fun {j q fs} h => by
      by_cases hj : j = i
      · subst hj
        have hlt : j < ρ.length := (List.getElem?_eq_some_iff.mp e).1
        rw [List.getElem?_set_self hlt] at h
        cases h
        exact ⟨ds, e⟩
      · rw [List.getElem?_set_ne (Ne.symm hj)] at h
        exact ⟨fs, h⟩
    obtain ⟨a, h1⟩ := look ej
    obtain ⟨b, h2⟩ := look ek
    exact S.dis j k q q' a b h1 h2 hjk
  · by_cases hj : j = i
    · subst hj
      have hlt : j < ρ.length := (List.getElem?_eq_some_iff.mp e).1
      rw [List.getElem?_set_self hlt] at ej
      cases ej
      exact S.new j _ ds e
    · rw [List.getElem?_set_ne (Ne.symm hj)] at ej
      exact S.new j q fs ej
  · by_cases hqp : q = p
    · rw [hqp]
      exact ⟨_, upd_same⟩
    · rw [upd_ne hqp]
      exact S.mh q hq
theorem Sta.keep_mut {i : Nat} {p : Addr} {vs ws : List V} (hp : H p = some (.lst vs)) : Keep H (upd H p (.lst ws)) := fun b o h im => by
  have : b ≠ p := fun z => by
    rw [z, hp] at h
    cases h
    exact im
  rw [upd_ne this]
  exact h
theorem own_mut {i : Nat} {p : Addr} {ds es : List D} (e : ρ[i]? = some (.own p ds)) : OwnEq ρ (ρ.set i (.own p es)) := fun j q fs h => by
  by_cases hj : j = i
  · subst hj
    have hlt : j < ρ.length := (List.getElem?_eq_some_iff.mp e).1
    rw [e] at h
    cases h
    exact ⟨es, List.getElem?_set_self hlt⟩
  · exact ⟨fs, by rw [List.getElem?_set_ne (Ne.symm hj)]; exact h⟩
/-- slot i gets data -/
theorem Sta.put {i : Nat} {d : D} {v : V} (S : Sta K B M ρ σ H) (r : Rep K H d v) : Sta K B M (ρ.set i (.v d)) (σ.set i (some v)) H := by
  refine ⟨S.frm, fun j s ej => ?_, fun j k q q' fs gs ej ek hjk => ?_, fun j q fs ej => ?_, S.mh, fun j P q h => by rw [List.length_set]; exact S.tbi j P q (tab_set h fun _ _ z => by cases z)⟩
  · by_cases hj : j = i
    · subst hj
      have hlt : j < (ρ.set j (.v d)).length := (List.getElem?_eq_some_iff.mp ej).1
      rw [List.length_set] at hlt
      rw [List.getElem?_set_self hlt] at ej
      cases ej
      by_cases h2 : j < σ.length
      · exact .inr ⟨v, List.getElem?_set_self h2, r⟩
      · exact .inl (List.getElem?_eq_none_iff.mpr (by rw [List.length_set]; omega))
    · rw [List.getElem?_set_ne (Ne.symm hj)] at ej
      rw [List.getElem?_set_ne (Ne.symm hj)]
      exact S.ok j s ej
  · have look : ∀ {j : Nat} {q fs}, (ρ.set i (Slot.v d))[j]? = some (Slot.own q fs) → ρ[j]? = some (Slot.own q fs) := fun {j q fs} h => by
      by_cases hj : j = i
      · subst hj
        have hlt : j < (ρ.set j (.v d)).length := (List.getElem?_eq_some_iff.mp h).1
        rw [List.length_set] at hlt
        rw [List.getElem?_set_self hlt] at h
        cases h
      · rw [List.getElem?_set_ne (Ne.symm hj)] at h
        exact h
    exact S.dis j k q q' fs gs (look ej) (look ek) hjk
  · by_cases hj : j = i
    · subst hj
      have hlt : j < (ρ.set j (.v d)).length := (List.getElem?_eq_some_iff.mp ej).1
      rw [List.length_set] at hlt
      rw [List.getElem?_set_self hlt] at ej
      cases ej
    · rw [List.getElem?_set_ne (Ne.symm hj)] at ej
      exact S.new j q fs ej
/-- slot i gets a fresh list of its own -/
theorem Sta.putO {i : Nat} {p : Addr} {ds : List D} {vs : List V} (S : Sta K B M ρ σ H) (hp : H p = some (.lst vs)) (r : RepL K H ds vs) (nB : B p = none) (nO : ∀ (j : Nat) q es, ρ[j]? = some (.own q es) → q ≠ p) :
    Sta K B M (ρ.set i (.own p ds)) (σ.set i (some (.ref p))) H := by
  have look : ∀ {j : Nat} {q fs}, (ρ.set i (Slot.own p ds))[j]? = some (Slot.own q fs) → (j = i ∧ q = p) ∨ (j ≠ i ∧ ρ[j]? = some (Slot.own q fs)) := fun {j q fs} h => by
    by_cases hj : j = i
    · subst hj
      have hlt : j < (ρ.set j (.own p ds)).length := (List.getElem?_eq_some_iff.mp h).1
      rw [List.length_set] at hlt
      rw [List.getElem?_set_self hlt] at h
      cases h
      exact .inl ⟨rfl, rfl⟩
    · rw [List.getElem?_set_ne (Ne.symm hj)] at h
      exact .inr ⟨hj, h⟩
  refine ⟨S.frm, fun j s ej => ?_, fun j k q q' fs gs ej ek hjk => ?_, fun j q fs ej => ?_, S.mh, fun j P q h => by rw [List.length_set]; exact S.tbi j P q (tab_set h fun _ _ z => by cases z)⟩
  · by_cases hj : j = i
    · subst hj
      have hlt : j < (ρ.set j (.own p ds)).length := (List.getElem?_eq_some_iff.mp ej).1
      rw [List.length_set] at hlt
      rw [List.getElem?_set_self hlt] at ej
      cases ej
      by_cases h2 : j < σ.length
      · exact ⟨.inr (List.getElem?_set_self h2), vs, hp, r⟩
      · exact ⟨.inl (List.getElem?_eq_none_iff.mpr (by rw [List.length_set]; omega)), vs, hp, r⟩
    · rw [List.getElem?_set_ne (Ne.symm hj)] at ej
      rw [List.getElem?_set_ne (Ne.symm hj)]
      exact S.ok j s ej
  · rcases look ej with ⟨a, b⟩ | ⟨a, b⟩
    · rcases look ek with ⟨c, d⟩ | ⟨c, d⟩
      · exact absurd (a.trans c.symm) hjk
      · rw [b]
        exact Ne.symm (nO k q' gs d)
    · rcases look ek with ⟨c, d⟩ | ⟨c, d⟩
      · rw [d]
        exact nO j q fs b
      · exact S.dis j k q q' fs gs b d hjk
  · rcases look ej with ⟨a, b⟩ | ⟨a, b⟩
    · rw [b]
      exact .inl nB
    · exact S.new j q fs b
/-- a list at hand for reading -/
theorem Sta.own_at {i : Nat} {p : Addr} {ds : List D} (S : Sta K B M ρ σ H) (e : ρ[i]? = some (.own p ds)) : ∃ vs, H p = some (.lst vs) ∧ RepL K H ds vs := by
  exact (S.ok i _ e).2
theorem Sta.fresh_own (S : Sta K B M ρ σ H) {p : Addr} (n : H p = none) : ∀ (j : Nat) q es, ρ[j]? = some (.own q es) → q ≠ p := fun j q es e z => by
  obtain ⟨vs, hp, _⟩ := S.own_at e
  rw [z, n] at hp
  cases hp
theorem Sta.fresh_B (S : Sta K B M ρ σ H) {p : Addr} (n : H p = none) : B p = none := by
  cases q : B p with
  | none => rfl
  | some o =>
    by_cases hm : p ∈ M
    · obtain ⟨o', h⟩ := S.mh p hm
      rw [n] at h
      cases h
    · have := S.frm p o q (.inr hm)
      rw [n] at this
      cases this
end
end N
/-! NT -/
set_option Elab.async false
set_option linter.all false
set_option maxRecDepth 100000
set_option maxHeartbeats 1000000
/-! NT: new tuples, of which is known that they have no dict. -/
namespace N
open PySem PySem.Spec PyProof.Rows L2
section
variable {X : Cx} {e : Expr} {es : List Expr} {te : TE} {t : TA} {pos : Pos}
/-- what is asked where a new tuple is made -/
def NewT (Q : VK) (H : Hp) (xs : List V) : Prop := ∀ (o : Obj) p, o.dict = none → H p = none → Q (.ref p) (upd H p (.frz o (.tup xs)))
theorem laid_tupN {pins : List (Addr × Obj)} {σ : L2.St} {H : Hp} {s : Shared} {vs : List V} {us : List Value} {Q : VK} {k : Nat} (I : Inv X pins σ H s) (r : Vals vs us) (hz : vs.length ≤ sizeLine) (h : NewT Q H vs) :
    EP X pins σ Q (.ref s.heap.objs.size) { s with toks := k, heap := s.heap.push { cls := .type "tuple", data := .seq us.toArray } } := by
  have hp := I.hok.fresh (Nat.le_refl _)
  exact ⟨.ref s.heap.objs.size, upd H s.heap.objs.size (.frz { cls := .type "tuple", data := .seq us.toArray } (.tup vs)), I.laid (fun b u q => Heap.get?_push_of_some _ q) (Nat.le_refl _) ⟨Heap.get?_push_size _ rfl, hz, us, r, IsTup.new _ _⟩, rfl, h _ _ rfl hp⟩
def tTupN (t : TA) : TE := fun σ H Q => t σ H fun xs H1 => xs.length ≤ sizeLine ∧ NewT Q H1 xs
theorem pe_tupN {x1} (h : PA X es t) : PE X (.Tuple es x1 pos) (tTupN t) := by
  refine ⟨fun pins s σ H Q I hq => ?_⟩
  refine wpAny_Tuple_spliced (thn (h.run pos pins s σ H _ I hq) fun us s1 ⟨xs, H1, I1, r, z, q⟩ => ⟨by rw [← r.length]; exact z, ?_⟩)
  exact laid_tupN (k := s1.toks) I1 r z q
theorem call_tupleN : CallR X (.type "tuple") (fun xs H Q => ∃ p ys, xs = [.ref p] ∧ ((SqL X.K H p ys ∧ NewT Q H ys) ∨ (SqT X.K H p ys ∧ Q (.ref p) H))) := by
  intro pins s σ H xs us Q I r h
  obtain ⟨p, ys, rfl, h⟩ := h
  obtain ⟨u, rfl, rx⟩ := vals1 r
  cases rx
  rcases h with ⟨hq, q⟩ | ⟨hq, q⟩
  · obtain ⟨its, r', pl, hz⟩ := I.list hq
    have hlen := r'.length
    refine call_tuple_list pl.isList (fun h' kp => ?_) (by simp only [List.size_toArray] <;> omega)
    have I1 : Inv X pins σ H { s with heap := h' } := I.kept (t' := s.toks) kp
    exact laid_tupN (k := s.toks) I1 r' hz q
  · obtain ⟨its, r', pl, hz⟩ := I.tuple hq
    exact call_tuple_same pl ⟨.ref p, H, I, rfl, q⟩
/-- t + u, any t, u -/
def rCatN (K : PySem.W.Frag) : R2 := fun x y H Q => ∃ a b xs ys, x = .ref a ∧ y = .ref b ∧ SqT K H a xs ∧ SqT K H b ys ∧ xs.length + ys.length ≤ sizeLine ∧
  (xs = [] → Q (.ref b) H) ∧ (xs ≠ [] → ys = [] → Q (.ref a) H) ∧ (xs ≠ [] → ys ≠ [] → NewT Q H (xs ++ ys))
theorem op_catN : OpR X (binaryOp .Add) (rCatN X.K) := by
  intro pins s σ H x y v u Q I rx ry h
  obtain ⟨a, b, xs, ys, rfl, rfl, ha, hb, hz, q0, q1, q2⟩ := h
  cases rx
  cases ry
  obtain ⟨its, r1, p1, _⟩ := I.tuple ha
  obtain ⟨its2, r2, p2, _⟩ := I.tuple hb
  by_cases hx : xs = []
  · subst hx
    cases r1
    exact cat_tup0 p1 p2 ⟨.ref b, H, I, rfl, q0 rfl⟩
  · refine HT.cat_tup p1 p2 (fun z => hx (r1.nil_iff.mp z)) (fun z => ⟨.ref a, H, I, rfl, q1 hx (r2.nil_iff.mp z)⟩) (fun z => ?_) (by rw [← r1.length, ← r2.length]; exact hz)
    exact laid_tupN (k := s.toks) I (r1.append r2) (by rw [List.length_append]; exact hz) (q2 hx (fun w => z (r2.nil_iff.mpr w)))
/-- t[lo:hi] -/
def rSlN (K : PySem.W.Frag) : V → Option Int → Option Int → Hp → VK → Prop := fun x lo hi H Q => ∃ a xs, x = .ref a ∧ SqT K H a xs ∧
  (HT.sIx xs.length 0 lo = 0 ∧ HT.sIx xs.length xs.length hi = xs.length → Q (.ref a) H) ∧ (¬ (HT.sIx xs.length 0 lo = 0 ∧ HT.sIx xs.length xs.length hi = xs.length) → NewT Q H (cutV xs lo hi))
theorem sl_tupN : SlR X (rSlN X.K) := by
  intro pins s σ H x v vl vu lo hi sl Q I rx hs pl pu h
  obtain ⟨a, xs, rfl, hx, q1, q2⟩ := h
  cases rx
  obtain ⟨its, r, ht, hz⟩ := I.tuple hx
  have hlen : its.toArray.size = xs.length := by rw [List.size_toArray]; exact r.length.symm
  refine ⟨"tuple", _, PyProof.Rows.slot_tuple_getitem.lookup, ht.typeIs, ?_⟩
  by_cases hw : HT.sIx xs.length 0 lo = 0 ∧ HT.sIx xs.length xs.length hi = xs.length
  · exact getItem_tuple_whole ht hs pl pu (by rw [hlen]; exact hw) ⟨.ref a, H, I, rfl, q1 hw⟩
  · refine HT.getItem_tuple_cut ht hs pl pu (by rw [hlen]; exact hw) ?_ (by rw [hlen]; exact hz)
    rw [hlen]
    exact laid_tupN (k := s.toks) I ((r.drop (HT.sIx xs.length 0 lo)).take (HT.sIx xs.length xs.length hi - HT.sIx xs.length 0 lo)) (Nat.le_trans (cutV_length xs lo hi) hz) (q2 hw)
def tTupRgN (te : L2.St → Hp → (Int → Int → Hp → Prop) → Prop) : TE := fun σ H Q => te σ H fun a b H1 => RgOk a b ∧ NewT Q H1 (rgV a b)
theorem pe_tupRgN {te : L2.St → Hp → (Int → Int → Hp → Prop) → Prop} {p pos : Pos} (hc : X.calm = true) (hg : Gl X "tuple") (hm : X.mg "tuple" = none) (he : PRg X e te) (na : starEach [e] X.env = (false, eval e X.env) :: starEach [] X.env := by rfl) : PE X (.Call (.Name "tuple" p) [e] [] pos) (tTupRgN te) := by
  refine ⟨fun pins s σ H Q I h => ?_⟩
  refine Call_ (ld_blt I hg hm PyProof.Rows.boot_tuple (PyProof.Rows.callWith_type1 (PyProof.Rows.args_cons (thn (he pins s σ H _ I h) fun x s1 ⟨r, a, b, t, u, v, H1, ex, hr, I1, ok, q⟩ => PyProof.Rows.args_nil ?_) na) na))
  subst ex
  obtain ⟨b1, b2, b3, b4, b5⟩ := ok
  refine call_tuple_range (n := (b - a).toNat) (I1.ok.hd hc) hr (small_one b1 b2 b3 b4) (rangeSize_nat a b) b5 fun h' tk acc hk hi => ?_
  have I2 : Inv X pins σ H1 { s1 with heap := h', toks := tk } := I1.kept hk
  have := laid_tupN (k := tk) I2 (vals_rg hi) (by rw [rgV_length, sizeLine_eq]; omega) q
  rw [Array.toArray_toList] at this
  exact this
end
end N
/-! N1 -/
set_option Elab.async false
set_option linter.all false
set_option maxRecDepth 100000
set_option maxHeartbeats 1000000
/-! N1: the judgements over data; expressions. -/
namespace N
open PySem PySem.Spec PyProof.Rows L2

/-! ### locking a list -/
section
variable {X : Cx} {pins : List (Addr × Obj)} {σ : L2.St} {H : Hp} {s : Shared}
theorem Inv.freeze {p : Addr} {xs : List V} (I : Inv X pins σ H s) (hp : H p = some (.lst xs)) : ∃ o : Obj, o.cls = .type "list" ∧ Inv X pins σ (upd H p (.frz o (.lst xs))) s := by
  obtain ⟨z, its, n, r, e⟩ := I.hok p _ hp
  have ne : ∀ b u, H b = some u → (∀ ys, u ≠ .lst ys) → b ≠ p := fun b u h nu w => by
    rw [w, hp] at h
    cases h
    exact nu xs rfl
  have nn : ∀ b, H b = none → b ≠ p := fun b h w => by
    rw [w, hp] at h
    cases h
  refine ⟨{ cls := .type "list", data := .seq its.toArray n }, rfl, ⟨I.ok, I.os, I.bare, I.base.trans ⟨fun b o q _ _ _ => q, fun b o q _ _ _ => ⟨o.slots, q⟩, fun b o q n _ => by rw [upd_ne (nn b n)]; exact n, fun b o q _ => ⟨o, q⟩,
    fun b ys q => by rw [upd_ne (ne b _ q (fun _ w => by cases w))]; exact q, fun b o u q => by rw [upd_ne (ne b _ q (fun _ w => by cases w))]; exact q, fun b ps q => ⟨#[], by rw [upd_ne (ne b _ q (fun _ w => by cases w)), q]; simp⟩⟩,
    I.loc, I.cell, by rw [upd_ne (nn _ I.free)]; exact I.free, fun x c h => by rw [upd_ne (nn _ (I.freeC x c h))]; exact I.freeC x c h, fun q hq => ?_, fun b u q => ?_, I.len⟩⟩
  · obtain ⟨h1, h2, h3⟩ := I.pin q hq
    exact ⟨h1, by rw [upd_ne (nn _ h2)]; exact h2, h3⟩
  · by_cases hb : b = p
    · rw [hb, upd_same] at q
      cases q
      rw [hb]
      exact ⟨e, z, its, n, r, e⟩
    · rw [upd_ne hb] at q
      refine (I.hok b u q).stay (fun _ _ _ w => w) (fun c w => by rw [upd_ne (ne c _ w (fun _ w2 => by cases w2))]; exact w) fun c ys w => by rw [upd_ne (ne c _ w (fun _ w2 => by cases w2))]; exact w
/-- the new list that v is, locked -/
def frzQ (Q : VK) : VK := fun v H => ∃ p xs, v = .ref p ∧ H p = some (.lst xs) ∧ ∀ o : Obj, o.cls = .type "list" → Q v (upd H p (.frz o (.lst xs)))
theorem EP.frz {Q : VK} {u : Value} (h : EP X pins σ (frzQ Q) u s) : EP X pins σ Q u s := by
  obtain ⟨v, H', I, r, p, xs, ev, hp, q⟩ := h
  obtain ⟨o, hc, J⟩ := Inv.freeze I hp
  exact ⟨v, _, J, r, q o hc⟩
end
theorem pe_frz {X : Cx} {e : Expr} {t : TE} (h : PE X e t) : PE X e (fun σ H Q => t σ H (frzQ Q)) := ⟨fun pins s σ H Q I w => thn (h.run pins s σ H _ I w) fun _ _ q => EP.frz q⟩
/-- data, or a new list that gets locked -/
def frzC (Q : VK) : VK := fun v H => Q v H ∨ frzQ Q v H
theorem pe_frzC {X : Cx} {e : Expr} {t : TE} (h : PE X e t) : PE X e (fun σ H Q => t σ H (frzC Q)) := ⟨fun pins s σ H Q I w => thn (h.run pins s σ H _ I w) fun _ _ ⟨v, H', I', r, q⟩ => by
  rcases q with q | q
  · exact ⟨v, H', I', r, q⟩
  · exact EP.frz ⟨v, H', I', r, q⟩⟩
theorem pe_imp {X : Cx} {e : Expr} {t t' : TE} (h : PE X e t) (w : ∀ σ H Q, t' σ H Q → t σ H Q) : PE X e t' := ⟨fun pins s σ H Q I q => h.run pins s σ H Q I (w σ H Q q)⟩
theorem pe_impL {X : Cx} {e : Expr} {t t' : TE} (h : PE X e t) (w : ∀ σ H Q, σ.length = X.N.length → t' σ H Q → t σ H Q) : PE X e t' := ⟨fun pins s σ H Q I q => h.run pins s σ H Q I (w σ H Q I.len q)⟩
theorem ps_impL {X : Cx} {e : Stmt} {t t' : TS} (h : PS X e t) (w : ∀ D σ H, σ.length = X.N.length → t' D σ H → t D σ H) : PS X e t' := ⟨fun pins s σ H D I q => h.run pins s σ H D I (w D σ H I.len q)⟩
theorem pt_imp {X : Cx} {e : Expr} {t t' : TT} (h : PT X e t) (w : ∀ σ H Q, t' σ H Q → t σ H Q) : PT X e t' := ⟨fun pins s σ H Q I q => h.run pins s σ H Q I (w σ H Q q)⟩
theorem pw_imp {X : Cx} {e : Expr} {t t' : TT} (h : PW X e t) (w : ∀ σ H Q, t' σ H Q → t σ H Q) : PW X e t' := ⟨fun wh pins s σ H Q I q => h.run wh pins s σ H Q I (w σ H Q q)⟩
theorem pa_imp {X : Cx} {es : List Expr} {t t' : TA} (h : PA X es t) (w : ∀ σ H Q, t' σ H Q → t σ H Q) : PA X es t' := ⟨fun pos pins s σ H Q I q => h.run pos pins s σ H Q I (w σ H Q q)⟩
theorem ps_imp {X : Cx} {e : Stmt} {t t' : TS} (h : PS X e t) (w : ∀ D σ H, t' D σ H → t D σ H) : PS X e t' := ⟨fun pins s σ H D I q => h.run pins s σ H D I (w D σ H q)⟩
theorem pss_imp {X : Cx} {e : List Stmt} {t t' : TS} (h : PSs X e t) (w : ∀ D σ H, t' D σ H → t D σ H) : PSs X e t' := ⟨fun pins s σ H D I q => h.run pins s σ H D I (w D σ H q)⟩

/-! ### readings over data -/
abbrev RE := En → (W → En → Prop) → Prop
abbrev RT := En → (Bool → En → Prop) → Prop
abbrev RA := En → (List W → En → Prop) → Prop
def MonoE (r : RE) : Prop := ∀ ρ (P P' : W → En → Prop), (∀ w ρ', P w ρ' → P' w ρ') → r ρ P → r ρ P'
def MonoT (r : RT) : Prop := ∀ ρ (P P' : Bool → En → Prop), (∀ w ρ', P w ρ' → P' w ρ') → r ρ P → r ρ P'
def MonoA (r : RA) : Prop := ∀ ρ (P P' : List W → En → Prop), (∀ w ρ', P w ρ' → P' w ρ') → r ρ P → r ρ P'
/-- the list of values stands for the list of results -/
def WOks (K : PySem.W.Frag) (H : Hp) (ρ : En) : List W → List V → Prop
  | [], vs => vs = []
  | w :: ws, vs => ∃ v vr, vs = v :: vr ∧ WOk K H ρ w v ∧ WOks K H ρ ws vr
section
variable {K : PySem.W.Frag} {B H H' : Hp} {M : List Addr} {ρ ρ' : En} {σ : L2.St}
theorem WOks.keep (k : Keep H H') (oe : OwnEq ρ ρ') : ∀ {ws : List W} {vs : List V}, WOks K H ρ ws vs → WOks K H' ρ' ws vs
  | [], _, h => h
  | w :: ws, _, h => by
    obtain ⟨v, vr, e, r, rr⟩ := h
    exact ⟨v, vr, e, WOk.keep k oe r, WOks.keep k oe rr⟩
end
def kE (K : PySem.W.Frag) (B : Hp) (M : List Addr) (ρ : En) (σ : L2.St) (H : Hp) (Q : VK) : W → En → Prop := fun w ρ' => ∀ v H', Keep H H' → OwnEq ρ ρ' → Sta K B M ρ' σ H' → WOk K H' ρ' w v → Q v H'
def kT (K : PySem.W.Frag) (B : Hp) (M : List Addr) (ρ : En) (σ : L2.St) (H : Hp) (Q : Bool → Hp → Prop) : Bool → En → Prop := fun b ρ' => ∀ H', Keep H H' → OwnEq ρ ρ' → Sta K B M ρ' σ H' → Q b H'
def kA (K : PySem.W.Frag) (B : Hp) (M : List Addr) (ρ : En) (σ : L2.St) (H : Hp) (Q : List V → Hp → Prop) : List W → En → Prop := fun ws ρ' => ∀ vs H', Keep H H' → OwnEq ρ ρ' → Sta K B M ρ' σ H' → WOks K H' ρ' ws vs → Q vs H'
def tD (K : PySem.W.Frag) (B : Hp) (M : List Addr) (r : RE) : TE := fun σ H Q => ∃ ρ, Sta K B M ρ σ H ∧ r ρ (kE K B M ρ σ H Q)
def tDT (K : PySem.W.Frag) (B : Hp) (M : List Addr) (r : RT) : TT := fun σ H Q => ∃ ρ, Sta K B M ρ σ H ∧ r ρ (kT K B M ρ σ H Q)
def tDA (K : PySem.W.Frag) (B : Hp) (M : List Addr) (r : RA) : TA := fun σ H Q => ∃ ρ, Sta K B M ρ σ H ∧ r ρ (kA K B M ρ σ H Q)
structure DE (X : Cx) (B : Hp) (M : List Addr) (e : Expr) (r : RE) : Prop where
  pe : PE X e (tD X.K B M r)
  mo : MonoE r
structure DT (X : Cx) (B : Hp) (M : List Addr) (e : Expr) (r : RT) : Prop where
  pt : PT X e (tDT X.K B M r)
  mo : MonoT r
structure DW (X : Cx) (B : Hp) (M : List Addr) (e : Expr) (r : RT) : Prop where
  pw : PW X e (tDT X.K B M r)
  mo : MonoT r
structure DA (X : Cx) (B : Hp) (M : List Addr) (es : List Expr) (r : RA) : Prop where
  pa : PA X es (tDA X.K B M r)
  mo : MonoA r
  len : ∀ ρ P, r ρ P → r ρ fun ws ρ' => ws.length = es.length ∧ P ws ρ'
section
variable {X : Cx} {B : Hp} {M : List Addr} {e a b c : Expr} {es : List Expr} {pos : Pos}
/-- the way from a reading of the layer below -/
theorem DE.mk' {t : TE} {r : RE} (h : PE X e t) (mo : MonoE r) (w : ∀ σ H Q ρ, Sta X.K B M ρ σ H → r ρ (kE X.K B M ρ σ H Q) → t σ H Q) : DE X B M e r := ⟨pe_imp h fun σ H Q ⟨ρ, S, q⟩ => w σ H Q ρ S q, mo⟩
theorem DT.mk' {t : TT} {r : RT} (h : PT X e t) (mo : MonoT r) (w : ∀ σ H Q ρ, Sta X.K B M ρ σ H → r ρ (kT X.K B M ρ σ H Q) → t σ H Q) : DT X B M e r := ⟨pt_imp h fun σ H Q ⟨ρ, S, q⟩ => w σ H Q ρ S q, mo⟩
theorem DA.mk' {t : TA} {r : RA} (h : PA X es t) (mo : MonoA r) (ln : ∀ ρ P, r ρ P → r ρ fun ws ρ' => ws.length = es.length ∧ P ws ρ') (w : ∀ σ H Q ρ, Sta X.K B M ρ σ H → r ρ (kA X.K B M ρ σ H Q) → t σ H Q) : DA X B M es r := ⟨pa_imp h fun σ H Q ⟨ρ, S, q⟩ => w σ H Q ρ S q, mo, ln⟩
/-- a part first, then the rest -/
theorem into {ra : RE} (ha : DE X B M a ra) {σ : L2.St} {H : Hp} {ρ : En} (S : Sta X.K B M ρ σ H) {P : W → En → Prop} (h : ra ρ P) {Q : VK} (w : ∀ w1 ρ1 v H1, P w1 ρ1 → Keep H H1 → OwnEq ρ ρ1 → Sta X.K B M ρ1 σ H1 → WOk X.K H1 ρ1 w1 v → Q v H1) : tD X.K B M ra σ H Q :=
  ⟨ρ, S, ha.mo ρ P _ (fun w1 ρ1 p v H1 k o S1 r => w w1 ρ1 v H1 p k o S1 r) h⟩
theorem intoT {ra : RT} (ha : MonoT ra) {K : PySem.W.Frag} {σ : L2.St} {H : Hp} {ρ : En} (S : Sta K B M ρ σ H) {P : Bool → En → Prop} (h : ra ρ P) {Q : Bool → Hp → Prop} (w : ∀ w1 ρ1 H1, P w1 ρ1 → Keep H H1 → OwnEq ρ ρ1 → Sta K B M ρ1 σ H1 → Q w1 H1) : tDT K B M ra σ H Q :=
  ⟨ρ, S, ha ρ P _ (fun w1 ρ1 p H1 k o S1 => w w1 ρ1 H1 p k o S1) h⟩
theorem intoA {ra : RA} (ha : DA X B M es ra) {σ : L2.St} {H : Hp} {ρ : En} (S : Sta X.K B M ρ σ H) {P : List W → En → Prop} (h : ra ρ P) {Q : List V → Hp → Prop} (w : ∀ w1 ρ1 v H1, P w1 ρ1 → Keep H H1 → OwnEq ρ ρ1 → Sta X.K B M ρ1 σ H1 → WOks X.K H1 ρ1 w1 v → Q v H1) : tDA X.K B M ra σ H Q :=
  ⟨ρ, S, ha.mo ρ P _ (fun w1 ρ1 p v H1 k o S1 r => w w1 ρ1 v H1 p k o S1 r) h⟩

/-! ### names, constants -/
def rd (ρ : En) (i : Nat) : Option W := match ρ[i]? with
  | some (.v d) => some (.d d)
  | some (.own _ _) => some (.o i)
  | _ => none
def rVar (i : Nat) : RE := fun ρ Q => match rd ρ i with
  | some w => Q w ρ
  | none => False
theorem rVar.el {i : Nat} {ρ : En} {Q : W → En → Prop} (h : rVar i ρ Q) : ∃ w, rd ρ i = some w ∧ Q w ρ := by
  unfold rVar at h
  cases e : rd ρ i with
  | none => rw [e] at h; exact h.elim
  | some w => rw [e] at h; exact ⟨w, rfl, h⟩
theorem rVar.mk {i : Nat} {ρ : En} {Q : W → En → Prop} {w : W} (e : rd ρ i = some w) (h : Q w ρ) : rVar i ρ Q := by
  unfold rVar
  rw [e]
  exact h
theorem dv (i : Nat) {x : Str} (hN : X.N[i]? = some x := by rfl) (hv : Vis X.env.scope x := by first | exact Or.inl rfl | exact Or.inr (Or.inl rfl) | exact Or.inr (Or.inr rfl)) (hd : (x == ("__debug__" : Str)) = false := by decide)
    (hcd : (x == ("__classdict__" : Str)) = false := by decide) : DE X B M (.Name x pos) (rVar i) := by
  refine ⟨pe_impL (pe_var hN hv hd hcd) fun σ H Q hl ⟨ρ, S, q⟩ => ?_, fun ρ P P' h q => by obtain ⟨w, e, p⟩ := rVar.el q; exact rVar.mk e (h _ _ p)⟩
  have hsi : i < σ.length := by rw [hl]; exact (List.getElem?_eq_some_iff.mp hN).1
  obtain ⟨w, e, q⟩ := rVar.el q
  unfold rd at e
  cases hs : ρ[i]? with
  | none => rw [hs] at e; cases e
  | some sl =>
    rw [hs] at e
    have h2 := S.ok i _ hs
    have hne : σ[i]? ≠ none := fun z => by
      have := List.getElem?_eq_none_iff.mp z
      omega
    cases sl with
    | un => cases e
    | tab P q => cases e
    | v d =>
      cases e
      rcases h2 with z | ⟨v, h1, r⟩
      · exact absurd z hne
      · exact ⟨v, h1, q v H (Keep.refl _) (OwnEq.refl _) S r⟩
    | own p ds =>
      cases e
      obtain ⟨z | h1, _⟩ := h2
      · exact absurd z hne
      exact ⟨_, h1, q _ H (Keep.refl _) (OwnEq.refl _) S ⟨p, ds, hs, rfl⟩⟩
def rC (d : D) : RE := fun ρ Q => Q (.d d) ρ
theorem mo_rC {d : D} : MonoE (rC d) := fun ρ P P' h p => h _ _ p
theorem de_int {i : Int} {j pos} : DE X B M (.Constant (.int i) j pos) (rC (.int i)) := DE.mk' pe_int mo_rC fun σ H Q ρ S q => q _ H (Keep.refl _) (OwnEq.refl _) S rfl
theorem de_bl {b : Bool} {j pos} : DE X B M (.Constant (.bool b) j pos) (rC (.bl b)) := DE.mk' pe_bl mo_rC fun σ H Q ρ S q => q _ H (Keep.refl _) (OwnEq.refl _) S rfl
theorem de_non {j pos} : DE X B M (.Constant .none j pos) (rC .non) := DE.mk' pe_non mo_rC fun σ H Q ρ S q => q _ H (Keep.refl _) (OwnEq.refl _) S rfl
theorem de_str {x : Str} {j pos} : DE X B M (.Constant (.str x) j pos) (rC (.str x)) := DE.mk' pe_str mo_rC fun σ H Q ρ S q => q _ H (Keep.refl _) (OwnEq.refl _) S rfl
/-- a module's constant -/
theorem de_glob {x : Str} {d : D} {v : V} {u : Value} (hg : Gl X x) (hm : X.mg x = some u) (r : RelV v u) (hd' : ∀ H, Rep X.K H d v) (hd : (x == ("__debug__" : Str)) = false := by decide) : DE X B M (.Name x pos) (rC d) :=
  DE.mk' (pe_glob hg hm r hd) mo_rC fun σ H Q ρ S q => q _ H (Keep.refl _) (OwnEq.refl _) S (hd' H)
theorem de_globI {x : Str} {i : Int} (hg : Gl X x) (hm : ∃ t, X.mg x = some (.int i t)) (hd : (x == ("__debug__" : Str)) = false := by decide) : DE X B M (.Name x pos) (rC (.int i)) := by
  obtain ⟨t, h⟩ := hm
  exact de_glob hg h (v := .int i) ⟨t, rfl⟩ (fun _ => rfl) hd

/-! ### operators of two places -/
/-- an operation over data: what it wants and gives -/
abbrev O2 := W → W → En → (D → Prop) → Prop
def MonoO (o : O2) : Prop := ∀ x y ρ (P P' : D → Prop), (∀ d, P d → P' d) → o x y ρ P → o x y ρ P'
def r2 (ra rb : RE) (o : O2) : RE := fun ρ Q => ra ρ fun w1 ρ1 => rb ρ1 fun w2 ρ2 => o w1 w2 ρ2 fun d => Q (.d d) ρ2
theorem mo_r2 {ra rb : RE} {o : O2} (ha : MonoE ra) (hb : MonoE rb) (ho : MonoO o) : MonoE (r2 ra rb o) := fun ρ P P' h p =>
  ha ρ _ _ (fun w1 ρ1 p1 => hb ρ1 _ _ (fun w2 ρ2 p2 => ho _ _ _ _ _ (fun d pd => h _ _ pd) p2) p1) p
/-- o tells what the rule r of values asks -/
def Tells2 (K : PySem.W.Frag) (r : R2) (o : O2) : Prop := ∀ (B : Hp) (M : List Addr) (ρ : En) (σ : L2.St) (H : Hp) (w1 w2 : W) (x y : V) (Q : VK) (P : D → Prop), Sta K B M ρ σ H → WOk K H ρ w1 x → WOk K H ρ w2 y → o w1 w2 ρ P →
  (∀ d v H', P d → Same H H' → Rep K H' d v → Q v H') → r x y H Q
theorem r2_imp {ra rb : RE} {o : O2} {r : R2} (ha : DE X B M a ra) (hb : DE X B M b rb) (ho : MonoO o) (ht : Tells2 X.K r o) {σ : L2.St} {H : Hp} {Q : VK} {ρ : En} (S : Sta X.K B M ρ σ H) (q : r2 ra rb o ρ (kE X.K B M ρ σ H Q)) :
    tOp r (tD X.K B M ra) (tD X.K B M rb) σ H Q := by
  refine into ha S q fun w1 ρ1 v H1 p1 k1 o1 S1 r1 => ?_
  refine into hb S1 p1 fun w2 ρ2 v2 H2 p2 k2 o2 S2 r2 => ?_
  refine ht B M ρ2 σ H2 w1 w2 v v2 Q _ S2 (WOk.keep k2 o2 r1) r2 p2 fun d u H3 pd sm rr => ?_
  exact pd u H3 ((k1.trans k2).trans (Keep.of sm)) (o1.trans o2) (S2.same sm) rr
theorem de_op {op : Operator} {ra rb : RE} {o : O2} {r : R2} (hr : OpR X (binaryOp op) r) (ht : Tells2 X.K r o) (ho : MonoO o) (ha : DE X B M a ra) (hb : DE X B M b rb) : DE X B M (.BinOp a op b pos) (r2 ra rb o) :=
  DE.mk' (pe_op hr ha.pe hb.pe) (mo_r2 ha.mo hb.mo ho) fun σ H Q ρ S q => r2_imp ha hb ho ht S q
/-- ints -/
def oI (C : Int → Int → Prop) (g : Int → Int → D) : O2 := fun w1 w2 _ P => match w1, w2 with
  | .d (.int i), .d (.int j) => C i j ∧ P (g i j)
  | _, _ => False
def oI0 (g : Int → Int → D) : O2 := fun w1 w2 _ P => match w1, w2 with
  | .d (.int i), .d (.int j) => P (g i j)
  | _, _ => False
theorem oI.el {C : Int → Int → Prop} {g : Int → Int → D} {w1 w2 : W} {ρ : En} {P : D → Prop} (h : oI C g w1 w2 ρ P) : ∃ i j, w1 = .d (.int i) ∧ w2 = .d (.int j) ∧ C i j ∧ P (g i j) := by
  unfold oI at h
  split at h
  · exact ⟨_, _, rfl, rfl, h.1, h.2⟩
  · exact h.elim
theorem oI0.el {g : Int → Int → D} {w1 w2 : W} {ρ : En} {P : D → Prop} (h : oI0 g w1 w2 ρ P) : ∃ i j, w1 = .d (.int i) ∧ w2 = .d (.int j) ∧ P (g i j) := by
  unfold oI0 at h
  split at h
  · exact ⟨_, _, rfl, rfl, h⟩
  · exact h.elim
theorem mo_oI {C : Int → Int → Prop} {g : Int → Int → D} : MonoO (oI C g) := fun x y ρ P P' h q => by
  obtain ⟨i, j, rfl, rfl, c, p⟩ := q.el
  exact ⟨c, h _ p⟩
theorem mo_oI0 {g : Int → Int → D} : MonoO (oI0 g) := fun x y ρ P P' h q => by
  obtain ⟨i, j, rfl, rfl, p⟩ := q.el
  exact h _ p
theorem tells_I {K : PySem.W.Frag} {C : Int → Int → Prop} {g : Int → Int → D} {g' : Int → Int → V} (hg : ∀ i j H, Rep K H (g i j) (g' i j)) : Tells2 K (rI C g') (oI C g) := fun B M ρ σ H w1 w2 x y Q P S r1 r2 hh q => by
  obtain ⟨i, j, e1, e2, c, p⟩ := hh.el
  subst e1 e2
  exact ⟨i, j, r1, r2, c, q _ _ H p (Same.refl _) (hg i j H)⟩
theorem tells_I0 {K : PySem.W.Frag} {g : Int → Int → D} {g' : Int → Int → V} (hg : ∀ i j H, Rep K H (g i j) (g' i j)) : Tells2 K (rI0 g') (oI0 g) := fun B M ρ σ H w1 w2 x y Q P S r1 r2 hh q => by
  obtain ⟨i, j, e1, e2, p⟩ := hh.el
  subst e1 e2
  exact ⟨i, j, r1, r2, q _ _ H p (Same.refl _) (hg i j H)⟩
theorem de_add {ra rb : RE} (ha : DE X B M a ra) (hb : DE X B M b rb) : DE X B M (.BinOp a .Add b pos) (r2 ra rb (oI0 fun i j => .int (i + j))) := de_op op_add (tells_I0 fun _ _ _ => rfl) mo_oI0 ha hb
theorem de_sub {ra rb : RE} (ha : DE X B M a ra) (hb : DE X B M b rb) : DE X B M (.BinOp a .Sub b pos) (r2 ra rb (oI0 fun i j => .int (i - j))) := de_op op_sub (tells_I0 fun _ _ _ => rfl) mo_oI0 ha hb
theorem de_mul {ra rb : RE} (ha : DE X B M a ra) (hb : DE X B M b rb) : DE X B M (.BinOp a .Mult b pos) (r2 ra rb (oI CMul fun i j => .int (i * j))) := de_op op_mul (tells_I fun _ _ _ => rfl) mo_oI ha hb
theorem de_mod {ra rb : RE} (ha : DE X B M a ra) (hb : DE X B M b rb) : DE X B M (.BinOp a .Mod b pos) (r2 ra rb (oI (fun _ j => 0 < j) fun i j => .int (i % j))) := de_op op_mod (tells_I fun _ _ _ => rfl) mo_oI ha hb
theorem de_fdiv {ra rb : RE} (ha : DE X B M a ra) (hb : DE X B M b rb) : DE X B M (.BinOp a .FloorDiv b pos) (r2 ra rb (oI CDiv fun i j => .int (i / j))) := de_op op_fdiv (tells_I fun _ _ _ => rfl) mo_oI ha hb
theorem de_pow {ra rb : RE} (ha : DE X B M a ra) (hb : DE X B M b rb) : DE X B M (.BinOp a .Pow b pos) (r2 ra rb (oI CPow fun i j => .int (i ^ j.toNat))) := de_op op_pow (tells_I fun _ _ _ => rfl) mo_oI ha hb
/-! ### comparisons -/
theorem de_cmp {op : CmpOp} {ra rb : RE} {o : O2} {r : R2} (hr : OpR X (compareOp op) r) (ht : Tells2 X.K r o) (ho : MonoO o) (ha : DE X B M a ra) (hb : DE X B M b rb) (hm : behindInMarks op b = false) : DE X B M (.Compare a [op] [b] pos) (r2 ra rb o) :=
  DE.mk' (pe_cmpR hr ha.pe hb.pe hm) (mo_r2 ha.mo hb.mo ho) fun σ H Q ρ S q => r2_imp ha hb ho ht S q
theorem de_lt {ra rb : RE} (ha : DE X B M a ra) (hb : DE X B M b rb) : DE X B M (.Compare a [.Lt] [b] pos) (r2 ra rb (oI0 fun i j => .bl (decide (i < j)))) := de_cmp op_lt (tells_I0 fun _ _ _ => rfl) mo_oI0 ha hb (nomark _)
theorem de_le {ra rb : RE} (ha : DE X B M a ra) (hb : DE X B M b rb) : DE X B M (.Compare a [.LtE] [b] pos) (r2 ra rb (oI0 fun i j => .bl (decide (i ≤ j)))) := de_cmp op_le (tells_I0 fun _ _ _ => rfl) mo_oI0 ha hb (nomark _)
theorem de_gt {ra rb : RE} (ha : DE X B M a ra) (hb : DE X B M b rb) : DE X B M (.Compare a [.Gt] [b] pos) (r2 ra rb (oI0 fun i j => .bl (decide (j < i)))) := de_cmp op_gt (tells_I0 fun _ _ _ => rfl) mo_oI0 ha hb (nomark _)
theorem de_ge {ra rb : RE} (ha : DE X B M a ra) (hb : DE X B M b rb) : DE X B M (.Compare a [.GtE] [b] pos) (r2 ra rb (oI0 fun i j => .bl (decide (j ≤ i)))) := de_cmp op_ge (tells_I0 fun _ _ _ => rfl) mo_oI0 ha hb (nomark _)
/-- two flat things of one kind -/
def eqS : D → D → Option Bool
  | .int i, .int j => some (decide (i = j))
  | .bl i, .bl j => some (decide (i = j))
  | .str i, .str j => some (decide (i = j))
  | _, _ => none
def eqW : W → W → Option Bool
  | .d x, .d y => eqS x y
  | _, _ => none
def oEq : O2 := fun w1 w2 _ P => match eqW w1 w2 with
  | some b => P (.bl b)
  | none => False
def oNe : O2 := fun w1 w2 _ P => match eqW w1 w2 with
  | some b => P (.bl (!b))
  | none => False
theorem eqW_el {w1 w2 : W} {b : Bool} (h : eqW w1 w2 = some b) : ∃ x y, w1 = .d x ∧ w2 = .d y ∧ eqS x y = some b := by
  cases w1 <;> cases w2 <;> first | exact ⟨_, _, rfl, rfl, h⟩ | cases h
theorem oEq.el {w1 w2 : W} {ρ : En} {P : D → Prop} (h : oEq w1 w2 ρ P) : ∃ b, eqW w1 w2 = some b ∧ P (.bl b) := by
  unfold oEq at h
  cases e : eqW w1 w2 with
  | none => rw [e] at h; exact h.elim
  | some b => rw [e] at h; exact ⟨b, rfl, h⟩
theorem oNe.el {w1 w2 : W} {ρ : En} {P : D → Prop} (h : oNe w1 w2 ρ P) : ∃ b, eqW w1 w2 = some b ∧ P (.bl (!b)) := by
  unfold oNe at h
  cases e : eqW w1 w2 with
  | none => rw [e] at h; exact h.elim
  | some b => rw [e] at h; exact ⟨b, rfl, h⟩
theorem mo_oEq : MonoO oEq := fun x y ρ P P' h q => by
  obtain ⟨b, e, p⟩ := q.el
  unfold oEq
  rw [e]
  exact h _ p
theorem mo_oNe : MonoO oNe := fun x y ρ P P' h q => by
  obtain ⟨b, e, p⟩ := q.el
  unfold oNe
  rw [e]
  exact h _ p
theorem eqS_ok {K : PySem.W.Frag} {H : Hp} {d e : D} {b : Bool} {x y : V} (h : eqS d e = some b) (r1 : Rep K H d x) (r2 : Rep K H e y) : scal x y = true ∧ decide (x = y) = b := by
  cases d <;> cases e <;> simp only [eqS, Option.some.injEq, reduceCtorEq] at h <;> first
    | (rename_i i j
       rw [show x = _ from r1, show y = _ from r2, ← h]
       exact ⟨rfl, by simp⟩)
theorem tells_eq {K : PySem.W.Frag} : Tells2 K rEq oEq := fun B M ρ σ H w1 w2 x y Q P S r1 r2 hh q => by
  obtain ⟨b, ee, p⟩ := hh.el
  obtain ⟨d, e, e1, e2, c⟩ := eqW_el ee
  subst e1 e2
  obtain ⟨h1, h2⟩ := eqS_ok c r1 r2
  exact ⟨h1, by rw [h2]; exact q _ _ H p (Same.refl _) rfl⟩
theorem tells_ne {K : PySem.W.Frag} : Tells2 K rNe oNe := fun B M ρ σ H w1 w2 x y Q P S r1 r2 hh q => by
  obtain ⟨b, ee, p⟩ := hh.el
  obtain ⟨d, e, e1, e2, c⟩ := eqW_el ee
  subst e1 e2
  obtain ⟨h1, h2⟩ := eqS_ok c r1 r2
  exact ⟨h1, by rw [h2]; exact q _ _ H p (Same.refl _) rfl⟩
theorem de_eq {ra rb : RE} (ha : DE X B M a ra) (hb : DE X B M b rb) : DE X B M (.Compare a [.Eq] [b] pos) (r2 ra rb oEq) := de_cmp op_eq tells_eq mo_oEq ha hb (nomark _)
theorem de_ne {ra rb : RE} (ha : DE X B M a ra) (hb : DE X B M b rb) : DE X B M (.Compare a [.NotEq] [b] pos) (r2 ra rb oNe) := de_cmp op_ne tells_ne mo_oNe ha hb (nomark _)

/-! ### tests -/
/-- a value that is True or False, as a test -/
def kB (Q : Bool → En → Prop) : W → En → Prop := fun w ρ1 => match w with
  | .d (.bl b) => Q b ρ1
  | _ => False
theorem kB.el {Q : Bool → En → Prop} {w : W} {ρ : En} (h : kB Q w ρ) : ∃ b, w = .d (.bl b) ∧ Q b ρ := by
  unfold kB at h
  split at h
  · exact ⟨_, rfl, h⟩
  · exact h.elim
def rTB (r : RE) : RT := fun ρ Q => r ρ (kB Q)
theorem mo_rTB {r : RE} (h : MonoE r) : MonoT (rTB r) := fun ρ P P' w p => h ρ _ _ (fun w1 ρ1 q => by obtain ⟨b, rfl, q⟩ := q.el; exact w _ _ q) p
theorem tb_imp {ra : RE} (ha : DE X B M a ra) {σ : L2.St} {H : Hp} {Q : Bool → Hp → Prop} {ρ : En} (S : Sta X.K B M ρ σ H) (q : rTB ra ρ (kT X.K B M ρ σ H Q)) : tTest (tD X.K B M ra) σ H Q := by
  refine into ha S q fun w1 ρ1 v H1 hh k1 o1 S1 r1 => ?_
  obtain ⟨k, e, p1⟩ := hh.el
  subst e
  exact ⟨k, r1, p1 H1 k1 o1 S1⟩
theorem dt_val {ra : RE} (ha : DE X B M a ra) (he : ∀ whole, isTrue a X.env whole = (do let v ← whole; standAt a.pos; holding [v] (truthy v)) := by intro _; rfl) : DT X B M a (rTB ra) :=
  DT.mk' (pt_val ha.pe he) (mo_rTB ha.mo) fun σ H Q ρ S q => tb_imp ha S q
theorem dt_cmp {op : CmpOp} {ra rb : RE} {o : O2} {r : R2} (hr : OpR X (compareOp op) r) (ht : Tells2 X.K r o) (ho : MonoO o) (ha : DE X B M a ra) (hb : DE X B M b rb) (hm : behindInMarks op b = false) : DT X B M (.Compare a [op] [b] pos) (rTB (r2 ra rb o)) := by
  refine DT.mk' (pt_cmpR hr ha.pe hb.pe hm) (mo_rTB (mo_r2 ha.mo hb.mo ho)) fun σ H Q ρ S q => ?_
  refine into ha S q fun w1 ρ1 v H1 p1 k1 o1 S1 r1 => ?_
  refine into hb S1 p1 fun w2 ρ2 v2 H2 p2 k2 o2 S2 r2 => ?_
  refine ht B M ρ2 σ H2 w1 w2 v v2 _ _ S2 (WOk.keep k2 o2 r1) r2 p2 fun d u H3 pd sm rr => ?_
  obtain ⟨k, e, pd⟩ := pd.el
  cases e
  exact ⟨k, rr, pd H3 ((k1.trans k2).trans (Keep.of sm)) (o1.trans o2) (S2.same sm)⟩
theorem dt_lt {ra rb : RE} (ha : DE X B M a ra) (hb : DE X B M b rb) : DT X B M (.Compare a [.Lt] [b] pos) (rTB (r2 ra rb (oI0 fun i j => .bl (decide (i < j))))) := dt_cmp op_lt (tells_I0 fun _ _ _ => rfl) mo_oI0 ha hb (nomark _)
theorem dt_le {ra rb : RE} (ha : DE X B M a ra) (hb : DE X B M b rb) : DT X B M (.Compare a [.LtE] [b] pos) (rTB (r2 ra rb (oI0 fun i j => .bl (decide (i ≤ j))))) := dt_cmp op_le (tells_I0 fun _ _ _ => rfl) mo_oI0 ha hb (nomark _)
theorem dt_gt {ra rb : RE} (ha : DE X B M a ra) (hb : DE X B M b rb) : DT X B M (.Compare a [.Gt] [b] pos) (rTB (r2 ra rb (oI0 fun i j => .bl (decide (j < i))))) := dt_cmp op_gt (tells_I0 fun _ _ _ => rfl) mo_oI0 ha hb (nomark _)
theorem dt_ge {ra rb : RE} (ha : DE X B M a ra) (hb : DE X B M b rb) : DT X B M (.Compare a [.GtE] [b] pos) (rTB (r2 ra rb (oI0 fun i j => .bl (decide (j ≤ i))))) := dt_cmp op_ge (tells_I0 fun _ _ _ => rfl) mo_oI0 ha hb (nomark _)
theorem dt_eq {ra rb : RE} (ha : DE X B M a ra) (hb : DE X B M b rb) : DT X B M (.Compare a [.Eq] [b] pos) (rTB (r2 ra rb oEq)) := dt_cmp op_eq tells_eq mo_oEq ha hb (nomark _)
theorem dt_ne {ra rb : RE} (ha : DE X B M a ra) (hb : DE X B M b rb) : DT X B M (.Compare a [.NotEq] [b] pos) (rTB (r2 ra rb oNe)) := dt_cmp op_ne tells_ne mo_oNe ha hb (nomark _)
def rNot (r : RT) : RT := fun ρ Q => r ρ fun b ρ1 => Q (!b) ρ1
theorem dt_not {ra : RT} (ha : DT X B M a ra) : DT X B M (.UnaryOp .Not a pos) (rNot ra) := by
  refine DT.mk' (pt_not ha.pt) (fun ρ P P' w p => ha.mo ρ _ _ (fun _ _ q => w _ _ q) p) fun σ H Q ρ S q => ?_
  exact intoT ha.mo S q fun w1 ρ1 H1 p k o S1 => p H1 k o S1
def rAnd (ra rb : RT) : RT := fun ρ Q => ra ρ fun b ρ1 => if b = true then rb ρ1 Q else Q false ρ1
def rOr (ra rb : RT) : RT := fun ρ Q => ra ρ fun b ρ1 => if b = true then Q true ρ1 else rb ρ1 Q
theorem mo_rAnd {ra rb : RT} (ha : MonoT ra) (hb : MonoT rb) : MonoT (rAnd ra rb) := fun ρ P P' w p => ha ρ _ _ (fun k ρ1 q => by
  cases k with
  | true => exact hb ρ1 _ _ w q
  | false => exact w _ _ q) p
theorem mo_rOr {ra rb : RT} (ha : MonoT ra) (hb : MonoT rb) : MonoT (rOr ra rb) := fun ρ P P' w p => ha ρ _ _ (fun k ρ1 q => by
  cases k with
  | true => exact w _ _ q
  | false => exact hb ρ1 _ _ w q) p
theorem dw_and1 {ra : RT} (ha : DT X B M a ra) : DW X B M (.BoolOp .And [a] pos) ra := ⟨pw_and1 ha.pt, ha.mo⟩
theorem dw_or1 {ra : RT} (ha : DT X B M a ra) : DW X B M (.BoolOp .Or [a] pos) ra := ⟨pw_or1 ha.pt, ha.mo⟩
theorem dw_and {rest : List Expr} {ra rb : RT} (ha : DT X B M a ra) (hb : DW X B M (.BoolOp .And (b :: rest) pos) rb) : DW X B M (.BoolOp .And (a :: b :: rest) pos) (rAnd ra rb) := by
  refine ⟨pw_imp (pw_and ha.pt hb.pw) fun σ H Q ⟨ρ, S, q⟩ => ?_, mo_rAnd ha.mo hb.mo⟩
  refine intoT ha.mo S q fun k ρ1 H1 p kk oo S1 => ?_
  cases k with
  | true => exact intoT hb.mo S1 p fun k2 ρ2 H2 p2 k3 o3 S2 => p2 H2 (kk.trans k3) (oo.trans o3) S2
  | false => exact p H1 kk oo S1
theorem dw_or {rest : List Expr} {ra rb : RT} (ha : DT X B M a ra) (hb : DW X B M (.BoolOp .Or (b :: rest) pos) rb) : DW X B M (.BoolOp .Or (a :: b :: rest) pos) (rOr ra rb) := by
  refine ⟨pw_imp (pw_or ha.pt hb.pw) fun σ H Q ⟨ρ, S, q⟩ => ?_, mo_rOr ha.mo hb.mo⟩
  refine intoT ha.mo S q fun k ρ1 H1 p kk oo S1 => ?_
  cases k with
  | true => exact p H1 kk oo S1
  | false => exact intoT hb.mo S1 p fun k2 ρ2 H2 p2 k3 o3 S2 => p2 H2 (kk.trans k3) (oo.trans o3) S2
theorem DW.dt {ra : RT} (h : DW X B M e ra) : DT X B M e ra := ⟨h.pw.pt, h.mo⟩
/-- and, or, not as values of True, False -/
def rAndV (ra rb : RE) : RE := fun ρ Q => ra ρ (kB fun k ρ1 => if k = true then rb ρ1 Q else Q (.d (.bl false)) ρ1)
def rOrV (ra rb : RE) : RE := fun ρ Q => ra ρ (kB fun k ρ1 => if k = true then Q (.d (.bl true)) ρ1 else rb ρ1 Q)
def rNotV (ra : RE) : RE := fun ρ Q => ra ρ (kB fun k ρ1 => Q (.d (.bl (!k))) ρ1)
theorem de_one {op} {r : RE} (h : DE X B M a r) : DE X B M (.BoolOp op [a] pos) r := ⟨pe_one h.pe, h.mo⟩
theorem kE_to {K : PySem.W.Frag} {ρ ρ1 : En} {σ : L2.St} {H H1 : Hp} {Q : VK} (k : Keep H H1) (o : OwnEq ρ ρ1) : ∀ w ρ', kE K B M ρ σ H Q w ρ' → kE K B M ρ1 σ H1 Q w ρ' := fun w ρ' h v H' k' o' S' r => h v H' (k.trans k') (o.trans o') S' r
theorem mo_rAndV {ra rb : RE} (ha : MonoE ra) (hb : MonoE rb) : MonoE (rAndV ra rb) := fun ρ P P' w p => ha ρ _ _ (fun w1 ρ1 q => by
  obtain ⟨k, rfl, q⟩ := q.el
  cases k with
  | true => exact hb ρ1 _ _ w q
  | false => exact w _ _ q) p
theorem mo_rOrV {ra rb : RE} (ha : MonoE ra) (hb : MonoE rb) : MonoE (rOrV ra rb) := fun ρ P P' w p => ha ρ _ _ (fun w1 ρ1 q => by
  obtain ⟨k, rfl, q⟩ := q.el
  cases k with
  | true => exact w _ _ q
  | false => exact hb ρ1 _ _ w q) p
theorem de_and {rest : List Expr} {ra rb : RE} (ha : DE X B M a ra) (hb : DE X B M (.BoolOp .And (b :: rest) pos) rb) : DE X B M (.BoolOp .And (a :: b :: rest) pos) (rAndV ra rb) := by
  refine DE.mk' (pe_and ha.pe hb.pe) (mo_rAndV ha.mo hb.mo) fun σ H Q ρ S q => ?_
  refine into ha S q fun w1 ρ1 v H1 hh kk oo S1 r1 => ?_
  obtain ⟨k, e, p⟩ := hh.el
  subst e
  refine ⟨k, r1, ?_⟩
  cases k with
  | true => exact ⟨ρ1, S1, hb.mo ρ1 _ _ (kE_to kk oo) p⟩
  | false => exact p _ H1 kk oo S1 rfl
theorem de_or {rest : List Expr} {ra rb : RE} (ha : DE X B M a ra) (hb : DE X B M (.BoolOp .Or (b :: rest) pos) rb) : DE X B M (.BoolOp .Or (a :: b :: rest) pos) (rOrV ra rb) := by
  refine DE.mk' (pe_or ha.pe hb.pe) (mo_rOrV ha.mo hb.mo) fun σ H Q ρ S q => ?_
  refine into ha S q fun w1 ρ1 v H1 hh kk oo S1 r1 => ?_
  obtain ⟨k, e, p⟩ := hh.el
  subst e
  refine ⟨k, r1, ?_⟩
  cases k with
  | true => exact p _ H1 kk oo S1 rfl
  | false => exact ⟨ρ1, S1, hb.mo ρ1 _ _ (kE_to kk oo) p⟩
theorem de_not {ra : RE} (ha : DE X B M a ra) : DE X B M (.UnaryOp .Not a pos) (rNotV ra) := by
  refine DE.mk' (pe_not ha.pe) (fun ρ P P' w p => ha.mo ρ _ _ (fun w1 ρ1 q => by obtain ⟨k, rfl, q⟩ := q.el; exact w _ _ q) p) fun σ H Q ρ S q => ?_
  refine into ha S q fun w1 ρ1 v H1 hh kk oo S1 r1 => ?_
  obtain ⟨k, e, p⟩ := hh.el
  subst e
  exact ⟨k, r1, p _ H1 kk oo S1 rfl⟩
def rIfE (rt : RT) (ra rb : RE) : RE := fun ρ Q => rt ρ fun k ρ1 => if k = true then ra ρ1 Q else rb ρ1 Q
theorem de_if {rt : RT} {ra rb : RE} (hc : DT X B M c rt) (ha : DE X B M a ra) (hb : DE X B M b rb) : DE X B M (.IfExp c a b pos) (rIfE rt ra rb) := by
  refine DE.mk' (pe_ifExp hc.pt ha.pe hb.pe) (fun ρ P P' w p => hc.mo ρ _ _ (fun k ρ1 q => ?_) p) fun σ H Q ρ S q => ?_
  · cases k with
    | true => exact ha.mo ρ1 _ _ w q
    | false => exact hb.mo ρ1 _ _ w q
  · refine intoT hc.mo S q fun k ρ1 H1 p kk oo S1 => ?_
    cases k with
    | true => exact ⟨ρ1, S1, ha.mo ρ1 _ _ (kE_to kk oo) p⟩
    | false => exact ⟨ρ1, S1, hb.mo ρ1 _ _ (kE_to kk oo) p⟩
end
end N
/-! N2 -/
set_option Elab.async false
set_option linter.all false
set_option maxRecDepth 100000
set_option maxHeartbeats 1000000
/-! N2: arguments, displays, new lists, sequences that are read. -/
namespace N
open PySem PySem.Spec PyProof.Rows L2
section
variable {X : Cx} {B : Hp} {M : List Addr} {e a b c : Expr} {es : List Expr} {pos : Pos}
/-! ### arguments -/
def rNil : RA := fun ρ Q => Q [] ρ
def rCons (ra : RE) (rr : RA) : RA := fun ρ Q => ra ρ fun w ρ1 => rr ρ1 fun ws ρ2 => Q (w :: ws) ρ2
theorem da_nil : DA X B M [] rNil := DA.mk' pa_nil (fun ρ P P' h p => h _ _ p) (fun ρ P p => ⟨rfl, p⟩) fun σ H Q ρ S q => q [] H (Keep.refl _) (OwnEq.refl _) S rfl
theorem da_cons {ra : RE} {rr : RA} (ha : DE X B M a ra) (hr : DA X B M es rr) (hs : starEach (a :: es) X.env = (false, eval a X.env) :: starEach es X.env := by rfl) : DA X B M (a :: es) (rCons ra rr) := by
  refine DA.mk' (pa_cons ha.pe hr.pa hs) (fun ρ P P' h p => ha.mo ρ _ _ (fun w1 ρ1 q => hr.mo ρ1 _ _ (fun ws ρ2 q2 => h _ _ q2) q) p)
    (fun ρ P p => ha.mo ρ _ _ (fun w1 ρ1 q => hr.mo ρ1 _ _ (fun ws ρ2 ⟨l, q2⟩ => ⟨congrArg Nat.succ l, q2⟩) (hr.len ρ1 _ q)) p) fun σ H Q ρ S q => ?_
  refine into ha S q fun w1 ρ1 v H1 p1 k1 o1 S1 r1 => ?_
  refine intoA hr S1 p1 fun ws ρ2 vs H2 p2 k2 o2 S2 r2 => ?_
  exact p2 (v :: vs) H2 (k1.trans k2) (o1.trans o2) S2 ⟨v, vs, rfl, WOk.keep k2 o2 r1, r2⟩
/-- results that are all data -/
def dats : List D → List W
  | [] => []
  | d :: ds => .d d :: dats ds
theorem dats_len : ∀ ds : List D, (dats ds).length = ds.length
  | [] => rfl
  | _ :: ds => congrArg Nat.succ (dats_len ds)
theorem dats_ok {K : PySem.W.Frag} {H : Hp} {ρ : En} : ∀ {ds : List D} {vs : List V}, WOks K H ρ (dats ds) vs → RepL K H ds vs
  | [], _, h => h
  | d :: ds, _, h => by
    obtain ⟨v, vr, e, r, rr⟩ := h
    exact ⟨v, vr, e, r, dats_ok rr⟩

/-- the data of results, where all are data -/
def unD : List W → Option (List D)
  | [] => some []
  | .d x :: ws => match unD ws with
    | some ds => some (x :: ds)
    | none => none
  | .o _ :: _ => none
theorem unD_el : ∀ {ws : List W} {ds : List D}, unD ws = some ds → ws = dats ds
  | [], ds, h => by cases h; rfl
  | .d x :: ws, ds, h => by
    have h2 : (match unD ws with
      | some ds => some (x :: ds)
      | none => none) = some ds := h
    cases e : unD ws with
    | none => rw [e] at h2; cases h2
    | some fs =>
      rw [e] at h2
      cases h2
      rw [unD_el e]
      rfl
  | .o _ :: _, ds, h => by cases h
def kDs (Q : List D → En → Prop) : List W → En → Prop := fun ws ρ => match unD ws with
  | some ds => Q ds ρ
  | none => False
theorem kDs.el {Q : List D → En → Prop} {ws : List W} {ρ : En} (h : kDs Q ws ρ) : ∃ ds, unD ws = some ds ∧ Q ds ρ := by
  unfold kDs at h
  cases e : unD ws with
  | none => rw [e] at h; exact h.elim
  | some b => rw [e] at h; exact ⟨b, rfl, h⟩
theorem kDs.mk {Q : List D → En → Prop} {ws : List W} {ρ : En} {ds : List D} (e : unD ws = some ds) (h : Q ds ρ) : kDs Q ws ρ := by
  unfold kDs
  rw [e]
  exact h
theorem kDs.imp {Q Q' : List D → En → Prop} {ws : List W} {ρ : En} (h : kDs Q ws ρ) (w : ∀ ds, Q ds ρ → Q' ds ρ) : kDs Q' ws ρ := by
  obtain ⟨ds, e, q⟩ := h.el
  exact kDs.mk e (w ds q)

/-! ### new lists -/
abbrev RN := En → (List D → En → Prop) → Prop
def MonoN (r : RN) : Prop := ∀ ρ (P P' : List D → En → Prop), (∀ w ρ', P w ρ' → P' w ρ') → r ρ P → r ρ P'
structure NewAt (K : PySem.W.Frag) (B : Hp) (ρ : En) (H : Hp) (p : Addr) (ds : List D) : Prop where
  at_ : ∃ vs, H p = some (.lst vs) ∧ RepL K H ds vs
  nB : B p = none
  nO : ∀ (j : Nat) q es, ρ[j]? = some (.own q es) → q ≠ p
def kN (K : PySem.W.Frag) (B : Hp) (M : List Addr) (ρ : En) (σ : L2.St) (H : Hp) (Q : VK) : List D → En → Prop := fun ds ρ' => ∀ p H', Keep H H' → OwnEq ρ ρ' → Sta K B M ρ' σ H' → NewAt K B ρ' H' p ds → Q (.ref p) H'
def tDN (K : PySem.W.Frag) (B : Hp) (M : List Addr) (r : RN) : TE := fun σ H Q => ∃ ρ, Sta K B M ρ σ H ∧ r ρ (kN K B M ρ σ H Q)
structure DN (X : Cx) (B : Hp) (M : List Addr) (e : Expr) (r : RN) : Prop where
  pe : PE X e (tDN X.K B M r)
  mo : MonoN r
theorem DN.mk' {t : TE} {r : RN} (h : PE X e t) (mo : MonoN r) (w : ∀ σ H Q ρ, Sta X.K B M ρ σ H → r ρ (kN X.K B M ρ σ H Q) → t σ H Q) : DN X B M e r := ⟨pe_imp h fun σ H Q ⟨ρ, S, q⟩ => w σ H Q ρ S q, mo⟩
/-- the list just laid -/
theorem NewAt.laid {K : PySem.W.Frag} {B H : Hp} {M : List Addr} {ρ : En} {σ : L2.St} {p : Addr} {ds : List D} {vs : List V} (S : Sta K B M ρ σ H) (hp : H p = none) (r : RepL K H ds vs) : Sta K B M ρ σ (upd H p (.lst vs)) ∧ NewAt K B ρ (upd H p (.lst vs)) p ds :=
  ⟨S.same (same_upd hp), ⟨vs, upd_same, RepL.keep (Keep.of (same_upd hp)) ds r⟩, S.fresh_B hp, S.fresh_own hp⟩
/-- an unlocked list that is no slot's gets locked -/
theorem Sta.freeze {K : PySem.W.Frag} {B H : Hp} {M : List Addr} {ρ : En} {σ : L2.St} {p : Addr} {vs : List V} {o : Obj} (S : Sta K B M ρ σ H) (hp : H p = some (.lst vs)) (nB : B p = none ∨ p ∈ M) (nO : ∀ (j : Nat) q es, ρ[j]? = some (.own q es) → q ≠ p) :
    Keep H (upd H p (.frz o (.lst vs))) ∧ Sta K B M ρ σ (upd H p (.frz o (.lst vs))) := by
  have kp : Keep H (upd H p (.frz o (.lst vs))) := fun b u h im => by
    have : b ≠ p := fun z => by
      rw [z, hp] at h
      cases h
      exact im
    rw [upd_ne this]
    exact h
  refine ⟨kp, fun b u h im => ?_, fun i s e => ?_, S.dis, S.new, fun q hq => ?_, S.tbi⟩
  · have hb : b ≠ p := fun z => by
      have h2 := S.frm b u h im
      rw [z, hp] at h2
      cases h2
      rcases nB with n | n
      · rw [z, n] at h
        cases h
      · rcases im with im | im
        · exact im
        · exact im (z ▸ n)
    rw [upd_ne hb]
    exact S.frm b u h im
  · refine SlotOk.keep kp (fun q fs es => ?_) (fun P q et => by
      subst et
      exact tab_upd hp (S.ok i _ e)) (S.ok i s e)
    subst es
    obtain ⟨_, us, hq, r⟩ := S.ok i _ e
    exact ⟨us, by rw [upd_ne (nO i q fs e)]; exact hq, RepL.keep kp fs r⟩
  · by_cases hqp : q = p
    · rw [hqp]
      exact ⟨_, upd_same⟩
    · rw [upd_ne hqp]
      exact S.mh q hq
/-- a new list as data -/
def rNew (r : RN) : RE := fun ρ Q => r ρ fun ds ρ' => Q (.d (.lst ds)) ρ'
theorem de_new {r : RN} (h : DN X B M e r) : DE X B M e (rNew r) := by
  refine DE.mk' (pe_frz h.pe) (fun ρ P P' w p => h.mo ρ _ _ (fun ds ρ' q => w _ _ q) p) fun σ H Q ρ S q => ?_
  refine ⟨ρ, S, h.mo ρ _ _ (fun ds ρ' q2 => ?_) q⟩
  intro p H' k o S' n
  obtain ⟨vs, hp, r'⟩ := n.at_
  refine ⟨p, vs, rfl, hp, fun ob hc => ?_⟩
  obtain ⟨k2, S2⟩ := Sta.freeze (o := ob) S' hp (.inl n.nB) n.nO
  exact q2 _ _ (k.trans k2) o S2 ⟨p, vs, rfl, ⟨ob, upd_same⟩, RepL.keep k2 ds r'⟩
/-- [a, b, ..] -/
def rLst (ra : RA) : RN := fun ρ Q => ra ρ (kDs Q)
theorem dn_lst {ra : RA} (ha : DA X B M es ra) (hn : es.length ≤ 16777216 := by decide) : DN X B M (.List es pos) (rLst ra) := by
  refine DN.mk' (pe_lst ha.pa) (fun ρ P P' w p => ha.mo ρ _ _ (fun ws ρ1 q => q.imp fun ds q => w _ _ q) p) fun σ H Q ρ S q => ?_
  refine intoA ha S (ha.len ρ _ q) fun ws ρ1 vs H1 ⟨hl, hh⟩ k1 o1 S1 r1 => ?_
  obtain ⟨ds, eu, q1⟩ := hh.el
  have e1 := unD_el eu
  subst e1
  have e2 : ds.length ≤ sizeLine := by rw [sizeLine_eq, ← dats_len ds, hl]; exact hn
  have rr := dats_ok r1
  refine ⟨by rw [RepL.length rr]; exact e2, fun p hp => ?_⟩
  obtain ⟨S2, n2⟩ := NewAt.laid S1 hp rr
  exact q1 p _ (k1.trans (Keep.of (same_upd hp))) o1 S2 n2
/-- (a, b, ..) -/
def rTup (ra : RA) : RE := fun ρ Q => ra ρ (kDs fun ds ρ1 => Q (.d (.tup ds)) ρ1)
theorem de_tup {ra : RA} {x1} (ha : DA X B M es ra) (hn : es.length ≤ 16777216 := by decide) : DE X B M (.Tuple es x1 pos) (rTup ra) := by
  refine DE.mk' (pe_tupN ha.pa) (fun ρ P P' w p => ha.mo ρ _ _ (fun ws ρ1 q => q.imp fun ds q => w _ _ q) p) fun σ H Q ρ S q => ?_
  refine intoA ha S (ha.len ρ _ q) fun ws ρ1 vs H1 ⟨hl, hh⟩ k1 o1 S1 r1 => ?_
  obtain ⟨ds, eu, q1⟩ := hh.el
  have e1 := unD_el eu
  subst e1
  have e2 : ds.length ≤ sizeLine := by rw [sizeLine_eq, ← dats_len ds, hl]; exact hn
  have rr := dats_ok r1
  refine ⟨by rw [RepL.length rr]; exact e2, fun ob p hd hp => ?_⟩
  exact q1 _ _ (k1.trans (Keep.of (same_upd hp))) o1 (S1.same (same_upd hp)) ⟨p, vs, rfl, .inl ⟨ob, hd, upd_same⟩, RepL.keep (Keep.of (same_upd hp)) ds rr⟩

/-! ### sequences that are read -/
/-- the items of a list (false) or a tuple (true) -/
def sq (ρ : En) : W → Option (Bool × List D)
  | .d (.tup ds) => some (true, ds)
  | .d (.lst ds) => some (false, ds)
  | .o i => match ρ[i]? with
    | some (.own _ ds) => some (false, ds)
    | _ => none
  | _ => none
def SqV (K : PySem.W.Frag) (H : Hp) (t : Bool) (a : Addr) (vs : List V) : Prop := match t with
  | true => TpN K H a vs
  | false => Rd H a (.lst vs)
theorem SqV.sq {K : PySem.W.Frag} {H : Hp} {t : Bool} {a : Addr} {vs : List V} (h : SqV K H t a vs) : SqL K H a vs ∨ SqT K H a vs := by
  cases t with
  | true => exact .inr (TpN.sq h)
  | false => exact .inl (.inl h)
theorem sq_read {K : PySem.W.Frag} {ρ : En} {σ : L2.St} {H : Hp} {w : W} {v : V} {t : Bool} {ds : List D} (S : Sta K B M ρ σ H) (r : WOk K H ρ w v) (h : N.sq ρ w = some (t, ds)) : ∃ a vs, v = .ref a ∧ SqV K H t a vs ∧ RepL K H ds vs := by
  cases w with
  | o i =>
    obtain ⟨p, fs, e, ev⟩ := r
    obtain ⟨vs, hp, rr⟩ := S.own_at e
    have h2 : (match ρ[i]? with
      | some (.own _ ds) => some (false, ds)
      | _ => none) = some (t, ds) := h
    rw [e] at h2
    cases h2
    exact ⟨p, vs, ev, .inl hp, rr⟩
  | d x =>
    cases x with
    | tup es =>
      cases h
      obtain ⟨a, vs, e, s, rr⟩ := r
      exact ⟨a, vs, e, s, rr⟩
    | lst es =>
      cases h
      obtain ⟨a, vs, e, s, rr⟩ := r
      exact ⟨a, vs, e, .inr s, rr⟩
    | _ => cases h
def sq1 (ρ : En) : List W → Option (Bool × List D)
  | [w] => sq ρ w
  | _ => none
theorem sq1_el {ρ : En} {ws : List W} {t : Bool} {ds : List D} (h : sq1 ρ ws = some (t, ds)) : ∃ w, ws = [w] ∧ sq ρ w = some (t, ds) := by
  unfold sq1 at h
  split at h
  · exact ⟨_, rfl, h⟩
  · cases h
def kSq (s : Option (Bool × List D)) (P : List D → Prop) : Prop := match s with
  | some (_, ds) => P ds
  | none => False
theorem kSq.el {s : Option (Bool × List D)} {P : List D → Prop} (h : kSq s P) : ∃ t ds, s = some (t, ds) ∧ P ds := by
  unfold kSq at h
  split at h
  · exact ⟨_, _, rfl, h⟩
  · exact h.elim
theorem kSq.imp {s : Option (Bool × List D)} {P P' : List D → Prop} (h : kSq s P) (w : ∀ ds, P ds → P' ds) : kSq s P' := by
  obtain ⟨t, ds, rfl, p⟩ := h.el
  exact w ds p
/-- a call of a built-in over data -/
abbrev OA := List W → En → (D → Prop) → Prop
def rA (ra : RA) (o : OA) : RE := fun ρ Q => ra ρ fun ws ρ1 => o ws ρ1 fun d => Q (.d d) ρ1
def MonoOA (o : OA) : Prop := ∀ ws ρ (P P' : D → Prop), (∀ d, P d → P' d) → o ws ρ P → o ws ρ P'
def TellsA (K : PySem.W.Frag) (r : List V → Hp → VK → Prop) (o : OA) : Prop := ∀ (B : Hp) (M : List Addr) (ρ : En) (σ : L2.St) (H : Hp) (ws : List W) (xs : List V) (Q : VK) (P : D → Prop), Sta K B M ρ σ H → WOks K H ρ ws xs → o ws ρ P →
  (∀ d v H', P d → Same H H' → Rep K H' d v → Q v H') → r xs H Q
theorem rA_imp {ra : RA} {o : OA} {r : List V → Hp → VK → Prop} (ha : DA X B M es ra) (ht : TellsA X.K r o) {σ : L2.St} {H : Hp} {Q : VK} {ρ : En} (S : Sta X.K B M ρ σ H) (q : rA ra o ρ (kE X.K B M ρ σ H Q)) : tCB r (tDA X.K B M ra) σ H Q := by
  refine intoA ha S q fun ws ρ1 vs H1 p1 k1 o1 S1 r1 => ?_
  exact ht B M ρ1 σ H1 ws vs Q _ S1 r1 p1 fun d v H' pd sm rr => pd v H' (k1.trans (Keep.of sm)) o1 (S1.same sm) rr
theorem de_callB {x : Str} {id : String} {p : Pos} {ra : RA} {o : OA} {r : List V → Hp → VK → Prop} (hc : CallR X (.builtin id) r) (ht : TellsA X.K r o) (ho : MonoOA o) (hg : Gl X x) (hm : X.mg x = none) (hv : bootBuiltins x = some (.builtin id)) (ha : DA X B M (a :: es) ra) (hn : x ≠ "__name__" := by decide) (hdb : (x == ("__debug__" : Str)) = false := by decide)
    (he : starEach (a :: es) X.env = (false, eval a X.env) :: starEach es X.env := by rfl) (hpl : (backTo pos (starEach es X.env)).any (·.1) = false := by rfl) : DE X B M (.Call (.Name x p) (a :: es) [] pos) (rA ra o) :=
  DE.mk' (pe_callB hc hg hm hv ha.pa hn hdb he hpl) (fun ρ P P' w q => ha.mo ρ _ _ (fun ws ρ1 q1 => ho _ _ _ _ (fun d pd => w _ _ pd) q1) q) fun σ H Q ρ S q => rA_imp ha ht S q
theorem de_callTy {x : Str} {id : String} {p : Pos} {ra : RA} {o : OA} {r : List V → Hp → VK → Prop} (hc : CallR X (.type id) r) (ht : TellsA X.K r o) (ho : MonoOA o) (hg : Gl X x) (hm : X.mg x = none) (hv : bootBuiltins x = some (.type id)) (ha : DA X B M (a :: es) ra) (hn : x ≠ "__name__" := by decide) (hdb : (x == ("__debug__" : Str)) = false := by decide)
    (he : starEach (a :: es) X.env = (false, eval a X.env) :: starEach es X.env := by rfl) (hpl : (backTo pos (starEach es X.env)).any (·.1) = false := by rfl) : DE X B M (.Call (.Name x p) (a :: es) [] pos) (rA ra o) :=
  DE.mk' (pe_callTy hc hg hm hv ha.pa hn hdb he hpl) (fun ρ P P' w q => ha.mo ρ _ _ (fun ws ρ1 q1 => ho _ _ _ _ (fun d pd => w _ _ pd) q1) q) fun σ H Q ρ S q => rA_imp ha ht S q
/-- len of a list, a tuple -/
def oLen : OA := fun ws ρ P => kSq (sq1 ρ ws) fun ds => P (.int (ds.length : Nat))
theorem mo_oLen : MonoOA oLen := fun ws ρ P P' h q => q.imp fun ds p => h _ p
theorem tells_len {K : PySem.W.Frag} : TellsA K (fun xs H Q => ∃ p ys, xs = [.ref p] ∧ (SqL K H p ys ∨ SqT K H p ys) ∧ Q (.int ys.length) H) oLen := fun B M ρ σ H ws xs Q P S r hh q => by
  obtain ⟨t, ds, ee, p⟩ := hh.el
  obtain ⟨w, e1, e2⟩ := sq1_el ee
  subst e1
  obtain ⟨v, vr, rfl, r1, r2⟩ := r
  obtain rfl : vr = [] := r2
  obtain ⟨a, vs, rfl, s, rr⟩ := sq_read S r1 e2
  exact ⟨a, vs, rfl, s.sq, q _ _ H p (Same.refl _) (by rw [RepL.length rr]; rfl)⟩
theorem de_len {p : Pos} {ra : RA} (hm : X.mg "len" = none) (ha : DA X B M (a :: es) ra) (hg : Gl X "len" := by rfl)
    (he : starEach (a :: es) X.env = (false, eval a X.env) :: starEach es X.env := by rfl) (hpl : (backTo pos (starEach es X.env)).any (·.1) = false := by rfl) : DE X B M (.Call (.Name "len" p) (a :: es) [] pos) (rA ra oLen) :=
  de_callB call_len_seq tells_len mo_oLen hg hm boot_len ha (by decide) (by decide) he hpl
/-- int(n) of an int -/
def oInt : OA := fun ws ρ P => match ws with
  | [.d (.int i)] => P (.int i)
  | _ => False
theorem oInt.el {ws : List W} {ρ : En} {P : D → Prop} (h : oInt ws ρ P) : ∃ i, ws = [.d (.int i)] ∧ P (.int i) := by
  unfold oInt at h
  split at h
  · exact ⟨_, rfl, h⟩
  · exact h.elim
theorem mo_oInt : MonoOA oInt := fun ws ρ P P' h q => by
  obtain ⟨i, rfl, p⟩ := q.el
  exact h _ p
theorem de_int1 {p : Pos} {ra : RA} (hm : X.mg "int" = none) (ha : DA X B M (a :: es) ra) (hg : Gl X "int" := by rfl)
    (he : starEach (a :: es) X.env = (false, eval a X.env) :: starEach es X.env := by rfl) (hpl : (backTo pos (starEach es X.env)).any (·.1) = false := by rfl) : DE X B M (.Call (.Name "int" p) (a :: es) [] pos) (rA ra oInt) :=
  de_callTy call_int1 (fun B M ρ σ H ws xs Q P S r hh q => by
    obtain ⟨i, e, pp⟩ := hh.el
    subst e
    obtain ⟨v, vr, rfl, r1, r2⟩ := r
    obtain rfl : vr = [] := r2
    obtain rfl : v = V.int i := r1
    exact .inl ⟨i, rfl, q _ _ H pp (Same.refl _) rfl⟩) mo_oInt hg hm boot_int ha (by decide) (by decide) he hpl
/-- min, max of two ints -/
def oII (g : Int → Int → Int) : OA := fun ws ρ P => match ws with
  | [.d (.int i), .d (.int j)] => P (.int (g i j))
  | _ => False
theorem oII.el {g : Int → Int → Int} {ws : List W} {ρ : En} {P : D → Prop} (h : oII g ws ρ P) : ∃ i j, ws = [.d (.int i), .d (.int j)] ∧ P (.int (g i j)) := by
  unfold oII at h
  split at h
  · exact ⟨_, _, rfl, h⟩
  · exact h.elim
theorem mo_oII {g : Int → Int → Int} : MonoOA (oII g) := fun ws ρ P P' h q => by
  obtain ⟨i, j, rfl, p⟩ := q.el
  exact h _ p
theorem tells_II {K : PySem.W.Frag} {g g' : Int → Int → Int} (hg : ∀ i j, g i j = g' i j) : TellsA K (fun xs H Q => ∃ i j, xs = [.int i, .int j] ∧ Q (.int (g' i j)) H) (oII g) := fun B M ρ σ H ws xs Q P S r hh q => by
  obtain ⟨i, j, e, pp⟩ := hh.el
  subst e
  obtain ⟨v, vr, rfl, r1, v2, vr2, rfl, r2, r3⟩ := r
  obtain rfl : vr2 = [] := r3
  obtain rfl : v = V.int i := r1
  obtain rfl : v2 = V.int j := r2
  exact ⟨i, j, rfl, q _ _ H pp (Same.refl _) (by rw [hg]; rfl)⟩
theorem de_min {p : Pos} {ra : RA} (hc : X.calm = true) (hm : X.mg "min" = none) (ha : DA X B M (a :: es) ra) (hg : Gl X "min" := by rfl)
    (he : starEach (a :: es) X.env = (false, eval a X.env) :: starEach es X.env := by rfl) (hpl : (backTo pos (starEach es X.env)).any (·.1) = false := by rfl) : DE X B M (.Call (.Name "min" p) (a :: es) [] pos) (rA ra (oII min)) :=
  de_callB (call_min2 hc) (tells_II fun i j => by by_cases h : j < i <;> simp only [h, if_true, if_false] <;> omega) mo_oII hg hm (by decide +kernel) ha (by decide) (by decide) he hpl
theorem de_max {p : Pos} {ra : RA} (hc : X.calm = true) (hm : X.mg "max" = none) (ha : DA X B M (a :: es) ra) (hg : Gl X "max" := by rfl)
    (he : starEach (a :: es) X.env = (false, eval a X.env) :: starEach es X.env := by rfl) (hpl : (backTo pos (starEach es X.env)).any (·.1) = false := by rfl) : DE X B M (.Call (.Name "max" p) (a :: es) [] pos) (rA ra (oII max)) :=
  de_callB (call_max2 hc) (tells_II fun i j => by by_cases h : j > i <;> simp only [h, if_true, if_false] <;> omega) mo_oII hg hm (by decide +kernel) ha (by decide) (by decide) he hpl
/-- tuple(xs) -/
def oTup : OA := fun ws ρ P => kSq (sq1 ρ ws) fun ds => P (.tup ds)
theorem mo_oTup : MonoOA oTup := fun ws ρ P P' h q => q.imp fun ds p => h _ p
theorem de_tuple {p : Pos} {ra : RA} (hm : X.mg "tuple" = none) (ha : DA X B M (a :: es) ra) (hg : Gl X "tuple" := by rfl)
    (he : starEach (a :: es) X.env = (false, eval a X.env) :: starEach es X.env := by rfl) (hpl : (backTo pos (starEach es X.env)).any (·.1) = false := by rfl) : DE X B M (.Call (.Name "tuple" p) (a :: es) [] pos) (rA ra oTup) :=
  de_callTy call_tupleN (fun B M ρ σ H ws xs Q P S r hh q => by
    obtain ⟨t, ds, ee, pp⟩ := hh.el
    obtain ⟨w, e, e2⟩ := sq1_el ee
    subst e
    obtain ⟨v, vr, rfl, r1, r2⟩ := r
    obtain rfl : vr = [] := r2
    obtain ⟨a, vs, rfl, s, rr⟩ := sq_read S r1 e2
    refine ⟨a, vs, rfl, ?_⟩
    cases t with
    | true => exact .inr ⟨TpN.sq s, q _ _ H pp (Same.refl _) ⟨a, vs, rfl, s, rr⟩⟩
    | false => exact .inl ⟨.inl s, fun ob l hd hl => q _ _ _ pp (same_upd hl) ⟨l, vs, rfl, .inl ⟨ob, hd, upd_same⟩, RepL.keep (Keep.of (same_upd hl)) ds rr⟩⟩) mo_oTup hg hm (by decide +kernel) ha (by decide) (by decide) he hpl
/-- a new list by a call -/
def rAN (ra : RA) (o : List W → En → (List D → Prop) → Prop) : RN := fun ρ Q => ra ρ fun ws ρ1 => o ws ρ1 fun ds => Q ds ρ1
def oList : List W → En → (List D → Prop) → Prop := fun ws ρ P => kSq (sq1 ρ ws) P
theorem dn_list {p : Pos} {ra : RA} (hm : X.mg "list" = none) (ha : DA X B M (a :: es) ra) (hg : Gl X "list" := by rfl)
    (he : starEach (a :: es) X.env = (false, eval a X.env) :: starEach es X.env := by rfl) (hpl : (backTo pos (starEach es X.env)).any (·.1) = false := by rfl) : DN X B M (.Call (.Name "list" p) (a :: es) [] pos) (rAN ra oList) := by
  refine DN.mk' (pe_callTy call_list_of hg hm (by decide +kernel) ha.pa (by decide) (by decide) he hpl) (fun ρ P P' w q => ha.mo ρ _ _ (fun ws ρ1 q => kSq.imp q fun ds p => w _ _ p) q) fun σ H Q ρ S q => ?_
  refine intoA ha S q fun ws ρ1 vs H1 hh k1 o1 S1 r1 => ?_
  obtain ⟨t, ds, ee, p1⟩ := kSq.el hh
  obtain ⟨w1, e1, e2⟩ := sq1_el ee
  subst e1
  obtain ⟨v, vr, rfl, r1, r2⟩ := r1
  obtain rfl : vr = [] := r2
  obtain ⟨a, vs, rfl, s, rr⟩ := sq_read S1 r1 e2
  refine ⟨a, vs, rfl, s.sq, fun l hl => ?_⟩
  obtain ⟨S2, n2⟩ := NewAt.laid S1 hl rr
  exact p1 l _ (k1.trans (Keep.of (same_upd hl))) o1 S2 n2
/-! ### an item -/
theorem atI_rep {K : PySem.W.Frag} {H : Hp} {ds : List D} {vs : List V} {i : Int} {d : D} (r : RepL K H ds vs) (h : atI ds i = some d) : ∃ v, atI vs i = some v ∧ Rep K H d v := by
  unfold atI at h ⊢
  rw [RepL.length r]
  cases e : ixN ds.length i with
  | none => rw [e] at h; cases h
  | some j =>
    rw [e] at h
    exact RepL.get r h
def oIx : O2 := fun w1 w2 ρ P => match sq ρ w1, w2 with
  | some (_, ds), .d (.int i) => ∃ d, atI ds i = some d ∧ P d
  | _, _ => False
theorem oIx.el {w1 w2 : W} {ρ : En} {P : D → Prop} (h : oIx w1 w2 ρ P) : ∃ t ds i d, sq ρ w1 = some (t, ds) ∧ w2 = .d (.int i) ∧ atI ds i = some d ∧ P d := by
  unfold oIx at h
  split at h
  · rename_i e
    obtain ⟨d, e3, p⟩ := h
    exact ⟨_, _, _, d, e, rfl, e3, p⟩
  · exact h.elim
theorem mo_oIx : MonoO oIx := fun x y ρ P P' h q => by
  obtain ⟨t, ds, i, d, e1, rfl, e3, p⟩ := q.el
  unfold oIx
  rw [e1]
  exact ⟨d, e3, h _ p⟩
theorem tells_ix {K : PySem.W.Frag} : Tells2 K (rIx K) oIx := fun B M ρ σ H w1 w2 x y Q P S r1 r2 hh q => by
  obtain ⟨t, ds, i, d, e1, e2, e3, p⟩ := hh.el
  subst e2
  obtain ⟨a, vs, rfl, s, rr⟩ := sq_read S r1 e1
  obtain ⟨v, hv, rv⟩ := atI_rep rr e3
  have z := q d v H p (Same.refl _) rv
  cases t with
  | true => exact .inr (.inl ⟨a, vs, i, v, rfl, r2, TpN.sq s, hv, z⟩)
  | false => exact .inl ⟨a, vs, i, v, rfl, r2, .inl s, hv, z⟩
theorem de_ix {ra rb : RE} (ha : DE X B M a ra) (hb : DE X B M b rb) (hs : PlainIx b := by intro _ _; rfl) : DE X B M (.Subscript a b pos) (r2 ra rb oIx) :=
  DE.mk' (pe_ix ix_seq ha.pe hb.pe hs) (mo_r2 ha.mo hb.mo mo_oIx) fun σ H Q ρ S q => r2_imp ha hb mo_oIx tells_ix S q
/-! ### xs + ys, xs * k, t + u, slices -/
theorem op_catR : OpR X (binaryOp .Add) (fun x y H Q => ∃ l b xs zs, x = .ref l ∧ y = .ref b ∧ Rd H l (.lst xs) ∧ Rd H b (.lst zs) ∧ xs.length + zs.length ≤ sizeLine ∧ ∀ p, H p = none → Q (.ref p) (upd H p (.lst (xs ++ zs)))) := by
  intro pins s σ H x y v u Q I rx ry h
  obtain ⟨l, b, xs, zs, rfl, rfl, hH, hB, hz, q⟩ := h
  cases rx
  cases ry
  obtain ⟨z, its, n, r, e⟩ := hH.ok I.hok
  obtain ⟨z2, its2, n2, r2, e2⟩ := hB.ok I.hok
  have hl := r.length
  have hl2 := r2.length
  refine PySem.P.add_list e e2 ?_ (by rw [List.size_toArray, List.size_toArray]; omega)
  have ea : its.toArray ++ its2.toArray = (its ++ its2).toArray := by simp
  rw [ea]
  exact ⟨.ref _, _, I.lnew (t' := s.toks) (r.append r2) (by rw [List.length_append]; omega), rfl, q _ I.fresh⟩
theorem op_repR : OpR X (binaryOp .Mult) (fun x y H Q => ∃ l k xs, x = .ref l ∧ y = .int k ∧ Rd H l (.lst xs) ∧ -(2 ^ 63) ≤ k ∧ k < 2 ^ 63 ∧ xs.length * k.toNat ≤ sizeLine ∧ ∀ p, H p = none → Q (.ref p) (upd H p (.lst (List.replicate k.toNat xs).flatten))) := by
  intro pins s σ H x y v u Q I rx ry h
  obtain ⟨l, k, xs, rfl, rfl, hH, h1, h2, hz, q⟩ := h
  cases rx
  obtain ⟨t, rfl⟩ := ry
  obtain ⟨z, its, n, r, e⟩ := hH.ok I.hok
  have hl := r.length
  have hlen : its.toArray.size * k.toNat ≤ sizeLine := by rw [List.size_toArray, ← hl]; exact hz
  have hcap : ¬ its.toArray.size * k.toNat > (2 ^ 63 - 1) / 8 := by
    have : (sizeLine : Nat) ≤ (2 ^ 63 - 1) / 8 := by decide
    omega
  have hfit : ¬ (!Builtin.List.listFitsIndex k) = true := by
    rw [fitsIndex_both h1 h2]
    exact Bool.false_ne_true
  have hlong : ¬ Builtin.List.listTooLong (its.toArray.size * k.toNat) = true := by
    rw [notLongL hlen]
    exact Bool.false_ne_true
  have hnew : List.foldl (fun x1 x2 => x1 ++ x2) #[] (List.replicate (if its.toArray.isEmpty = true then 0 else k.toNat) its.toArray) = (List.replicate k.toNat its).flatten.toArray := by
    have f0 : ∀ m : Nat, List.foldl (fun x1 x2 => x1 ++ x2) #[] (List.replicate m its.toArray) = (List.replicate m its).flatten.toArray := fun m => by
      have := foldl_rep its m []
      rw [List.nil_append] at this
      exact this
    rw [f0]
    cases its with
    | nil => simp
    | cons a r' => rw [if_neg (by simp)]
  refine wpAny_binaryOp_repeat_ref (T := "list") (U := "int") (by decide) ⟨_, e, rfl⟩ (fun s' => typeIs_int s' k t) noFill_list_mul F.fills_int_mul F.slot_int_rmul repeat_list F.slot_int_index.lookup
    (call_meets F.slot_int_rmul (typeIs_int s k t) F.entry_int_rmul (F.args_int_rmul_2 _ _) (int___rmul___int_list k t l its.toArray n)
      ⟨e, rfl, ⟨_, e, rfl⟩, call_meets F.slot_list_mul ⟨_, e, rfl⟩ F.entry_list_mul (F.args_list_mul_2 _ _) (AutoListH.list___mul___list_int_3 l its.toArray n k t hfit hcap hlong) ⟨e, ?_⟩⟩)
  rw [hnew]
  exact ⟨.ref _, _, I.lnew (t' := s.toks) (r.rep k.toNat) (by rw [PyProof.Rows.lm_len_rep_flat, Nat.mul_comm]; exact hz), rfl, q _ I.fresh⟩
/-- two operands, a new list -/
def r2N (ra rb : RE) (o : W → W → En → (List D → Prop) → Prop) : RN := fun ρ Q => ra ρ fun w1 ρ1 => rb ρ1 fun w2 ρ2 => o w1 w2 ρ2 fun ds => Q ds ρ2
def oCat : W → W → En → (List D → Prop) → Prop := fun w1 w2 ρ P => match sq ρ w1, sq ρ w2 with
  | some (false, ds), some (false, es) => ds.length + es.length ≤ 16777216 ∧ P (ds ++ es)
  | _, _ => False
theorem oCat.el {w1 w2 : W} {ρ : En} {P : List D → Prop} (h : oCat w1 w2 ρ P) : ∃ ds es, sq ρ w1 = some (false, ds) ∧ sq ρ w2 = some (false, es) ∧ ds.length + es.length ≤ 16777216 ∧ P (ds ++ es) := by
  unfold oCat at h
  split at h
  · rename_i e1 e2
    exact ⟨_, _, e1, e2, h.1, h.2⟩
  · exact h.elim
theorem oCat.mk {w1 w2 : W} {ρ : En} {P : List D → Prop} {ds es : List D} (e1 : sq ρ w1 = some (false, ds)) (e2 : sq ρ w2 = some (false, es)) (h1 : ds.length + es.length ≤ 16777216) (h : P (ds ++ es)) : oCat w1 w2 ρ P := by
  unfold oCat
  rw [e1, e2]
  exact ⟨h1, h⟩
theorem dn_cat {ra rb : RE} (ha : DE X B M a ra) (hb : DE X B M b rb) : DN X B M (.BinOp a .Add b pos) (r2N ra rb oCat) := by
  refine DN.mk' (pe_op op_catR ha.pe hb.pe) (fun ρ P P' w p => ha.mo ρ _ _ (fun w1 ρ1 p1 => hb.mo ρ1 _ _ (fun w2 ρ2 q2 => by obtain ⟨ds, es, e1, e2, e3, p2⟩ := q2.el; exact oCat.mk e1 e2 e3 (w _ _ p2)) p1) p) fun σ H Q ρ S q => ?_
  refine into ha S q fun w1 ρ1 v H1 p1 k1 o1 S1 r1 => ?_
  refine into hb S1 p1 fun w2 ρ2 v2 H2 hh k2 o2 S2 r2 => ?_
  obtain ⟨ds, es, e1, e2, e3, p2⟩ := hh.el
  obtain ⟨a1, vs, rfl, s1, rr1⟩ := sq_read S2 (WOk.keep k2 o2 r1) e1
  obtain ⟨a2, us, rfl, s2, rr2⟩ := sq_read S2 r2 e2
  refine ⟨a1, a2, vs, us, rfl, rfl, s1, s2, ?_, fun p hp => ?_⟩
  · rw [RepL.length rr1, RepL.length rr2, sizeLine_eq]
    exact e3
  · obtain ⟨S3, n3⟩ := NewAt.laid S2 hp (RepL.append rr1 rr2)
    exact p2 p _ ((k1.trans k2).trans (Keep.of (same_upd hp))) (o1.trans o2) S3 n3
theorem RepL.flat {K : PySem.W.Frag} {H : Hp} {ds : List D} {vs : List V} (r : RepL K H ds vs) : ∀ n : Nat, RepL K H (List.replicate n ds).flatten (List.replicate n vs).flatten
  | 0 => rfl
  | n + 1 => by
    rw [List.replicate_succ, List.replicate_succ, List.flatten_cons, List.flatten_cons]
    exact RepL.append r (RepL.flat r n)
def oRep : W → W → En → (List D → Prop) → Prop := fun w1 w2 ρ P => match sq ρ w1, w2 with
  | some (false, ds), .d (.int k) => -(2 ^ 63) ≤ k ∧ k < 2 ^ 63 ∧ ds.length * k.toNat ≤ 16777216 ∧ P (List.replicate k.toNat ds).flatten
  | _, _ => False
theorem oRep.el {w1 w2 : W} {ρ : En} {P : List D → Prop} (h : oRep w1 w2 ρ P) : ∃ ds k, sq ρ w1 = some (false, ds) ∧ w2 = .d (.int k) ∧ -(2 ^ 63) ≤ k ∧ k < 2 ^ 63 ∧ ds.length * k.toNat ≤ 16777216 ∧ P (List.replicate k.toNat ds).flatten := by
  unfold oRep at h
  split at h
  · rename_i e1
    exact ⟨_, _, e1, rfl, h⟩
  · exact h.elim
theorem oRep.mk {w1 : W} {ρ : En} {P : List D → Prop} {ds : List D} {k : Int} (e1 : sq ρ w1 = some (false, ds)) (h : -(2 ^ 63) ≤ k ∧ k < 2 ^ 63 ∧ ds.length * k.toNat ≤ 16777216 ∧ P (List.replicate k.toNat ds).flatten) : oRep w1 (.d (.int k)) ρ P := by
  unfold oRep
  rw [e1]
  exact h
theorem dn_rep {ra rb : RE} (ha : DE X B M a ra) (hb : DE X B M b rb) : DN X B M (.BinOp a .Mult b pos) (r2N ra rb oRep) := by
  refine DN.mk' (pe_op op_repR ha.pe hb.pe) (fun ρ P P' w p => ha.mo ρ _ _ (fun w1 ρ1 p1 => hb.mo ρ1 _ _ (fun w2 ρ2 q2 => by obtain ⟨ds, k, e1, rfl, e3, e4, e5, p2⟩ := q2.el; exact oRep.mk e1 ⟨e3, e4, e5, w _ _ p2⟩) p1) p) fun σ H Q ρ S q => ?_
  refine into ha S q fun w1 ρ1 v H1 p1 k1 o1 S1 r1 => ?_
  refine into hb S1 p1 fun w2 ρ2 v2 H2 hh k2 o2 S2 r2 => ?_
  obtain ⟨ds, k, e1, e2, e3, e4, e5, p2⟩ := hh.el
  subst e2
  obtain ⟨a1, vs, rfl, s1, rr1⟩ := sq_read S2 (WOk.keep k2 o2 r1) e1
  refine ⟨a1, k, vs, rfl, r2, s1, e3, e4, ?_, fun p hp => ?_⟩
  · rw [RepL.length rr1, sizeLine_eq]
    exact e5
  · obtain ⟨S3, n3⟩ := NewAt.laid S2 hp (RepL.flat rr1 k.toNat)
    exact p2 p _ ((k1.trans k2).trans (Keep.of (same_upd hp))) (o1.trans o2) S3 n3
/-- t + u -/
def oCatT : O2 := fun w1 w2 ρ P => match w1, w2 with
  | .d (.tup ds), .d (.tup es) => ds.length + es.length ≤ 16777216 ∧ P (.tup (ds ++ es))
  | _, _ => False
theorem oCatT.el {w1 w2 : W} {ρ : En} {P : D → Prop} (h : oCatT w1 w2 ρ P) : ∃ ds es, w1 = .d (.tup ds) ∧ w2 = .d (.tup es) ∧ ds.length + es.length ≤ 16777216 ∧ P (.tup (ds ++ es)) := by
  unfold oCatT at h
  split at h
  · exact ⟨_, _, rfl, rfl, h⟩
  · exact h.elim
theorem mo_oCatT : MonoO oCatT := fun x y ρ P P' h q => by
  obtain ⟨ds, es, rfl, rfl, e4, p⟩ := q.el
  exact ⟨e4, h _ p⟩
theorem tells_catT {K : PySem.W.Frag} : Tells2 K (rCatN K) oCatT := fun B M ρ σ H w1 w2 x y Q P S r1 r2 hh q => by
  obtain ⟨ds, es, e1, e2, e4, p⟩ := hh.el
  subst e1 e2
  obtain ⟨a1, vs, rfl, s1, rr1⟩ := r1
  obtain ⟨a2, us, rfl, s2, rr2⟩ := r2
  refine ⟨a1, a2, vs, us, rfl, rfl, TpN.sq s1, TpN.sq s2, ?_, fun z => ?_, fun y z => ?_, fun y z ob l hd hl => ?_⟩
  · rw [RepL.length rr1, RepL.length rr2, sizeLine_eq]
    exact e4
  · have := RepL.length rr1
    rw [z] at this
    have ez := List.length_eq_zero_iff.mp this.symm
    refine q _ _ H p (Same.refl _) ⟨a2, us, rfl, s2, ?_⟩
    rw [ez, List.nil_append]
    exact rr2
  · have := RepL.length rr2
    rw [z] at this
    have ez := List.length_eq_zero_iff.mp this.symm
    refine q _ _ H p (Same.refl _) ⟨a1, vs, rfl, s1, ?_⟩
    rw [ez, List.append_nil]
    exact rr1
  · exact q _ _ _ p (same_upd hl) ⟨l, _, rfl, .inl ⟨ob, hd, upd_same⟩, RepL.keep (Keep.of (same_upd hl)) _ (RepL.append rr1 rr2)⟩
theorem de_catT {ra rb : RE} (ha : DE X B M a ra) (hb : DE X B M b rb) : DE X B M (.BinOp a .Add b pos) (r2 ra rb oCatT) := de_op op_catN tells_catT mo_oCatT ha hb
end
end N
/-! N3 -/
set_option Elab.async false
set_option linter.all false
set_option maxRecDepth 100000
set_option maxHeartbeats 1000000
/-! N3: statements, loops, what a def promises, calls. -/
namespace N
open PySem PySem.Spec PyProof.Rows L2
/-- what is wanted behind a statement, over data -/
structure DEnds where
  nx : En → Prop
  rt : D → En → Prop
  bk : En → Prop := fun _ => False
  ct : En → Prop := fun _ => False
  /-- the list of a slot, given back -/
  ro : List D → En → Prop := fun _ _ => False
abbrev RS := DEnds → En → Prop
structure EOk (K : PySem.W.Frag) (B : Hp) (M : List Addr) (H : Hp) (e : DEnds) (D : Ends) : Prop where
  nx : ∀ ρ σ H', Keep H H' → Sta K B M ρ σ H' → e.nx ρ → D.nx σ H'
  rt : ∀ d ρ σ v H', Keep H H' → Sta K B M ρ σ H' → Rep K H' d v → e.rt d ρ → D.rt v H'
  bk : ∀ ρ σ H', Keep H H' → Sta K B M ρ σ H' → e.bk ρ → D.bk σ H'
  ct : ∀ ρ σ H', Keep H H' → Sta K B M ρ σ H' → e.ct ρ → D.ct σ H'
  ro : ∀ (i : Nat) p ds ρ σ H', Keep H H' → Sta K B M ρ σ H' → ρ[i]? = some (.own p ds) → e.ro ds ρ → D.rt (.ref p) H'
theorem EOk.later {K : PySem.W.Frag} {B H H1 : Hp} {M : List Addr} {e : DEnds} {D : Ends} (k : Keep H H1) (h : EOk K B M H e D) : EOk K B M H1 e D :=
  ⟨fun ρ σ H' k' => h.nx ρ σ H' (k.trans k'), fun d ρ σ v H' k' => h.rt d ρ σ v H' (k.trans k'), fun ρ σ H' k' => h.bk ρ σ H' (k.trans k'), fun ρ σ H' k' => h.ct ρ σ H' (k.trans k'), fun i p ds ρ σ H' k' => h.ro i p ds ρ σ H' (k.trans k')⟩
def sD (K : PySem.W.Frag) (B : Hp) (M : List Addr) (r : RS) : TS := fun D σ H => ∃ ρ e, Sta K B M ρ σ H ∧ r e ρ ∧ EOk K B M H e D
structure DS (X : Cx) (B : Hp) (M : List Addr) (st : Stmt) (r : RS) : Prop where
  ps : PS X st (sD X.K B M r)
structure DSs (X : Cx) (B : Hp) (M : List Addr) (st : List Stmt) (r : RS) : Prop where
  pss : PSs X st (sD X.K B M r)
section
variable {X : Cx} {B : Hp} {M : List Addr} {e a b c : Expr} {es : List Expr} {st : Stmt} {sts : List Stmt} {pos : Pos}
theorem DS.mk' {t : TS} {r : RS} (h : PS X st t) (w : ∀ D σ H ρ e, Sta X.K B M ρ σ H → r e ρ → EOk X.K B M H e D → t D σ H) : DS X B M st r := ⟨ps_imp h fun D σ H ⟨ρ, e, S, q, ok⟩ => w D σ H ρ e S q ok⟩
theorem DSs.mk' {t : TS} {r : RS} (h : PSs X sts t) (w : ∀ D σ H ρ e, Sta X.K B M ρ σ H → r e ρ → EOk X.K B M H e D → t D σ H) : DSs X B M sts r := ⟨pss_imp h fun D σ H ⟨ρ, e, S, q, ok⟩ => w D σ H ρ e S q ok⟩
def rNx : RS := fun e ρ => e.nx ρ
theorem ds_nil : DSs X B M [] rNx := DSs.mk' pss_nil fun D σ H ρ e S q ok => ok.nx ρ σ H (Keep.refl _) S q
def rSeq (r1 r2 : RS) : RS := fun e ρ => r1 { e with nx := r2 e } ρ
theorem ds_cons {r1 r2 : RS} (h1 : DS X B M st r1) (h2 : DSs X B M sts r2) : DSs X B M (st :: sts) (rSeq r1 r2) :=
  DSs.mk' (pss_cons h1.ps h2.pss) fun D σ H ρ e S q ok => ⟨ρ, _, S, q, ⟨fun ρ' σ' H' k S' q' => ⟨ρ', e, S', q', ok.later k⟩, ok.rt, ok.bk, ok.ct, ok.ro⟩⟩
/-- behind a statement, by what holds there -/
theorem seq_join {r1 r2 : RS} {e : DEnds} {ρ : En} (J : En → Prop) (h : ∀ ρ', J ρ' → r2 e ρ') (k : ∀ R : En → Prop, (∀ ρ', J ρ' → R ρ') → r1 { e with nx := R } ρ) : rSeq r1 r2 e ρ := k _ h
theorem ds_one {r : RS} (h : DS X B M st r) : DSs X B M [st] r := ⟨pss_one h.ps⟩
theorem ds_pass : DS X B M (.Pass pos) rNx := DS.mk' ps_pass fun D σ H ρ e S q ok => ok.nx ρ σ H (Keep.refl _) S q
theorem ds_break : DS X B M (.Break pos) (fun e ρ => e.bk ρ) := DS.mk' ps_break fun D σ H ρ e S q ok => ok.bk ρ σ H (Keep.refl _) S q
theorem ds_continue : DS X B M (.Continue pos) (fun e ρ => e.ct ρ) := DS.mk' ps_continue fun D σ H ρ e S q ok => ok.ct ρ σ H (Keep.refl _) S q
/-- the list that slot i owns is locked from here on: the slot holds data -/
def lockEn (i : Nat) (ρ : En) : En := match ρ[i]? with
  | some (.own _ ds) => ρ.set i (.v (.lst ds))
  | _ => ρ
def rLock (i : Nat) (r : RS) : RS := fun e ρ => r e (lockEn i ρ)
theorem lock_st {K : PySem.W.Frag} {ρ : En} {σ : L2.St} {H : Hp} {i : Nat} {p : Addr} {ds : List D} {vs : List V} {o : Obj} (S : Sta K B M ρ σ H) (e : ρ[i]? = some (.own p ds)) (hp : H p = some (.lst vs)) (r : RepL K H ds vs) :
    Keep H (upd H p (.frz o (.lst vs))) ∧ Sta K B M (ρ.set i (.v (.lst ds))) σ (upd H p (.frz o (.lst vs))) := by
  have hlt : i < ρ.length := (List.getElem?_eq_some_iff.mp e).1
  have look : ∀ {j : Nat} {q fs}, (ρ.set i (Slot.v (.lst ds)))[j]? = some (Slot.own q fs) → j ≠ i ∧ ρ[j]? = some (Slot.own q fs) := fun {j q fs} h => by
    by_cases hj : j = i
    · subst hj
      rw [List.getElem?_set_self hlt] at h
      cases h
    · rw [List.getElem?_set_ne (Ne.symm hj)] at h
      exact ⟨hj, h⟩
  obtain ⟨hu, _⟩ := S.ok i _ e
  have S1 : Sta K B M (ρ.set i .un) σ H := by
    have look1 : ∀ {j : Nat} {q fs}, (ρ.set i Slot.un)[j]? = some (Slot.own q fs) → j ≠ i ∧ ρ[j]? = some (Slot.own q fs) := fun {j q fs} h => by
      by_cases hj : j = i
      · subst hj
        rw [List.getElem?_set_self hlt] at h
        cases h
      · rw [List.getElem?_set_ne (Ne.symm hj)] at h
        exact ⟨hj, h⟩
    refine ⟨S.frm, fun j s ej => ?_, fun j k q q' fs gs ej ek => S.dis j k q q' fs gs (look1 ej).2 (look1 ek).2, fun j q fs ej => S.new j q fs (look1 ej).2, S.mh, fun j P q h => S.tbi j P q (tab_set h fun _ _ z => by cases z)⟩
    by_cases hj : j = i
    · subst hj
      rw [List.getElem?_set_self hlt] at ej
      cases ej
      exact trivial
    · rw [List.getElem?_set_ne (Ne.symm hj)] at ej
      exact S.ok j s ej
  have nO : ∀ (j : Nat) q es, (ρ.set i Slot.un)[j]? = some (Slot.own q es) → q ≠ p := fun j q es h => by
    by_cases hj : j = i
    · subst hj
      rw [List.getElem?_set_self hlt] at h
      cases h
    · rw [List.getElem?_set_ne (Ne.symm hj)] at h
      exact S.dis j i q p es ds h e hj
  obtain ⟨kp, S2⟩ := Sta.freeze (o := o) S1 hp (S.new i p ds e) nO
  have S3 := Sta.put (i := i) (d := .lst ds) (v := .ref p) S2 ⟨p, vs, rfl, ⟨o, upd_same⟩, RepL.keep kp ds r⟩
  rw [List.set_set] at S3
  have eσ : σ.set i (some (.ref p)) = σ := by
    apply List.ext_getElem?
    intro j
    by_cases hj : j = i
    · subst hj
      rcases hu with z | z
      · have hl2 := List.getElem?_eq_none_iff.mp z
        rw [z]
        exact List.getElem?_eq_none_iff.mpr (by rw [List.length_set]; exact hl2)
      · have hl2 := (List.getElem?_eq_some_iff.mp z).1
        rw [List.getElem?_set_self hl2, z]
    · rw [List.getElem?_set_ne (Ne.symm hj)]
  rw [eσ] at S3
  exact ⟨kp, S3⟩
theorem ds_lock {r : RS} (i : Nat) (h : DSs X B M sts r) : DSs X B M sts (rLock i r) := ⟨⟨fun pins s σ H D I ⟨ρ, e, S, q, ok⟩ => by
  have q : r e (lockEn i ρ) := q
  unfold lockEn at q
  split at q
  · rename_i p ds ep
    obtain ⟨vs, hp, rr⟩ := S.own_at ep
    obtain ⟨o, hc, J⟩ := Inv.freeze I hp
    obtain ⟨kp, S2⟩ := lock_st (o := o) S ep hp rr
    exact h.pss.run pins s σ _ D J ⟨_, e, S2, q, ok.later kp⟩
  · exact h.pss.run pins s σ _ D I ⟨_, e, S, q, ok⟩⟩⟩
/-- x = e -/
def kD (Q : D → En → Prop) : W → En → Prop := fun w ρ => match w with
  | .d x => Q x ρ
  | .o _ => False
theorem kD.el {Q : D → En → Prop} {w : W} {ρ : En} (h : kD Q w ρ) : ∃ x, w = .d x ∧ Q x ρ := by
  cases w with
  | d x => exact ⟨x, rfl, h⟩
  | o i => exact (show False from h).elim
def rAsg (i : Nat) (r : RE) : RS := fun e ρ => r ρ (kD fun x ρ1 => e.nx (ρ1.set i (.v x)))
theorem asg_imp {r : RE} {i : Nat} (he : DE X B M e r) {D : Ends} {σ : L2.St} {H : Hp} {ρ : En} {en : DEnds} (S : Sta X.K B M ρ σ H) (q : rAsg i r en ρ) (ok : EOk X.K B M H en D) : tAsg (tD X.K B M r) (gName i) D σ H := by
  refine into he S q fun w ρ1 v H1 hh k1 o1 S1 r1 => ?_
  obtain ⟨x, e1, q1⟩ := hh.el
  subst e1
  exact ok.nx _ _ H1 k1 (S1.put r1) q1
theorem ds_set {i : Nat} {x : Str} {r : RE} {pos' : Pos} (hN : X.N.Nodup) (he : DE X B M e r) (hi : X.N[i]? = some x := by rfl) (hx : Loc X.env.scope x := by first | exact Or.inl rfl | exact Or.inr rfl) (hs : swapsWith e (some (.Name x pos')) pos.line X.env = pure false := by rfl) (hf : X.fn x = true ∨ X.env.scope.names.lookup x = some .local := by first | exact .inl rfl | exact .inr rfl | assumption) :
    DS X B M (.Assign [.Name x pos'] e pos) (rAsg i r) := DS.mk' (ps_set hN hi hx he.pe hs hf) fun D σ H ρ en S q ok => asg_imp he S q ok
/-- x = a new list, of which x alone knows -/
def rAsgO (i : Nat) (r : RN) : RS := fun e ρ => r ρ fun ds ρ1 => ∀ p, e.nx (ρ1.set i (.own p ds))
theorem asgO_imp {r : RN} {i : Nat} (he : DN X B M e r) {D : Ends} {σ : L2.St} {H : Hp} {ρ : En} {en : DEnds} (S : Sta X.K B M ρ σ H) (q : rAsgO i r en ρ) (ok : EOk X.K B M H en D) : tAsg (tDN X.K B M r) (gName i) D σ H := by
  refine ⟨ρ, S, he.mo ρ _ _ (fun ds ρ1 q1 => ?_) q⟩
  intro p H1 k1 o1 S1 n1
  obtain ⟨vs, hp, rr⟩ := n1.at_
  exact ok.nx _ _ H1 k1 (S1.putO hp rr n1.nB n1.nO) (q1 p)
theorem ds_setO {i : Nat} {x : Str} {r : RN} {pos' : Pos} (hN : X.N.Nodup) (he : DN X B M e r) (hi : X.N[i]? = some x := by rfl) (hx : Loc X.env.scope x := by first | exact Or.inl rfl | exact Or.inr rfl) (hs : swapsWith e (some (.Name x pos')) pos.line X.env = pure false := by rfl) (hf : X.fn x = true ∨ X.env.scope.names.lookup x = some .local := by first | exact .inl rfl | exact .inr rfl | assumption) :
    DS X B M (.Assign [.Name x pos'] e pos) (rAsgO i r) := DS.mk' (ps_set hN hi hx he.pe hs hf) fun D σ H ρ en S q ok => asgO_imp he S q ok
/-- an expression alone; return -/
def rExpr (r : RE) : RS := fun e ρ => r ρ fun _ ρ1 => e.nx ρ1
theorem ds_expr {r : RE} (he : DE X B M e r) (hs : swapsWith e none pos.line X.env = pure false := by rfl) : DS X B M (.Expr e pos) (rExpr r) :=
  DS.mk' (ps_expr he.pe hs) fun D σ H ρ en S q ok => into he S q fun w ρ1 v H1 q1 k1 o1 S1 r1 => ok.nx _ _ H1 k1 S1 q1
def kOwnR (s : Nat) (Q : List D → Prop) (ρ : En) : Prop := match ρ[s]? with
  | some (.own _ ds) => Q ds
  | _ => False
theorem kOwnR.el {s : Nat} {Q : List D → Prop} {ρ : En} (h : kOwnR s Q ρ) : ∃ p ds, ρ[s]? = some (.own p ds) ∧ Q ds := by
  unfold kOwnR at h
  split at h
  · rename_i p ds e
    exact ⟨p, ds, e, h⟩
  · exact h.elim
def rRet (r : RE) : RS := fun e ρ => r ρ (kD fun x ρ1 => e.rt x ρ1)
theorem ds_ret {r : RE} (he : DE X B M e r) : DS X B M (.Return (some e) pos) (rRet r) :=
  DS.mk' (ps_ret he.pe) fun D σ H ρ en S q ok => into he S q fun w ρ1 v H1 hh k1 o1 S1 r1 => by
    obtain ⟨x, e1, q1⟩ := hh.el
    subst e1
    exact ok.rt x _ _ _ H1 k1 S1 r1 q1
def rRetO (i : Nat) : RS := fun e ρ => kOwnR i (fun ds => e.ro ds ρ) ρ
theorem ds_retO {i : Nat} {y : Str} {py : Pos} (hy : DE X B M (.Name y py) (rVar i)) : DS X B M (.Return (some (.Name y py)) pos) (rRetO i) :=
  DS.mk' (ps_ret hy.pe) fun D σ H ρ en S q ok => by
    obtain ⟨p, ds, e0, q⟩ := kOwnR.el q
    exact into hy S (P := fun w ρ' => w = .o i ∧ ρ' = ρ) (rVar.mk (w := .o i) (by unfold rd; rw [e0]) ⟨rfl, rfl⟩) fun w ρ' vo H1 ⟨ew, eρ⟩ k1 o1 S1 r1 => by
      subst ew eρ
      obtain ⟨p', s', e3, ev⟩ := r1
      rw [e0] at e3
      cases e3
      rw [ev]
      exact ok.ro i _ _ _ _ _ k1 S1 e0 q
theorem ds_retN : DS X B M (.Return none pos) (fun e ρ => e.rt .non ρ) := DS.mk' ps_retN fun D σ H ρ en S q ok => ok.rt .non _ _ _ H (Keep.refl _) S rfl q
def rIf (rt : RT) (ra rb : RS) : RS := fun e ρ => rt ρ fun k ρ1 => if k = true then ra e ρ1 else rb e ρ1
theorem ds_if {sa sb : List Stmt} {rt : RT} {ra rb : RS} (hc : DT X B M c rt) (ha : DSs X B M sa ra) (hb : DSs X B M sb rb) : DS X B M (.If c sa sb pos) (rIf rt ra rb) :=
  DS.mk' (ps_if hc.pt ha.pss hb.pss) fun D σ H ρ en S q ok => intoT hc.mo S q fun k ρ1 H1 q1 k1 o1 S1 => by
    cases k with
    | true => exact ⟨ρ1, en, S1, q1, ok.later k1⟩
    | false => exact ⟨ρ1, en, S1, q1, ok.later k1⟩
/-- x += e -/
def rAug (i : Nat) (r : RE) (o : D → W → En → (D → Prop) → Prop) : RS := fun e ρ => match ρ[i]? with
  | some (.v d) => r ρ fun w ρ1 => o d w ρ1 fun z => e.nx (ρ1.set i (.v z))
  | _ => False
theorem rAug.el {i : Nat} {r : RE} {o : D → W → En → (D → Prop) → Prop} {e : DEnds} {ρ : En} (h : rAug i r o e ρ) : ∃ d, ρ[i]? = some (.v d) ∧ r ρ fun w ρ1 => o d w ρ1 fun z => e.nx (ρ1.set i (.v z)) := by
  unfold rAug at h
  split at h
  · rename_i d e
    exact ⟨d, e, h⟩
  · exact h.elim
def oAugI (f : Int → Int → Int) : D → W → En → (D → Prop) → Prop := fun d w _ P => match d, w with
  | .int i, .d (.int j) => P (.int (f i j))
  | _, _ => False
theorem oAugI.el {f : Int → Int → Int} {d : D} {w : W} {ρ : En} {P : D → Prop} (h : oAugI f d w ρ P) : ∃ i j, d = .int i ∧ w = .d (.int j) ∧ P (.int (f i j)) := by
  unfold oAugI at h
  split at h
  · exact ⟨_, _, rfl, rfl, h⟩
  · exact h.elim
theorem ds_augI {i : Nat} {x : Str} {r : RE} {op : Operator} {f : Int → Int → Int} {pos' : Pos} (hN : X.N.Nodup) (ho : PIp X op (ipI f)) (he : DE X B M e r) (hi : X.N[i]? = some x := by rfl) (hx : Loc X.env.scope x := by first | exact Or.inl rfl | exact Or.inr rfl)
    (hf : X.fn x = true ∨ X.env.scope.names.lookup x = some .local := by first | exact .inl rfl | exact .inr rfl | assumption) : DS X B M (.AugAssign (.Name x pos') op e pos) (rAug i r (oAugI f)) :=
  ⟨ps_impL (ps_aug hN hi hx he.pe ho hf) fun D σ H hl ⟨ρ, en, S, hh, ok⟩ => by
    have hsi : i < σ.length := by rw [hl]; exact (List.getElem?_eq_some_iff.mp hi).1
    obtain ⟨d, ed, q⟩ := hh.el
    rcases S.ok i _ ed with z | ⟨v, h1, h3⟩
    · have := List.getElem?_eq_none_iff.mp z
      omega
    refine ⟨v, h1, into he S q fun w ρ1 u H1 hh k1 o1 S1 r1 => ?_⟩
    obtain ⟨i', j', e1, e2, q1⟩ := hh.el
    subst e1 e2
    exact ⟨i', j', h3, r1, ok.nx _ _ H1 k1 (S1.put (d := .int (f i' j')) rfl) q1⟩⟩
/-- x[k] = e, x a list of the def's own -/
def isOwn (s : Nat) (ρ : En) : Prop := match ρ[s]? with
  | some (.own _ _) => True
  | _ => False
theorem isOwn.el {s : Nat} {ρ : En} (h : isOwn s ρ) : ∃ p ds, ρ[s]? = some (.own p ds) := by
  unfold isOwn at h
  split at h
  · rename_i p ds e
    exact ⟨p, ds, e⟩
  · exact h.elim
/-- with the list that slot s owns -/
def kOwn (s : Nat) (Q : Addr → List D → Prop) (ρ : En) : Prop := match ρ[s]? with
  | some (.own p ds) => Q p ds
  | _ => False
theorem kOwn.el {s : Nat} {Q : Addr → List D → Prop} {ρ : En} (h : kOwn s Q ρ) : ∃ p ds, ρ[s]? = some (.own p ds) ∧ Q p ds := by
  unfold kOwn at h
  split at h
  · rename_i p ds e
    exact ⟨p, ds, e, h⟩
  · exact h.elim
theorem kOwn.mk {s : Nat} {Q : Addr → List D → Prop} {ρ : En} {p : Addr} {ds : List D} (e : ρ[s]? = some (.own p ds)) (h : Q p ds) : kOwn s Q ρ := by
  unfold kOwn
  rw [e]
  exact h
theorem kOwn.imp {s : Nat} {Q Q' : Addr → List D → Prop} {ρ : En} (h : kOwn s Q ρ) (w : ∀ p ds, Q p ds → Q' p ds) : kOwn s Q' ρ := by
  obtain ⟨p, ds, e, q⟩ := h.el
  exact kOwn.mk e (w p ds q)
def kInt (Q : Int → En → Prop) : W → En → Prop := fun w ρ => match w with
  | .d (.int i) => Q i ρ
  | _ => False
theorem kInt.el {Q : Int → En → Prop} {w : W} {ρ : En} (h : kInt Q w ρ) : ∃ i, w = .d (.int i) ∧ Q i ρ := by
  unfold kInt at h
  split at h
  · exact ⟨_, rfl, h⟩
  · exact h.elim
def rSetIx (s : Nat) (rv ri : RE) : RS := fun e ρ => rv ρ (kD fun d ρ1 => kOwn s (fun _ _ => ri ρ1 (kInt fun k ρ2 => kOwn s (fun p ds => ∃ j, ixN ds.length k = some j ∧ e.nx (ρ2.set s (.own p (ds.set j d)))) ρ2)) ρ1)
theorem ds_setIx {s : Nat} {x : Str} {i : Expr} {rv ri : RE} {px ps : Pos} (hv : DE X B M e rv) (hx : DE X B M (.Name x px) (rVar s)) (hi : DE X B M i ri) (hs : swapsWithSole [.Subscript (.Name x px) i ps] e pos.line X.env = pure false := by rfl) (hw : swappedStores [.Subscript (.Name x px) i ps] e X.env = pure none := by rfl)
    (h1 : (assignEach [.Subscript (.Name x px) i ps] X.env).map (·.2) = [assign (.Subscript (.Name x px) i ps) X.env] := by rfl)
    (ha : ∀ v, assign (.Subscript (.Name x px) i ps) X.env v = (do
      let ov ← holding [v] (eval (.Name x px) X.env)
      let iv ← holding [v, ov] (eval i X.env)
      standAt ps
      holding [v, ov, iv] (setItem ov iv v)
      release [v, ov, iv] []) := by intro _; rfl) : DS X B M (.Assign [.Subscript (.Name x px) i ps] e pos) (rSetIx s rv ri) :=
  DS.mk' (ps_asg hv.pe (pg_sub hx.pe hi.pe set_list ha) hs hw h1) fun D σ H ρ en S q ok => into hv S q fun wv ρ1 v H1 hh k1 o1 S1 r1 => by
    obtain ⟨d, ed, hh⟩ := hh.el
    obtain ⟨p, ds, ep, q1⟩ := hh.el
    subst ed
    refine into hx S1 (P := fun w ρ' => w = .o s ∧ ρ' = ρ1) (rVar.mk (w := .o s) (by unfold rd; rw [ep]) ⟨rfl, rfl⟩) fun w ρ' vo H2 ⟨ew, eρ⟩ k2 o2 S2 r2 => ?_
    subst ew eρ
    refine into hi S2 q1 fun wi ρ2 vi H3 hh k3 o3 S3 r3 => ?_
    obtain ⟨k, ei, hh⟩ := hh.el
    obtain ⟨p', ds', ep', j, ej, q2⟩ := hh.el
    subst ei
    obtain ⟨p2, ds2, e2, ev2⟩ := WOk.keep k3 o3 r2
    rw [ep'] at e2
    cases e2
    obtain ⟨vs, hp, rr⟩ := S3.own_at ep'
    refine ⟨p', vs, k, j, ev2, r3, hp, by rw [RepL.length rr]; exact ej, ?_⟩
    have r1' := Rep.keep (k2.trans k3) d r1
    exact ok.nx _ _ _ (((k1.trans k2).trans k3).trans (Sta.keep_mut (i := s) hp)) (S3.mut ep' hp (RepL.set j rr r1')) q2
/-- a, b = a tuple -/
def kP (Q : D → D → Prop) : D → Prop := fun d => match d with
  | .tup [x, y] => Q x y
  | _ => False
theorem kP.el {Q : D → D → Prop} {d : D} (h : kP Q d) : ∃ x y, d = .tup [x, y] ∧ Q x y := by
  unfold kP at h
  split at h
  · exact ⟨_, _, rfl, h⟩
  · exact h.elim
theorem kP.imp {Q Q' : D → D → Prop} {d : D} (h : kP Q d) (w : ∀ x y, Q x y → Q' x y) : kP Q' d := by
  obtain ⟨x, y, rfl, q⟩ := h.el
  exact w x y q
def rTupAsg (i j : Nat) (r : RE) : RS := fun e ρ => r ρ (kD fun d ρ1 => kP (fun x y => e.nx ((ρ1.set i (.v x)).set j (.v y))) d)
theorem ds_tup2 {i j : Nat} {x y : Str} {r : RE} {px py pt : Pos} {kt} (hN : X.N.Nodup) (he : DE X B M e r) (hc : X.calm = true := by rfl) (hi : X.N[i]? = some x := by rfl) (hj : X.N[j]? = some y := by rfl) (hx : Loc X.env.scope x := by first | exact Or.inl rfl | exact Or.inr rfl) (hy : Loc X.env.scope y := by first | exact Or.inl rfl | exact Or.inr rfl)
    (hn : (assignEach [.Name x px, .Name y py] X.env).length = 2 := by rfl) (hst : (assignEach [.Name x px, .Name y py] X.env).findIdx? (·.1) = none := by rfl)
    (hs1 : (assignEach [.Name x px, .Name y py] X.env).map (·.2) = assign (.Name x px) X.env :: (assignEach [.Name y py] X.env).map (·.2) := by rfl) (hs2 : (assignEach [.Name y py] X.env).map (·.2) = assign (.Name y py) X.env :: (assignEach [] X.env).map (·.2) := by rfl)
    (hs : swapsWithSole [.Tuple [.Name x px, .Name y py] kt pt] e pos.line X.env = pure false := by rfl) (hw : swappedStores [.Tuple [.Name x px, .Name y py] kt pt] e X.env = pure none := by rfl)
    (h1 : (assignEach [.Tuple [.Name x px, .Name y py] kt pt] X.env).map (·.2) = [assign (.Tuple [.Name x px, .Name y py] kt pt) X.env] := by rfl)
    (hfx : X.fn x = true ∨ X.env.scope.names.lookup x = some .local := by first | exact .inl rfl | exact .inr rfl | assumption) (hfy : X.fn y = true ∨ X.env.scope.names.lookup y = some .local := by first | exact .inl rfl | exact .inr rfl | assumption) :
    DS X B M (.Assign [.Tuple [.Name x px, .Name y py] kt pt] e pos) (rTupAsg i j r) :=
  DS.mk' (ps_asg he.pe (pg_tup hc (pgs_cons (pg_name hN hi hx hfx) (pgs_cons (pg_name hN hj hy hfy) pgs_nil hs2) hs1) hn hst) hs hw h1) fun D σ H ρ en S q ok => into he S q fun w ρ1 v H1 hh k1 o1 S1 r1 => by
    obtain ⟨d, e0, hh⟩ := hh.el
    obtain ⟨x, y, e1, q1⟩ := hh.el
    subst e0 e1
    obtain ⟨a, vs, ev, hs, v1, vr, rfl, r1, v2, vr2, rfl, r2, r3⟩ := r1
    obtain rfl : vr2 = [] := r3
    exact ⟨a, _, ev, TpN.sq hs, rfl, v1, _, rfl, v2, _, rfl, rfl, ok.nx _ _ H1 k1 ((S1.put r1).put r2) q1⟩

/-! ### loops -/
theorem pi_seq {tg l : Expr} {tl : TE} (hl : PE X l tl) : PI X tg l (fun σ H R => tl σ H fun x H1 => ∃ a, x = .ref a ∧ (((∃ xs, SqL X.K H1 a xs) ∧ R (Itl X.K a) H1) ∨ ((∃ xs, SqT X.K H1 a xs) ∧ R (Itt X.K a) H1))) := by
  refine ⟨fun pins s σ H R I h => ?_⟩
  refine thn (hl.run pins s σ H _ I h) fun v s1 ⟨x, H1, I1, r1, q1⟩ => ?_
  obtain ⟨a, e, q⟩ := q1
  subst e
  cases r1
  rcases q with ⟨⟨xs, hq⟩, q⟩ | ⟨⟨xs, hq⟩, q⟩
  · obtain ⟨its, rv, p, hz⟩ := I1.list hq
    refine wpAny_pyIter_list p.isList ?_
    refine ⟨s1.heap.objs.size, [s1.heap.objs.size], _, _, H1, rfl, I1.kept (t' := s1.toks) fun b o e => Heap.get?_push_of_some _ e, turn_list a _, ⟨_, Heap.get?_push_size _ rfl, rfl, rfl⟩, fun b hb => ?_, q⟩
    have e : b = s1.heap.objs.size := by simpa using hb
    subst e
    exact I1.fpOk (Nat.le_refl _) (I1.hok.fresh (Nat.le_refl _))
  · obtain ⟨its, rv, p, hz⟩ := I1.tuple hq
    refine wpAny_pyIter_tuple (show s1.heap.IsTuple a its.toArray from p) ?_
    refine ⟨s1.heap.objs.size, [s1.heap.objs.size], _, _, H1, rfl, I1.kept (t' := s1.toks) fun b o e => Heap.get?_push_of_some _ e, turn_tuple a _, ⟨_, Heap.get?_push_size _ rfl, rfl, rfl⟩, fun b hb => ?_, q⟩
    have e : b = s1.heap.objs.size := by simpa using hb
    subst e
    exact I1.fpOk (Nat.le_refl _) (I1.hok.fresh (Nat.le_refl _))
/-- what is walked: n things, the k-th one of those that it k tells, while ok holds of the slots -/
abbrev RI := En → ((n : Nat) → (it : Nat → D → Prop) → (ok : En → Prop) → En → Prop) → Prop
def MonoI (r : RI) : Prop := ∀ ρ (P P' : (n : Nat) → (it : Nat → D → Prop) → (ok : En → Prop) → En → Prop), (∀ n it ok ρ', P n it ok ρ' → P' n it ok ρ') → r ρ P → r ρ P'
structure Walks (K : PySem.W.Frag) (B : Hp) (M : List Addr) (H1 : Hp) (J : It) (n : Nat) (it : Nat → D → Prop) (ok : En → Prop) : Prop where
  go : ∀ k ρ σ H, Keep H1 H → Sta K B M ρ σ H → ok ρ → k < n → J.go k H
  yld : ∀ k ρ σ H x H', Keep H1 H → Sta K B M ρ σ H → ok ρ → k < n → J.yld k H x H' → Same H H' ∧ ∃ d, it k d ∧ Rep K H' d x
  stop : ∀ ρ σ H, Keep H1 H → Sta K B M ρ σ H → ok ρ → J.stop n H
structure DI (X : Cx) (B : Hp) (M : List Addr) (tg iter : Expr) (ri : RI) : Prop where
  pi : PI X tg iter (fun σ H R => ∃ ρ, Sta X.K B M ρ σ H ∧ ri ρ fun n it ok ρ1 => ∀ J H1, Keep H H1 → OwnEq ρ ρ1 → Sta X.K B M ρ1 σ H1 → Walks X.K B M H1 J n it ok → R J H1)
  mo : MonoI ri
theorem pi_imp {tg iter : Expr} {w w' : TI} (h : PI X tg iter w) (i : ∀ σ H R, w' σ H R → w σ H R) : PI X tg iter w' := ⟨fun pins s σ H R I q => h.run pins s σ H R I (i σ H R q)⟩
def itOf (K : PySem.W.Frag) (t : Bool) (a : Addr) : It := match t with
  | true => Itt K a
  | false => Itl K a
/-- the walked list, where a slot owns it, stands as it was -/
def okW (ρ1 : En) (ds : List D) : W → En → Prop
  | .o i => fun ρ2 => ∃ p, ρ1[i]? = some (.own p ds) ∧ ρ2[i]? = some (.own p ds)
  | .d _ => fun _ => True
/-- over a list or a tuple -/
def iSq (r : RE) : RI := fun ρ P => r ρ fun w ρ1 => kSq (sq ρ1 w) fun ds => P ds.length (fun k d => ds[k]? = some d) (okW ρ1 ds w) ρ1
theorem walks_of {K : PySem.W.Frag} {H1 : Hp} {a : Addr} {n : Nat} {ds : List D} {ok : En → Prop} {t : Bool} (hn : n = ds.length)
    (h : ∀ ρ σ H, Keep H1 H → Sta K B M ρ σ H → ok ρ → ∃ vs, SqV K H t a vs ∧ RepL K H ds vs) : Walks K B M H1 (itOf K t a) n (fun k d => ds[k]? = some d) ok := by
  subst hn
  cases t with
  | true =>
    refine ⟨fun k ρ σ H kk S o lt => ?_, fun k ρ σ H x H' kk S o lt y => ?_, fun ρ σ H kk S o => ?_⟩
    · obtain ⟨vs, hs, rr⟩ := h ρ σ H kk S o
      have : k < vs.length := by rw [RepL.length rr]; exact lt
      exact ⟨vs, vs[k], TpN.sq hs, List.getElem?_eq_getElem this⟩
    · obtain ⟨vs, hs, rr⟩ := h ρ σ H kk S o
      obtain ⟨e, y⟩ := y
      subst e
      have hd : ds[k]? = some ds[k] := List.getElem?_eq_getElem lt
      obtain ⟨v, hv, rv⟩ := RepL.get rr hd
      have := y vs (TpN.sq hs)
      rw [hv] at this
      cases this
      exact ⟨Same.refl _, _, hd, rv⟩
    · obtain ⟨vs, hs, rr⟩ := h ρ σ H kk S o
      exact ⟨vs, TpN.sq hs, by rw [RepL.length rr]; exact Nat.le_refl _⟩
  | false =>
    refine ⟨fun k ρ σ H kk S o lt => ?_, fun k ρ σ H x H' kk S o lt y => ?_, fun ρ σ H kk S o => ?_⟩
    · obtain ⟨vs, hs, rr⟩ := h ρ σ H kk S o
      have : k < vs.length := by rw [RepL.length rr]; exact lt
      exact ⟨vs, vs[k], .inl hs, List.getElem?_eq_getElem this⟩
    · obtain ⟨vs, hs, rr⟩ := h ρ σ H kk S o
      obtain ⟨e, y⟩ := y
      subst e
      have hd : ds[k]? = some ds[k] := List.getElem?_eq_getElem lt
      obtain ⟨v, hv, rv⟩ := RepL.get rr hd
      have := y vs (.inl hs)
      rw [hv] at this
      cases this
      exact ⟨Same.refl _, _, hd, rv⟩
    · obtain ⟨vs, hs, rr⟩ := h ρ σ H kk S o
      exact ⟨vs, .inl hs, by rw [RepL.length rr]; exact Nat.le_refl _⟩
theorem di_seq {tg : Expr} {r : RE} (h : DE X B M e r) : DI X B M tg e (iSq r) := by
  refine ⟨pi_imp (pi_seq h.pe) fun σ H R ⟨ρ, S, q⟩ => ?_, fun ρ P P' w p => h.mo ρ _ _ (fun w1 ρ1 q1 => q1.imp fun ds p1 => w _ _ _ _ p1) p⟩
  refine into h S q fun w ρ1 v H1 hh k1 o1 S1 r1 => ?_
  obtain ⟨t, ds, e1, q1⟩ := hh.el
  obtain ⟨a, vs, rfl, s, rr⟩ := sq_read S1 r1 e1
  have wk := walks_of (K := X.K) (B := B) (M := M) (H1 := H1) (a := a) (n := ds.length) (ds := ds) (t := t) (ok := okW ρ1 ds w) rfl fun ρ2 σ2 H2 kk S2 ok2 => by
      cases w with
      | o i =>
        obtain ⟨p, e2, e3⟩ := ok2
        obtain ⟨p', fs, e4, ev⟩ := r1
        rw [e2] at e4
        cases e4
        cases ev
        have h2 : (match ρ1[i]? with
          | some (.own _ ds) => some (false, ds)
          | _ => none) = some (t, ds) := e1
        rw [e2] at h2
        cases h2
        obtain ⟨us, hu, ru⟩ := S2.own_at e3
        exact ⟨us, .inl hu, ru⟩
      | d x =>
        refine ⟨vs, ?_, RepL.keep kk ds rr⟩
        cases x with
        | tup es =>
          cases e1
          exact TpN.keep kk s
        | lst es =>
          cases e1
          obtain ⟨a', vs', ea, hz, _⟩ := r1
          cases ea
          obtain ⟨o, ho⟩ := hz
          have h1 : Rd H1 a (.lst vs) := s
          rcases h1 with h1 | ⟨o', h1⟩
          · rw [ho] at h1
            cases h1
          · exact .inr ⟨o', kk _ _ h1 trivial⟩
        | _ => cases e1
  refine ⟨a, rfl, ?_⟩
  cases t with
  | true => exact .inr ⟨⟨vs, TpN.sq s⟩, q1 _ H1 k1 o1 S1 wk⟩
  | false => exact .inl ⟨⟨vs, .inl s⟩, q1 _ H1 k1 o1 S1 wk⟩
/-- over range(n), range(a, b) -/
def kRg (s : Option (Int × Int)) (Q : Int → Int → Prop) : Prop := match s with
  | some (lo, hi) => Q lo hi
  | none => False
theorem kRg.el {s : Option (Int × Int)} {Q : Int → Int → Prop} (h : kRg s Q) : ∃ lo hi, s = some (lo, hi) ∧ Q lo hi := by
  unfold kRg at h
  split at h
  · exact ⟨_, _, rfl, h⟩
  · exact h.elim
theorem kRg.imp {s : Option (Int × Int)} {Q Q' : Int → Int → Prop} (h : kRg s Q) (w : ∀ lo hi, Q lo hi → Q' lo hi) : kRg s Q' := by
  obtain ⟨lo, hi, rfl, q⟩ := h.el
  exact w lo hi q
def iRg (ra : RA) (f : List W → Option (Int × Int)) : RI := fun ρ P => ra ρ fun ws ρ1 => kRg (f ws) fun lo hi => -(2 ^ 62) ≤ lo ∧ lo < 2 ^ 62 ∧ -(2 ^ 62) ≤ hi ∧ hi < 2 ^ 62 ∧ P (hi - lo).toNat (fun k d => d = .int (lo + k)) (fun _ => True) ρ1
theorem walks_rg {K : PySem.W.Frag} {H1 : Hp} {lo : Int} {n : Nat} : Walks K B M H1 (Itr lo n) n (fun k d => d = .int (lo + k)) (fun _ => True) :=
  ⟨fun k ρ σ H _ _ _ lt => lt, fun k ρ σ H x H' _ _ _ _ ⟨e1, e2⟩ => by subst e1; exact ⟨Same.refl _, _, rfl, e2⟩, fun ρ σ H _ _ _ => Nat.le_refl _⟩
def rg1 : List W → Option (Int × Int)
  | [.d (.int n)] => some (0, n)
  | _ => none
def rg2 : List W → Option (Int × Int)
  | [.d (.int m), .d (.int n)] => some (m, n)
  | _ => none
theorem di_range1 {tg : Expr} {p : Pos} {ra : RA} (hm : X.mg "range" = none) (ha : DA X B M [a] ra) (hg : Gl X "range" := by rfl) (hs : starEach [a] X.env = [(false, eval a X.env)] := by rfl) : DI X B M tg (.Call (.Name "range" p) [a] [] pos) (iRg ra rg1) := by
  refine ⟨pi_imp (pi_range1 hg hm ha.pa hs) fun σ H R ⟨ρ, S, q⟩ => ?_, fun ρ P P' w p => ha.mo ρ _ _ (fun ws ρ1 q => q.imp fun lo hi ⟨h1, h2, h3, h4, q⟩ => ⟨h1, h2, h3, h4, w _ _ _ _ q⟩) p⟩
  refine intoA ha S q fun ws ρ1 vs H1 hh k1 o1 S1 r1 => ?_
  obtain ⟨lo, hi, e, h1, h2, h3, h4, q1⟩ := hh.el
  unfold rg1 at e
  split at e
  · cases e
    obtain ⟨v, vr, rfl, r1, r2⟩ := r1
    obtain rfl : vr = [] := r2
    obtain rfl : v = _ := r1
    refine ⟨_, rfl, h3, h4, ?_⟩
    have := q1 (Itr 0 (hi - 0).toNat) H1 k1 o1 S1 walks_rg
    rw [Int.sub_zero] at this
    exact this
  · cases e
theorem di_range2 {tg b : Expr} {p : Pos} {ra : RA} (hm : X.mg "range" = none) (ha : DA X B M [a, b] ra) (hg : Gl X "range" := by rfl) (hs : starEach [a, b] X.env = [(false, eval a X.env), (false, eval b X.env)] := by rfl) (hs2 : starEach [b] X.env = [(false, eval b X.env)] := by rfl) : DI X B M tg (.Call (.Name "range" p) [a, b] [] pos) (iRg ra rg2) := by
  refine ⟨pi_imp (pi_range2 hg hm ha.pa hs hs2) fun σ H R ⟨ρ, S, q⟩ => ?_, fun ρ P P' w p => ha.mo ρ _ _ (fun ws ρ1 q => q.imp fun lo hi ⟨h1, h2, h3, h4, q⟩ => ⟨h1, h2, h3, h4, w _ _ _ _ q⟩) p⟩
  refine intoA ha S q fun ws ρ1 vs H1 hh k1 o1 S1 r1 => ?_
  obtain ⟨lo, hi, e, h1, h2, h3, h4, q1⟩ := hh.el
  unfold rg2 at e
  split at e
  · cases e
    obtain ⟨v, vr, rfl, r1, v2, vr2, rfl, r2, r3⟩ := r1
    obtain rfl : vr2 = [] := r3
    obtain rfl : v = _ := r1
    obtain rfl : v2 = _ := r2
    exact ⟨_, _, rfl, ⟨h1, h2, h3, h4⟩, q1 (Itr lo (hi - lo).toNat) H1 k1 o1 S1 walks_rg⟩
  · cases e
/-! ### targets -/
abbrev RG := D → En → (En → Prop) → Prop
structure DG (X : Cx) (B : Hp) (M : List Addr) (tg : Expr) (rg : RG) : Prop where
  pg : PG X tg (fun v σ H Q => ∃ ρ d, Sta X.K B M ρ σ H ∧ Rep X.K H d v ∧ rg d ρ fun ρ' => ∀ σ', σ'.length = σ.length → Sta X.K B M ρ' σ' H → Q σ' H)
theorem pg_imp {tg : Expr} {w w' : TG} (h : PG X tg w) (i : ∀ v σ H Q, w' v σ H Q → w v σ H Q) : PG X tg w' := ⟨fun pins s σ H v u Q I r q => h.run pins s σ H v u Q I r (i v σ H Q q)⟩
def gN (i : Nat) : RG := fun d ρ Q => Q (ρ.set i (.v d))
theorem dg (i : Nat) {x : Str} (hN : X.N.Nodup) (hi : X.N[i]? = some x := by rfl) (hx : Loc X.env.scope x := by first | exact Or.inl rfl | exact Or.inr rfl) (hf : X.fn x = true ∨ X.env.scope.names.lookup x = some .local := by first | exact .inl rfl | exact .inr rfl | assumption) : DG X B M (.Name x pos) (gN i) :=
  ⟨pg_imp (pg_name hN hi hx hf) fun v σ H Q ⟨ρ, d, S, r, q⟩ => q _ (by rw [List.length_set]) (S.put r)⟩
def gN2 (i j : Nat) : RG := fun d ρ Q => kP (fun x y => Q ((ρ.set i (.v x)).set j (.v y))) d
theorem dg2 (i j : Nat) {x y : Str} {px py pt : Pos} {kt} (hN : X.N.Nodup) (hc : X.calm = true := by rfl) (hi : X.N[i]? = some x := by rfl) (hj : X.N[j]? = some y := by rfl) (hx : Loc X.env.scope x := by first | exact Or.inl rfl | exact Or.inr rfl) (hy : Loc X.env.scope y := by first | exact Or.inl rfl | exact Or.inr rfl)
    (hn : (assignEach [.Name x px, .Name y py] X.env).length = 2 := by rfl) (hst : (assignEach [.Name x px, .Name y py] X.env).findIdx? (·.1) = none := by rfl)
    (hs1 : (assignEach [.Name x px, .Name y py] X.env).map (·.2) = assign (.Name x px) X.env :: (assignEach [.Name y py] X.env).map (·.2) := by rfl) (hs2 : (assignEach [.Name y py] X.env).map (·.2) = assign (.Name y py) X.env :: (assignEach [] X.env).map (·.2) := by rfl)
    (hfx : X.fn x = true ∨ X.env.scope.names.lookup x = some .local := by first | exact .inl rfl | exact .inr rfl | assumption) (hfy : X.fn y = true ∨ X.env.scope.names.lookup y = some .local := by first | exact .inl rfl | exact .inr rfl | assumption) :
    DG X B M (.Tuple [.Name x px, .Name y py] kt pt) (gN2 i j) :=
  ⟨pg_imp (pg_tup hc (pgs_cons (pg_name hN hi hx hfx) (pgs_cons (pg_name hN hj hy hfy) pgs_nil hs2) hs1) hn hst) fun v σ H Q ⟨ρ, d, S, r, hh⟩ => by
    obtain ⟨x, y, e, q⟩ := hh.el
    subst e
    obtain ⟨a, vs, ev, hs, v1, vr, rfl, r1, v2, vr2, rfl, r2, r3⟩ := r
    obtain rfl : vr2 = [] := r3
    exact ⟨a, _, ev, TpN.sq hs, rfl, v1, _, rfl, v2, _, rfl, rfl, q _ (by rw [List.length_set, List.length_set]) ((S.put r1).put r2)⟩⟩
/-! ### for, while -/
def rFor (ri : RI) (rg : RG) (rb : RS) : RS := fun e ρ => ri ρ fun n it ok ρ1 => ∃ I : Nat → En → Prop, I 0 ρ1 ∧ (∀ k ρ2, k ≤ n → I k ρ2 → ok ρ2) ∧
  (∀ k d ρ2, k < n → it k d → I k ρ2 → rg d ρ2 fun ρ3 => rb { nx := I (k + 1), rt := e.rt, bk := e.nx, ct := I (k + 1), ro := e.ro } ρ3) ∧ (∀ ρ2, I n ρ2 → e.nx ρ2)
theorem ds_for {tg iter : Expr} {body : List Stmt} {ri : RI} {rg : RG} {rb : RS} (hp : PassesOwn (model X.prog X.w) X.A X.env X.xe) (hi : DI X B M tg iter ri) (hg : DG X B M tg rg) (hb : DSs X B M body rb) (hc : X.calm = true := by rfl)
    (hs : ∀ x, foldedSetIterable iter X.env x = pure x := by intro _; rfl) (rm : ∀ d ρ (P P' : En → Prop), (∀ ρ', P ρ' → P' ρ') → rg d ρ P → rg d ρ P' := by first | (intro _ _ _ _ w p; exact w _ p) | (intro _ _ _ _ w p; exact kP.imp p fun _ _ q => w _ q)) : DS X B M (.For tg iter body [] pos) (rFor ri rg rb) := by
  refine DS.mk' (ps_for hp hc hi.pi hg.pg hb.pss hs) fun D σ H ρ en S q ok => ?_
  refine ⟨ρ, S, hi.mo ρ _ _ (fun n it okk ρ1 ⟨I, i0, iok, istep, iend⟩ => ?_) q⟩
  intro J H1 k1 o1 S1 wk
  refine ⟨fun k m σ' H' => m = n - k ∧ k ≤ n ∧ Keep H1 H' ∧ ∃ ρ2, Sta X.K B M ρ2 σ' H' ∧ I k ρ2, ⟨n, rfl, Nat.zero_le _, Keep.refl _, ρ1, S1, i0⟩, ?_⟩
  rintro k m σ' H' ⟨rfl, hk, kk, ρ2, S2, ik⟩
  have okk2 := iok k ρ2 hk ik
  by_cases hlt : k < n
  · refine .inr ⟨wk.go k ρ2 σ' H' kk S2 okk2 hlt, fun σ3 H3 => k + 1 ≤ n ∧ Keep H1 H3 ∧ ∃ ρ3, Sta X.K B M ρ3 σ3 H3 ∧ I (k + 1) ρ3, fun σ3 H3 ⟨h1, h2, h3⟩ => ⟨n - (k + 1), by omega, rfl, h1, h2, h3⟩, fun x H3 y => ?_⟩
    obtain ⟨sm, d, hit, rd⟩ := wk.yld k ρ2 σ' H' x H3 kk S2 okk2 hlt y
    refine ⟨ρ2, d, S2.same sm, rd, rm d ρ2 _ _ (fun ρ3 q3 => ?_) (istep k d ρ2 hlt hit ik)⟩
    intro σ3 _ S3
    have kk3 := kk.trans (Keep.of sm)
    exact ⟨ρ3, _, S3, q3, ⟨fun ρ4 σ4 H4 k4 S4 q4 => ⟨hlt, kk3.trans k4, ρ4, S4, q4⟩, fun d4 ρ4 σ4 v4 H4 k4 S4 r4 q4 => ok.rt d4 ρ4 σ4 v4 H4 ((k1.trans kk3).trans k4) S4 r4 q4,
      fun ρ4 σ4 H4 k4 S4 q4 => ok.nx ρ4 σ4 H4 ((k1.trans kk3).trans k4) S4 q4, fun ρ4 σ4 H4 k4 S4 q4 => ⟨hlt, kk3.trans k4, ρ4, S4, q4⟩, fun i4 p4 d4 ρ4 σ4 H4 k4 S4 e4 q4 => ok.ro i4 p4 d4 ρ4 σ4 H4 ((k1.trans kk3).trans k4) S4 e4 q4⟩⟩
  · have e : k = n := by omega
    subst e
    exact .inl ⟨wk.stop ρ2 σ' H' kk S2 okk2, ok.nx ρ2 σ' H' (k1.trans kk) S2 (iend ρ2 ik)⟩
def rWhile (rt : RT) (rb : RS) : RS := fun e ρ => ∃ I : Nat → En → Prop, (∃ m, I m ρ) ∧ ∀ m ρ1, I m ρ1 → rt ρ1 fun b ρ2 => if b = true then rb { nx := fun ρ3 => ∃ m', m' < m ∧ I m' ρ3, rt := e.rt, bk := e.nx, ct := fun ρ3 => ∃ m', m' < m ∧ I m' ρ3, ro := e.ro } ρ2 else e.nx ρ2
theorem ds_while {body : List Stmt} {rt : RT} {rb : RS} (hp : PassesOwn (model X.prog X.w) X.A X.env X.xe) (hc : DT X B M c rt) (hb : DSs X B M body rb) : DS X B M (.While c body [] pos) (rWhile rt rb) := by
  refine DS.mk' (ps_while hp hc.pt hb.pss) fun D σ H ρ en S ⟨I, ⟨m0, i0⟩, turn⟩ ok => ?_
  refine ⟨fun m σ' H' => Keep H H' ∧ ∃ ρ1, Sta X.K B M ρ1 σ' H' ∧ I m ρ1, ⟨m0, Keep.refl _, ρ, S, i0⟩, ?_⟩
  rintro m σ1 H1 ⟨k1, ρ1, S1, i1⟩
  refine intoT hc.mo S1 (turn m ρ1 i1) fun b ρ2 H2 q2 k2 o2 S2 => ?_
  cases b with
  | true =>
    refine ⟨fun σ3 H3 => Keep H H3 ∧ ∃ m', m' < m ∧ ∃ ρ3, Sta X.K B M ρ3 σ3 H3 ∧ I m' ρ3, fun σ3 H3 ⟨k3, m', hm, ρ3, S3, i3⟩ => ⟨m', hm, k3, ρ3, S3, i3⟩, ρ2, _, S2, q2, ?_⟩
    have kk := k1.trans k2
    exact ⟨fun ρ4 σ4 H4 k4 S4 ⟨m', hm, i4⟩ => ⟨kk.trans k4, m', hm, ρ4, S4, i4⟩, fun d4 ρ4 σ4 v4 H4 k4 S4 r4 q4 => ok.rt d4 ρ4 σ4 v4 H4 (kk.trans k4) S4 r4 q4,
      fun ρ4 σ4 H4 k4 S4 q4 => ok.nx ρ4 σ4 H4 (kk.trans k4) S4 q4, fun ρ4 σ4 H4 k4 S4 ⟨m', hm, i4⟩ => ⟨kk.trans k4, m', hm, ρ4, S4, i4⟩, fun i4 p4 d4 ρ4 σ4 H4 k4 S4 e4 q4 => ok.ro i4 p4 d4 ρ4 σ4 H4 (kk.trans k4) S4 e4 q4⟩
  | false => exact ok.nx ρ2 σ1 H2 (k1.trans k2) S2 q2
end
end N
/-! N4 -/
set_option Elab.async false
set_option linter.all false
set_option maxRecDepth 100000
set_option maxHeartbeats 1000000
/-! N4: what defs promise, calls, comprehensions. -/
namespace N
open PySem PySem.Spec PyProof.Rows L2
/-- an exception: its class, and where it has one its own field -/
structure Exn where
  C : Addr
  fld : Option (Str × D)
def XRep (K : PySem.W.Frag) (H : Hp) (x : Exn) (cls : Value) (dx : Option Addr) : Prop := cls = .ref x.C ∧ match x.fld with
  | none => dx = none
  | some (f, d) => ∃ a v, dx = some a ∧ H a = some (.xd [(f, v)]) ∧ Rep K H d v
/-- a def's promise: what it is asked (g: any ghost), the arguments, when, what it gives, what it may raise -/
structure FS where
  α : Type
  args : α → List D
  pre : α → Prop
  post : α → D → Prop
  exc : α → Exn → Prop := fun _ _ => False
def spF (K : PySem.W.Frag) (S : FS) : Sp := fun vs H Q E => ∃ g, RepL K H (S.args g) vs ∧ S.pre g ∧ (∀ d v H', S.post g d → Frm [] H H' → Rep K H' d v → Q v H') ∧ (∀ x cls dx H', S.exc g x → Frm [] H H' → XRep K H' x cls dx → E cls dx H')
def notL : D → Bool
  | .lst _ => false
  | _ => true
/-- the same of a def whose first argument is a list that it changes (the law's store), st what holds of it -/
structure SS where
  α : Type
  args : α → List D
  pre : α → Prop
  post : α → D → Prop
  s0 : α → List D → Prop
  s1 : α → List D → Prop
def spS (K : PySem.W.Frag) (S : SS) : Sp := fun vs H Q _ => ∃ g p vs0 s vr, vs = .ref p :: vr ∧ H p = some (.lst vs0) ∧ RepL K H s vs0 ∧ S.s0 g s ∧ RepL K H (S.args g) vr ∧ S.pre g ∧
  (∀ d s' v H' vs', S.post g d → S.s1 g s' → Frm [p] H H' → H' p = some (.lst vs') → RepL K H' s' vs' → Rep K H' d v → Q v H')
/-- a def that gives data, or where it gives a list a new one, which nothing else knows -/
def spO (K : PySem.W.Frag) (S : FS) : Sp := fun vs H Q E => ∃ g, RepL K H (S.args g) vs ∧ S.pre g ∧ (∀ d v H', S.post g d → notL d = true → Frm [] H H' → Rep K H' d v → Q v H') ∧
  (∀ ds p vs' H', S.post g (.lst ds) → Frm [] H H' → H p = none → H' p = some (.lst vs') → RepL K H' ds vs' → Q (.ref p) H')
/-- the def of that name keeps the promise -/
def Has (P : Program) (w : World) (K : PySem.W.Frag) (mg : Str → Option Value) (base : Heap) (x : Str) (k : Nat) (ps : List Str) (sp : Sp) : Prop :=
  ∃ f fd, mg x = some (.ref f) ∧ PySem.W.keepIn K (.ref f) = true ∧ Binds K fd ps [] ∧ FnOk P w K mg base (L2N.CX P w) k f fd ps sp
/-! ### a def's body -/
def ini (n : Nat) (ds : List D) : En := ds.map Slot.v ++ List.replicate (n - ds.length) Slot.un
theorem sta_ini {K : PySem.W.Frag} {H : Hp} {N : List Str} {ds : List D} {vs : List V} (r : RepL K H ds vs) : Sta K H [] (ini N.length ds) (L2.start N vs) H := by
  have hl := RepL.length r
  refine ⟨Frm.refl _ _, fun i s e => ?_, fun i j p q fs gs e => ?_, fun i p fs e => ?_, fun p hp => by simp at hp, fun i P q e => by
    unfold ini at e
    rcases List.mem_append.mp (List.mem_of_getElem? e) with h | h
    · obtain ⟨d, _, z⟩ := List.mem_map.mp h
      cases z
    · cases (List.mem_replicate.mp h).2⟩
  · unfold ini at e
    unfold L2.start
    by_cases hi : i < ds.length
    · rw [List.getElem?_append_left (by rw [List.length_map]; exact hi), List.getElem?_map, List.getElem?_eq_getElem hi] at e
      have e' : Slot.v ds[i] = s := by simpa using e
      subst e'
      obtain ⟨v, hv, rv⟩ := RepL.get r (List.getElem?_eq_getElem hi)
      refine .inr ⟨v, ?_, rv⟩
      rw [List.getElem?_append_left (by rw [List.length_map, hl]; exact hi), List.getElem?_map, hv]
      rfl
    · have hi' : ds.length ≤ i := Nat.le_of_not_lt hi
      rw [List.getElem?_append_right (by rw [List.length_map]; exact hi'), List.length_map, List.getElem?_replicate] at e
      split at e
      · rename_i hlt
        cases e
        exact trivial
      · cases e
  · exact absurd e (by
      unfold ini
      intro e
      rcases List.mem_append.mp (List.mem_of_getElem? e) with h | h
      · obtain ⟨d, _, z⟩ := List.mem_map.mp h
        cases z
      · cases (List.mem_replicate.mp h).2)
  · exact absurd e (by
      unfold ini
      intro e
      rcases List.mem_append.mp (List.mem_of_getElem? e) with h | h
      · obtain ⟨d, _, z⟩ := List.mem_map.mp h
        cases z
      · cases (List.mem_replicate.mp h).2)
def iniS (n : Nat) (p : Addr) (s : List D) (ds : List D) : En := Slot.own p s :: (ds.map Slot.v ++ List.replicate (n - 1 - ds.length) Slot.un)
theorem sta_iniS {K : PySem.W.Frag} {H : Hp} {N : List Str} {p : Addr} {s ds : List D} {vs0 vs : List V} (hN : 0 < N.length) (hp : H p = some (.lst vs0)) (r0 : RepL K H s vs0) (r : RepL K H ds vs) : Sta K H [p] (iniS N.length p s ds) (L2.start N (.ref p :: vs)) H := by
  have hl := RepL.length r
  have own : ∀ (i : Nat) q fs, (iniS N.length p s ds)[i]? = some (Slot.own q fs) → i = 0 ∧ q = p := fun i q fs e => by
    cases i with
    | zero =>
      unfold iniS at e
      rw [List.getElem?_cons_zero] at e
      cases e
      exact ⟨rfl, rfl⟩
    | succ i =>
      unfold iniS at e
      rw [List.getElem?_cons_succ] at e
      rcases List.mem_append.mp (List.mem_of_getElem? e) with h | h
      · obtain ⟨d, _, z⟩ := List.mem_map.mp h
        cases z
      · cases (List.mem_replicate.mp h).2
  refine ⟨Frm.refl _ _, fun i s e => ?_, fun i j q q' fs gs e e' hij => ?_, fun i q fs e => ?_, fun q hq => ?_, fun i P q e => by
    cases i with
    | zero =>
      unfold iniS at e
      rw [List.getElem?_cons_zero] at e
      cases e
    | succ i =>
      unfold iniS at e
      rw [List.getElem?_cons_succ] at e
      rcases List.mem_append.mp (List.mem_of_getElem? e) with h | h
      · obtain ⟨d, _, z⟩ := List.mem_map.mp h
        cases z
      · cases (List.mem_replicate.mp h).2⟩
  · cases i with
    | zero =>
      unfold iniS at e
      rw [List.getElem?_cons_zero] at e
      cases e
      exact ⟨.inr rfl, vs0, hp, r0⟩
    | succ i =>
      unfold iniS at e
      rw [List.getElem?_cons_succ] at e
      unfold L2.start
      rw [List.map_cons, List.cons_append, List.getElem?_cons_succ]
      by_cases hi : i < ds.length
      · rw [List.getElem?_append_left (by rw [List.length_map]; exact hi), List.getElem?_map, List.getElem?_eq_getElem hi] at e
        have e' : Slot.v ds[i] = s := by simpa using e
        subst e'
        obtain ⟨v, hv, rv⟩ := RepL.get r (List.getElem?_eq_getElem hi)
        refine .inr ⟨v, ?_, rv⟩
        rw [List.getElem?_append_left (by rw [List.length_map, hl]; exact hi), List.getElem?_map, hv]
        rfl
      · have hi' : ds.length ≤ i := Nat.le_of_not_lt hi
        rw [List.getElem?_append_right (by rw [List.length_map]; exact hi'), List.length_map, List.getElem?_replicate] at e
        split at e
        · rename_i hlt
          cases e
          exact trivial
        · cases e
  · exact absurd ((own i q fs e).1.trans (own j q' gs e').1.symm) hij
  · exact .inr (by rw [(own i q fs e).2]; exact List.mem_singleton_self p)
  · rw [List.mem_singleton.mp hq]
    exact ⟨_, hp⟩
section
variable {P : Program} {w : World} {K : PySem.W.Frag} {mg : Str → Option Value} {base : Heap} {x qual : Str} {params : Arguments} {body : List Stmt} {scope : Scope} {f : Addr} {fd : FuncData}
/-- the rule for a def -/
theorem fn_ok {dvs : List V} {N ps : List Str} {k : Nat} (F : FunD K x qual params body scope dvs [] f fd) (Sc : FnScope N ps scope) (S : FS) (len : ∀ g, (S.args g).length = ps.length)
    (h : ∀ (cdv : Value) (A : Around) (outer : List Env) (s : Shared) (H : Hp) (E : XK) (g : S.α), Room k (A.deeper (envOfC qual scope s.heap.objs.size f cdv)) → S.pre g → (∀ x cls dx H', S.exc g x → Frm [] H H' → XRep K H' x cls dx → E cls dx H') →
      ∃ r, DSs (cxOf (L2N.CX P w) P w K mg base N qual scope f cdv A outer s H E) H [] body r ∧ r { nx := fun _ => S.post g .non, rt := fun d _ => S.post g d } (ini N.length (S.args g))) :
    FnOk P w K mg base (L2N.CX P w) (k + 1) f fd ps (spF K S) := by
  refine F.ok Sc (fun vs H Q E ⟨g, r, _⟩ => (RepL.length r).trans (len g)) fun cdv A outer s H vs Q E hr ⟨g, r, pre, q, qx⟩ => ?_
  obtain ⟨rs, hd, hm⟩ := h cdv A outer s H E g hr pre qx
  refine ⟨_, hd.pss, ini N.length (S.args g), _, sta_ini r, hm, ⟨fun ρ σ H' _ S' hp => q .non .non H' hp S'.frm rfl, fun d ρ σ v H' _ S' rv hp => q d v H' hp S'.frm rv, fun _ _ _ _ _ z => z, fun _ _ _ _ _ z => z, fun _ _ _ _ _ _ _ _ _ z => z.elim⟩⟩
theorem fnS_ok {dvs : List V} {N ps : List Str} {k : Nat} (F : FunD K x qual params body scope dvs [] f fd) (Sc : FnScope N ps scope) (S : SS) (len : ∀ g, (S.args g).length + 1 = ps.length) (hN : 0 < N.length)
    (h : ∀ (cdv : Value) (A : Around) (outer : List Env) (s : Shared) (H : Hp) (E : XK) (g : S.α) (p : Addr) (ss : List D), Room k (A.deeper (envOfC qual scope s.heap.objs.size f cdv)) → S.pre g → S.s0 g ss →
      ∃ r, DSs (cxOf (L2N.CX P w) P w K mg base N qual scope f cdv A outer s H E) H [p] body r ∧ r { nx := fun ρ => S.post g .non ∧ ∃ s', ρ[0]? = some (.own p s') ∧ S.s1 g s', rt := fun d ρ => S.post g d ∧ ∃ s', ρ[0]? = some (.own p s') ∧ S.s1 g s' } (iniS N.length p ss (S.args g))) :
    FnOk P w K mg base (L2N.CX P w) (k + 1) f fd ps (spS K S) := by
  refine F.ok Sc (fun vs H Q E ⟨g, p, vs0, s, vr, e, _, _, _, r, _⟩ => by rw [e, List.length_cons, RepL.length r]; exact len g) fun cdv A outer s H vs Q E hr ⟨g, p, vs0, ss, vr, e, hp, r0, hs, r, pre, q⟩ => ?_
  subst e
  obtain ⟨rs, hd, hm⟩ := h cdv A outer s H E g p ss hr pre hs
  refine ⟨_, hd.pss, iniS N.length p ss (S.args g), _, sta_iniS hN hp r0 r, hm, ⟨fun ρ σ H' _ S' ⟨hp, s', e0, hs'⟩ => ?_, fun d ρ σ v H' _ S' rv ⟨hp, s', e0, hs'⟩ => ?_, fun _ _ _ _ _ z => z, fun _ _ _ _ _ z => z, fun _ _ _ _ _ _ _ _ _ z => z.elim⟩⟩
  · obtain ⟨vs', hv, rr⟩ := S'.own_at e0
    exact q .non s' .non H' vs' hp hs' S'.frm hv rr rfl
  · obtain ⟨vs', hv, rr⟩ := S'.own_at e0
    exact q d s' v H' vs' hp hs' S'.frm hv rr rv
/-- the rule for a def that gives data or a new list -/
theorem fnO_ok {dvs : List V} {N ps : List Str} {k : Nat} (F : FunD K x qual params body scope dvs [] f fd) (Sc : FnScope N ps scope) (S : FS) (len : ∀ g, (S.args g).length = ps.length)
    (h : ∀ (cdv : Value) (A : Around) (outer : List Env) (s : Shared) (H : Hp) (E : XK) (g : S.α), Room k (A.deeper (envOfC qual scope s.heap.objs.size f cdv)) → S.pre g →
      ∃ r, DSs (cxOf (L2N.CX P w) P w K mg base N qual scope f cdv A outer s H E) H [] body r ∧ r { nx := fun _ => S.post g .non, rt := fun d _ => S.post g d ∧ notL d = true, ro := fun ds _ => S.post g (.lst ds) } (ini N.length (S.args g))) :
    FnOk P w K mg base (L2N.CX P w) (k + 1) f fd ps (spO K S) := by
  refine F.ok Sc (fun vs H Q E ⟨g, r, _⟩ => (RepL.length r).trans (len g)) fun cdv A outer s H vs Q E hr ⟨g, r, pre, q, qn⟩ => ?_
  obtain ⟨rs, hd, hm⟩ := h cdv A outer s H E g hr pre
  refine ⟨_, hd.pss, ini N.length (S.args g), _, sta_ini r, hm, ⟨fun ρ σ H' _ S' hp => q .non .non H' hp rfl S'.frm rfl, fun d ρ σ v H' _ S' rv hp => q d v H' hp.1 hp.2 S'.frm rv, fun _ _ _ _ _ z => z, fun _ _ _ _ _ z => z, fun i p ds ρ σ H' _ S' e hp => ?_⟩⟩
  obtain ⟨vs', hv, rr⟩ := S'.own_at e
  rcases S'.new i p ds e with n | n
  · exact qn ds p vs' H' hp S'.frm n hv rr
  · simp at n
end
theorem passN {X : Cx} : Passes (L2N.CX X.prog X.w) X (fun _ _ _ => False) := fun _ _ _ _ _ _ _ h => by
  obtain ⟨_, _, _, _, _, _, _, _, _, _, _, _, z⟩ := h
  exact z.elim
/-! ### calls -/
section
variable {X : Cx} {B : Hp} {M : List Addr} {e a b c : Expr} {es : List Expr} {pos : Pos}
def rCall (S : FS) (ra : RA) (Xp : Exn → Prop) : RE := fun ρ Q => ra ρ fun ws ρ1 => ∃ g, ws = dats (S.args g) ∧ S.pre g ∧ (∀ d, S.post g d → Q (.d d) ρ1) ∧ ∀ x, S.exc g x → Xp x
theorem mo_rCall {S : FS} {ra : RA} {Xp : Exn → Prop} (ha : MonoA ra) : MonoE (rCall S ra Xp) := fun ρ P P' w q => ha ρ _ _ (fun ws ρ1 ⟨g, e, p, h1, h2⟩ => ⟨g, e, p, fun d hd => w _ _ (h1 d hd), h2⟩) q
theorem de_callX {x : Str} {k : Nat} {ps : List Str} {S : FS} {ra : RA} {p : Pos} {E : XK} {Xp : Exn → Prop} (G : Has X.prog X.w X.K X.mg X.base x k ps (spF X.K S)) (hr : Room k X.A) (hx : Passes (L2N.CX X.prog X.w) X E)
    (hE : ∀ x cls dx H', Xp x → Frm M B H' → XRep X.K H' x cls dx → E cls dx H') (ha : DA X B M (a :: es) ra) (hg : Gl X x := by rfl) (hdb : (x == ("__debug__" : Str)) = false := by decide) (he : starEach (a :: es) X.env = (false, eval a X.env) :: starEach es X.env := by rfl) (hpl : (backTo pos (starEach es X.env)).any (·.1) = false := by rfl) :
    DE X B M (.Call (.Name x p) (a :: es) [] pos) (rCall S ra Xp) := by
  obtain ⟨f, fd, hm, hk, hb, F⟩ := G
  refine DE.mk' (pe_call F hr hg hm hk hb .nil hx ha.pa hdb he hpl) (mo_rCall ha.mo) fun σ H Q ρ Sx q => ?_
  refine intoA ha Sx q fun ws ρ1 vs H1 ⟨g, e1, pre, h1, h2⟩ k1 o1 S1 r1 => ?_
  subst e1
  rw [List.append_nil]
  refine ⟨g, dats_ok r1, pre, fun d v H' hd fr rv => ?_, fun x cls dx H' hx fr rx => ?_⟩
  · exact h1 d hd v H' (k1.trans fr.keep) o1 (S1.same fr.same) rv
  · exact hE x cls dx H' (h2 x hx) (S1.frm.trans (Frm.of fr.same)) rx
/-- a call that raises nothing -/
theorem de_call {x : Str} {k : Nat} {ps : List Str} {S : FS} {ra : RA} {p : Pos} (G : Has X.prog X.w X.K X.mg X.base x k ps (spF X.K S)) (hr : Room k X.A) (ha : DA X B M (a :: es) ra) (hg : Gl X x := by rfl) (hdb : (x == ("__debug__" : Str)) = false := by decide) (he : starEach (a :: es) X.env = (false, eval a X.env) :: starEach es X.env := by rfl) (hpl : (backTo pos (starEach es X.env)).any (·.1) = false := by rfl) :
    DE X B M (.Call (.Name x p) (a :: es) [] pos) (rCall S ra fun _ => False) := de_callX G hr passN (fun _ _ _ _ z => z.elim) ha hg hdb he hpl
/-- the state behind a call that changed the list of slot i -/
theorem Sta.called {K : PySem.W.Frag} {ρ : En} {σ : L2.St} {H H' : Hp} {i : Nat} {p : Addr} {s s' : List D} {vs' : List V} (S : Sta K B M ρ σ H) (e : ρ[i]? = some (.own p s)) (fr : Frm [p] H H') (hp : H' p = some (.lst vs')) (r : RepL K H' s' vs') : Sta K B M (ρ.set i (.own p s')) σ H' := by
  have hlt : i < ρ.length := (List.getElem?_eq_some_iff.mp e).1
  obtain ⟨vs, hpv, _⟩ := S.own_at e
  have look : ∀ {j : Nat} {q fs}, (ρ.set i (Slot.own p s'))[j]? = some (Slot.own q fs) → ∃ fs', ρ[j]? = some (Slot.own q fs') := fun {j q fs} h => by
    by_cases hj : j = i
    · subst hj
      rw [List.getElem?_set_self hlt] at h
      cases h
      exact ⟨s, e⟩
    · rw [List.getElem?_set_ne (Ne.symm hj)] at h
      exact ⟨fs, h⟩
  refine ⟨fun b o hb im => ?_, fun j t ej => ?_, fun j k q q' fs gs ej ek hjk => ?_, fun j q fs ej => ?_, fun q hq => ?_, fun j P q h => S.tbi j P q (tab_set h fun _ _ z => by cases z)⟩
  · by_cases hbp : b = p
    · have h2 := S.frm b o hb im
      rw [hbp, hpv] at h2
      cases h2
      rcases S.new i p s e with n | n
      · rw [hbp, n] at hb
        cases hb
      · rcases im with im | im
        · exact im.elim
        · exact absurd (hbp ▸ n) im
    · exact fr b o (S.frm b o hb im) (.inr (by simpa using hbp))
  · by_cases hj : j = i
    · subst hj
      rw [List.getElem?_set_self hlt] at ej
      cases ej
      obtain ⟨h2, _⟩ := S.ok j _ e
      exact ⟨h2, vs', hp, r⟩
    · rw [List.getElem?_set_ne (Ne.symm hj)] at ej
      refine SlotOk.keep fr.keep (fun q fs es => ?_) (fun P q et => by
        subst et
        exact tab_frm hpv fr (S.ok j _ ej)) (S.ok j t ej)
      subst es
      obtain ⟨_, us, hu, ru⟩ := S.ok j _ ej
      exact ⟨us, fr q _ hu (.inr (by simpa using S.dis j i q p fs s ej e hj)), RepL.keep fr.keep fs ru⟩
  · obtain ⟨a, h1⟩ := look ej
    obtain ⟨b, h2⟩ := look ek
    exact S.dis j k q q' a b h1 h2 hjk
  · obtain ⟨a, h1⟩ := look ej
    exact S.new j q a h1
  · by_cases hqp : q = p
    · exact ⟨_, by rw [hqp]; exact hp⟩
    · obtain ⟨o, ho⟩ := S.mh q hq
      exact ⟨o, fr q o ho (.inr (by simpa using hqp))⟩
def rCallS (S : SS) (i : Nat) (ra : RA) : RE := fun ρ Q => kOwn i (fun _ _ => ra ρ fun ws ρ1 => kOwn i (fun p s => ∃ g, ws = dats (S.args g) ∧ S.s0 g s ∧ S.pre g ∧ ∀ d s', S.post g d → S.s1 g s' → Q (.d d) (ρ1.set i (.own p s'))) ρ1) ρ
theorem de_callS {x : Str} {k : Nat} {ps : List Str} {S : SS} {ra : RA} {p ps' : Pos} {y : Str} {i : Nat} (G : Has X.prog X.w X.K X.mg X.base x k ps (spS X.K S)) (hr : Room k X.A) (hy : DE X B M (.Name y ps') (rVar i)) (ha : DA X B M es ra) (hg : Gl X x := by rfl) (hdb : (x == ("__debug__" : Str)) = false := by decide)
    (he : starEach (.Name y ps' :: es) X.env = (false, eval (.Name y ps') X.env) :: starEach es X.env := by rfl) (hpl : (backTo pos (starEach es X.env)).any (·.1) = false := by rfl) : DE X B M (.Call (.Name x p) (.Name y ps' :: es) [] pos) (rCallS S i ra) := by
  obtain ⟨f, fd, hm, hk, hb, F⟩ := G
  refine DE.mk' (pe_call F hr hg hm hk hb .nil passN (pa_cons hy.pe ha.pa he) hdb he hpl) (fun ρ P P' w q => q.imp fun _ _ q => ha.mo ρ _ _ (fun ws ρ1 q => q.imp fun p s ⟨g, e1, hs, pre, h1⟩ => ⟨g, e1, hs, pre, fun d s' hd hs' => w _ _ (h1 d s' hd hs')⟩) q) fun σ H Q ρ Sx hh => ?_
  obtain ⟨p0, s0, e0, q⟩ := hh.el
  refine into hy Sx (P := fun w ρ' => w = .o i ∧ ρ' = ρ) (rVar.mk (w := .o i) (by unfold rd; rw [e0]) ⟨rfl, rfl⟩) fun w ρ' vo H1 ⟨ew, eρ⟩ k1 o1 S1 r1 => ?_
  subst ew eρ
  refine intoA ha S1 q fun ws ρ1 vs H2 hh k2 o2 S2 r2 => ?_
  obtain ⟨p, s, e2, g, e1, hs, pre, h1⟩ := hh.el
  subst e1
  obtain ⟨p', s', e3, ev⟩ := WOk.keep k2 o2 r1
  rw [e2] at e3
  cases e3
  obtain ⟨vs0, hp, rr⟩ := S2.own_at e2
  refine ⟨g, p, vs0, s, vs, by rw [ev, List.append_nil], hp, rr, hs, dats_ok r2, pre, fun d s2 v H' vs' hd hs2 fr hp' rr' rv => ?_⟩
  exact h1 d s2 hd hs2 v H' ((k1.trans k2).trans fr.keep) ((o1.trans o2).trans (own_mut e2)) (S2.called e2 fr hp' rr') rv
/-- a call that gives data or a new list: as data -/
theorem de_callO {x : Str} {k : Nat} {ps : List Str} {S : FS} {ra : RA} {p : Pos} (G : Has X.prog X.w X.K X.mg X.base x k ps (spO X.K S)) (hr : Room k X.A) (ha : DA X B M (a :: es) ra) (hg : Gl X x := by rfl) (hdb : (x == ("__debug__" : Str)) = false := by decide) (he : starEach (a :: es) X.env = (false, eval a X.env) :: starEach es X.env := by rfl) (hpl : (backTo pos (starEach es X.env)).any (·.1) = false := by rfl) :
    DE X B M (.Call (.Name x p) (a :: es) [] pos) (rCall S ra fun _ => True) := by
  obtain ⟨f, fd, hm, hk, hb, F⟩ := G
  refine DE.mk' (pe_frzC (pe_call F hr hg hm hk hb .nil passN ha.pa hdb he hpl)) (mo_rCall ha.mo) fun σ H Q ρ Sx q => ?_
  refine intoA ha Sx q fun ws ρ1 vs H1 ⟨g, e1, pre, h1, h2⟩ k1 o1 S1 r1 => ?_
  subst e1
  rw [List.append_nil]
  refine ⟨g, dats_ok r1, pre, fun d v H' hd hl fr rv => .inl ?_, fun ds p vs' H' hd fr hn hp rv => .inr ⟨p, vs', rfl, hp, fun ob hc => ?_⟩⟩
  · exact h1 d hd v H' (k1.trans fr.keep) o1 (S1.same fr.same) rv
  · have n : NewAt X.K B ρ1 H' p ds := ⟨⟨vs', hp, rv⟩, S1.fresh_B hn, S1.fresh_own hn⟩
    obtain ⟨k2, S2⟩ := Sta.freeze (o := ob) (S1.same fr.same) hp (.inl n.nB) n.nO
    exact h1 _ hd _ _ ((k1.trans fr.keep).trans k2) o1 S2 ⟨p, vs', rfl, ⟨ob, upd_same⟩, RepL.keep k2 ds rv⟩
/-- x = f(..), such a call: x owns the new list, or holds the data -/
def rAsgC (i : Nat) (S : FS) (ra : RA) : RS := fun e ρ => ra ρ fun ws ρ1 => ∃ g, ws = dats (S.args g) ∧ S.pre g ∧ ∀ d, S.post g d → match d with
  | .lst ds => ∀ p, e.nx (ρ1.set i (.own p ds))
  | d => e.nx (ρ1.set i (.v d))
theorem ds_setC {x : Str} {k : Nat} {ps : List Str} {S : FS} {ra : RA} {p : Pos} {i : Nat} {y : Str} {py pos' : Pos} (hN : X.N.Nodup) (G : Has X.prog X.w X.K X.mg X.base x k ps (spO X.K S)) (hr : Room k X.A) (ha : DA X B M (a :: es) ra) (hi : X.N[i]? = some y := by rfl) (hy : Loc X.env.scope y := by first | exact Or.inl rfl | exact Or.inr rfl)
    (hs : swapsWith (.Call (.Name x p) (a :: es) [] pos) (some (.Name y py)) pos'.line X.env = pure false := by rfl) (hf : X.fn y = true ∨ X.env.scope.names.lookup y = some .local := by first | exact .inl rfl | exact .inr rfl | assumption)
    (hg : Gl X x := by rfl) (hdb : (x == ("__debug__" : Str)) = false := by decide) (he : starEach (a :: es) X.env = (false, eval a X.env) :: starEach es X.env := by rfl) (hpl : (backTo pos (starEach es X.env)).any (·.1) = false := by rfl) :
    DS X B M (.Assign [.Name y py] (.Call (.Name x p) (a :: es) [] pos) pos') (rAsgC i S ra) := by
  obtain ⟨f, fd, hm, hk, hb, F⟩ := G
  refine DS.mk' (ps_set hN hi hy (pe_call F hr hg hm hk hb .nil passN ha.pa hdb he hpl) hs hf) fun D σ H ρ en Sx q ok => ?_
  refine intoA ha Sx q fun ws ρ1 vs H1 ⟨g, e1, pre, h1⟩ k1 o1 S1 r1 => ?_
  subst e1
  rw [List.append_nil]
  refine ⟨g, dats_ok r1, pre, fun d v H' hd hl fr rv => ?_, fun ds p vs' H' hd fr hn hp rv => ?_⟩
  · have h2 := h1 d hd
    have S2 := (S1.same fr.same).put (i := i) rv
    refine ok.nx _ _ H' (k1.trans fr.keep) S2 ?_
    cases d with
    | lst ds => cases hl
    | _ => exact h2
  · exact ok.nx _ _ H' (k1.trans fr.keep) ((S1.same fr.same).putO hp rv (S1.fresh_B hn) (S1.fresh_own hn)) (h1 _ hd p)
/-! ### methods of a list that a slot owns -/
/-- x.append(e) -/
def rApp (i : Nat) (ra : RE) : RE := fun ρ Q => kOwn i (fun _ _ => ra ρ (kD fun x ρ1 => kOwn i (fun p ds => ds.length < 16777216 ∧ Q (.d .non) (ρ1.set i (.own p (ds ++ [x])))) ρ1)) ρ
theorem own_read {y : Str} {i : Nat} {py : Pos} (hy : DE X B M (.Name y py) (rVar i)) {σ : L2.St} {H : Hp} {ρ : En} (S : Sta X.K B M ρ σ H) {p0 : Addr} {s0 : List D} (e0 : ρ[i]? = some (.own p0 s0)) {Q : VK}
    (h : ∀ v H1, Keep H H1 → Sta X.K B M ρ σ H1 → v = .ref p0 → Q v H1) : tD X.K B M (rVar i) σ H Q :=
  into hy S (P := fun w ρ' => w = .o i ∧ ρ' = ρ) (rVar.mk (w := .o i) (by unfold rd; rw [e0]) ⟨rfl, rfl⟩) fun w ρ' vo H1 ⟨ew, eρ⟩ k1 o1 S1 r1 => by
    subst ew eρ
    obtain ⟨p', s', e3, ev⟩ := r1
    rw [e0] at e3
    cases e3
    exact h vo H1 k1 S1 ev
theorem tyV_own {K : PySem.W.Frag} {p : Addr} {H : Hp} {vs : List V} (hp : H p = some (.lst vs)) : tyV K "list" (.ref p) H := .inl ⟨rfl, _, .inl (.inl hp)⟩
theorem de_append {y : Str} {i : Nat} {py apos : Pos} {ra : RE} (hy : DE X B M (.Name y py) (rVar i)) (ha : DE X B M a ra)
    (hbase : attributeBase (.Name y py) "append" X.env (eval (.Name y py) X.env) = eval (.Name y py) X.env := by rfl)
    (hfew : ((backTo pos (starEach [a] X.env)).all (fun x => !x.1) && (backToKw pos (keywordEach [] X.env)).all (fun x => x.1.isSome)
      && decide ([a].length + ([] : List Keyword).length + (if ([] : List Keyword).isEmpty then 0 else 1) < 30)) = true := by rfl)
    (hline : (apos.endLine == pos.line) = true := by rfl) (hs : starEach [a] X.env = (false, eval a X.env) :: starEach [] X.env := by rfl) (hplain : (backTo pos (starEach [] X.env)).any (·.1) = false := by rfl) :
    DE X B M (.Call (.Attribute (.Name y py) "append" apos) [a] [] pos) (rApp i ra) := by
  refine DE.mk' (pe_bm PySem.F.plainAttrs_list PySem.F.slot_list_append PySem.F.type_list_append mt_append hy.pe (pa_cons ha.pe pa_nil hs) hbase hfew hline hs hplain) (fun ρ P P' w q => q.imp fun _ _ q => ha.mo ρ _ _ (fun w1 ρ1 q => by
    obtain ⟨x, rfl, q⟩ := q.el
    exact q.imp fun p ds ⟨hl, q⟩ => ⟨hl, w _ _ q⟩) q) fun σ H Q ρ S hh => ?_
  obtain ⟨p0, s0, e0, q⟩ := hh.el
  refine own_read hy S e0 fun v H1 k1 S1 ev => ?_
  subst ev
  obtain ⟨vs0, hp0, _⟩ := S1.own_at e0
  refine ⟨tyV_own hp0, ?_⟩
  refine into ha S1 q fun w1 ρ1 v H2 hh k2 o2 S2 r2 => ?_
  obtain ⟨x, e1, hh⟩ := hh.el
  obtain ⟨p, ds, e2, hl, q2⟩ := hh.el
  subst e1
  obtain ⟨s', e3⟩ := o2 i p0 s0 e0
  rw [e2] at e3
  cases e3
  obtain ⟨vs, hp, rr⟩ := S2.own_at e2
  refine ⟨p0, vs, v, rfl, rfl, hp, by rw [RepL.length rr, sizeLine_eq]; exact hl, ?_⟩
  exact q2 .non _ ((k1.trans k2).trans (Sta.keep_mut (i := i) hp)) (o2.trans (own_mut e2)) (S2.mut e2 hp (RepL.snoc rr r2)) rfl
/-- x.pop() -/
def rPopL (i : Nat) : RE := fun ρ Q => kOwn i (fun p ds => ∃ d, ds[ds.length - 1]? = some d ∧ Q (.d d) (ρ.set i (.own p ds.dropLast))) ρ
theorem RepL.dropLast {K : PySem.W.Frag} {H : Hp} {ds : List D} {vs : List V} (r : RepL K H ds vs) : RepL K H ds.dropLast vs.dropLast := by
  rw [List.dropLast_eq_take, List.dropLast_eq_take, RepL.length r]
  exact RepL.take _ r
theorem de_pop {y : Str} {i : Nat} {py apos : Pos} (hy : DE X B M (.Name y py) (rVar i)) (hbase : attributeBase (.Name y py) "pop" X.env (eval (.Name y py) X.env) = eval (.Name y py) X.env := by rfl) (hline : (apos.endLine == pos.line) = true := by rfl) :
    DE X B M (.Call (.Attribute (.Name y py) "pop" apos) [] [] pos) (rPopL i) := by
  refine DE.mk' (pe_bm0 PySem.F.plainAttrs_list PySem.F.slot_list_pop PySem.F.type_list_pop mt_pop hy.pe hbase hline) (fun ρ P P' w q => q.imp fun p ds ⟨d, e2, q⟩ => ⟨d, e2, w _ _ q⟩) fun σ H Q ρ S hh => ?_
  obtain ⟨p, ds, e1, d, e2, q⟩ := hh.el
  refine own_read hy S e1 fun v H1 k1 S1 ev => ?_
  subst ev
  obtain ⟨vs, hp, rr⟩ := S1.own_at e1
  obtain ⟨u, hu, ru⟩ := RepL.get rr e2
  refine ⟨tyV_own hp, p, vs, u, rfl, rfl, hp, by rw [RepL.length rr]; exact hu, ?_⟩
  exact q u _ (k1.trans (Sta.keep_mut (i := i) hp)) (own_mut e1) (S1.mut e1 hp (RepL.dropLast rr)) (Rep.keep (Sta.keep_mut (i := i) hp) d ru)
/-- x.pop(e) -/
def rPopI (i : Nat) (ra : RE) : RE := fun ρ Q => kOwn i (fun _ _ => ra ρ (kInt fun z ρ1 => kOwn i (fun p ds => ∃ j d, 0 ≤ z ∧ z = (j : Nat) ∧ ds[j]? = some d ∧ ds.length < 2 ^ 62 ∧ Q (.d d) (ρ1.set i (.own p (ds.eraseIdx j)))) ρ1)) ρ
theorem de_popI {y : Str} {i : Nat} {py apos : Pos} {ra : RE} (hy : DE X B M (.Name y py) (rVar i)) (ha : DE X B M a ra)
    (hbase : attributeBase (.Name y py) "pop" X.env (eval (.Name y py) X.env) = eval (.Name y py) X.env := by rfl)
    (hfew : ((backTo pos (starEach [a] X.env)).all (fun x => !x.1) && (backToKw pos (keywordEach [] X.env)).all (fun x => x.1.isSome)
      && decide ([a].length + ([] : List Keyword).length + (if ([] : List Keyword).isEmpty then 0 else 1) < 30)) = true := by rfl)
    (hline : (apos.endLine == pos.line) = true := by rfl) (hs : starEach [a] X.env = (false, eval a X.env) :: starEach [] X.env := by rfl) (hplain : (backTo pos (starEach [] X.env)).any (·.1) = false := by rfl) :
    DE X B M (.Call (.Attribute (.Name y py) "pop" apos) [a] [] pos) (rPopI i ra) := by
  refine DE.mk' (pe_bm PySem.F.plainAttrs_list PySem.F.slot_list_pop PySem.F.type_list_pop mt_popAt hy.pe (pa_cons ha.pe pa_nil hs) hbase hfew hline hs hplain) (fun ρ P P' w q => q.imp fun _ _ q => ha.mo ρ _ _ (fun w1 ρ1 q => by
    obtain ⟨z, rfl, q⟩ := q.el
    exact q.imp fun p ds ⟨j, d, h0, ez, ej, hl, q⟩ => ⟨j, d, h0, ez, ej, hl, w _ _ q⟩) q) fun σ H Q ρ S hh => ?_
  obtain ⟨p0, s0, e0, q⟩ := hh.el
  refine own_read hy S e0 fun v H1 k1 S1 ev => ?_
  subst ev
  obtain ⟨vs0, hp0, _⟩ := S1.own_at e0
  refine ⟨tyV_own hp0, ?_⟩
  refine into ha S1 q fun w1 ρ1 v H2 hh k2 o2 S2 r2 => ?_
  obtain ⟨z, e1, hh⟩ := hh.el
  obtain ⟨p, ds, e2, j, d, h0, ez, ej, hl, q2⟩ := hh.el
  subst e1
  obtain ⟨s', e3⟩ := o2 i p0 s0 e0
  rw [e2] at e3
  cases e3
  obtain ⟨vs, hp, rr⟩ := S2.own_at e2
  obtain ⟨u, hu, ru⟩ := RepL.get rr ej
  obtain rfl : v = V.int z := r2
  have hj : j < ds.length := (List.getElem?_eq_some_iff.mp ej).1
  have hsq : seqIndex? z vs.length = some j := by
    have hx : ixN vs.length z = some j := by
      unfold ixN
      rw [if_pos h0, RepL.length rr, if_pos (by omega)]
      congr 1
      omega
    exact (ixN_seq hx).1
  refine ⟨p0, vs, z, j, u, rfl, rfl, hp, by omega, by omega, hsq, hu, ?_⟩
  exact q2 u _ ((k1.trans k2).trans (Sta.keep_mut (i := i) hp)) (o2.trans (own_mut e2)) (S2.mut e2 hp (RepL.eraseIdx j rr)) (Rep.keep (Sta.keep_mut (i := i) hp) d ru)
/-! ### comprehensions -/
def rYes : RT := fun ρ Q => Q true ρ
structure DTs (X : Cx) (B : Hp) (M : List Addr) (ifs : List Expr) (r : RT) : Prop where
  pts : PTs X ifs (tDT X.K B M r)
  mo : MonoT r
theorem pts_imp {ifs : List Expr} {t t' : TT} (h : PTs X ifs t) (w : ∀ σ H Q, t' σ H Q → t σ H Q) : PTs X ifs t' := ⟨fun pins s σ H Q I q => h.run pins s σ H Q I (w σ H Q q)⟩
theorem dts_nil : DTs X B M [] rYes := ⟨pts_imp pts_nil fun σ H Q ⟨ρ, S, q⟩ => q H (Keep.refl _) (OwnEq.refl _) S, fun ρ P P' w q => w _ _ q⟩
theorem dts_one {r : RT} (h : DT X B M c r) : DTs X B M [c] r := ⟨pts_one h.pt, h.mo⟩
/-- [e for x in it if t], x in slot i -/
def rLc (i : Nat) (ri : RI) (rt : RT) (re : RE) : RN := fun ρ Q => ri ρ fun n it ok ρ1 => n ≤ 16777216 ∧ ∃ I : Nat → List D → En → Prop, I 0 [] (ρ1.set i .un) ∧ (∀ k acc ρ2, k ≤ n → I k acc ρ2 → ok ρ2) ∧
  (∀ k d acc ρ2, k < n → it k d → I k acc ρ2 → rt (ρ2.set i (.v d)) fun b ρ3 => if b = true then re ρ3 (kD fun x ρ4 => I (k + 1) (acc ++ [x]) (ρ4.set i .un)) else I (k + 1) acc (ρ3.set i .un)) ∧
  (∀ acc ρ2, I n acc ρ2 → Q acc ρ2)
/-- a slot forgotten -/
theorem Sta.forget {K : PySem.W.Frag} {ρ : En} {σ σ' : L2.St} {H : Hp} (S : Sta K B M ρ σ H) (i : Nat) (hl : σ'.length = σ.length) (hσ : ∀ j, j ≠ i → σ'[j]? = σ[j]?) : Sta K B M (ρ.set i .un) σ' H := by
  have look : ∀ {j : Nat} {q fs}, (ρ.set i Slot.un)[j]? = some (Slot.own q fs) → j ≠ i ∧ ρ[j]? = some (Slot.own q fs) := fun {j q fs} h => by
    by_cases hj : j = i
    · subst hj
      have hlt : j < (ρ.set j Slot.un).length := (List.getElem?_eq_some_iff.mp h).1
      rw [List.length_set] at hlt
      rw [List.getElem?_set_self hlt] at h
      cases h
    · rw [List.getElem?_set_ne (Ne.symm hj)] at h
      exact ⟨hj, h⟩
  refine ⟨S.frm, fun j s ej => ?_, fun j k q q' fs gs ej ek => S.dis j k q q' fs gs (look ej).2 (look ek).2, fun j q fs ej => S.new j q fs (look ej).2, S.mh, fun j P q h => by rw [hl]; exact S.tbi j P q (tab_set h fun _ _ z => by cases z)⟩
  by_cases hj : j = i
  · subst hj
    have hlt : j < (ρ.set j Slot.un).length := (List.getElem?_eq_some_iff.mp ej).1
    rw [List.length_set] at hlt
    rw [List.getElem?_set_self hlt] at ej
    cases ej
    exact trivial
  · rw [List.getElem?_set_ne (Ne.symm hj)] at ej
    rw [hσ j hj]
    exact S.ok j s ej
theorem wipe1 (σ : L2.St) (i : Nat) : wipe σ [i] = σ.set i none := rfl
theorem own_forget {ρ ρ' : En} {i : Nat} (h : OwnEq ρ ρ') (hi : ∀ p ds, ρ[i]? ≠ some (.own p ds)) : OwnEq ρ (ρ'.set i .un) := fun j p ds e => by
  have hj : j ≠ i := fun z => hi p ds (z ▸ e)
  obtain ⟨ds', h'⟩ := h j p ds e
  exact ⟨ds', by rw [List.getElem?_set_ne (Ne.symm hj)]; exact h'⟩
end
end N
/-! N5 -/
set_option Elab.async false
set_option linter.all false
set_option maxRecDepth 100000
set_option maxHeartbeats 1000000
/-! N5: comprehensions. -/
namespace N
open PySem PySem.Spec PyProof.Rows L2
/-- the addresses of the lists that slots own -/
def ownL : En → List Addr
  | [] => []
  | .own p _ :: r => p :: ownL r
  | _ :: r => ownL r
theorem mem_ownL : ∀ {ρ : En} {q : Addr}, q ∈ ownL ρ ↔ ∃ (i : Nat) (ds : List D), ρ[i]? = some (Slot.own q ds)
  | [], q => by simp [ownL]
  | s :: r, q => by
    have ih := mem_ownL (ρ := r) (q := q)
    constructor
    · intro h
      cases s with
      | own p ds =>
        rcases List.mem_cons.mp h with e | h
        · exact ⟨0, ds, by rw [e]; rfl⟩
        · obtain ⟨i, fs, e⟩ := ih.mp h
          exact ⟨i + 1, fs, by simpa using e⟩
      | un =>
        obtain ⟨i, fs, e⟩ := ih.mp h
        exact ⟨i + 1, fs, by simpa using e⟩
      | v d =>
        obtain ⟨i, fs, e⟩ := ih.mp h
        exact ⟨i + 1, fs, by simpa using e⟩
      | tab P q =>
        obtain ⟨i, fs, e⟩ := ih.mp h
        exact ⟨i + 1, fs, by simpa using e⟩
    · rintro ⟨i, fs, e⟩
      cases i with
      | zero =>
        have e' : s = .own q fs := by simpa using e
        rw [e']
        exact List.mem_cons_self
      | succ i =>
        have h : q ∈ ownL r := ih.mpr ⟨i, fs, by simpa using e⟩
        cases s with
        | own p ds => exact List.mem_cons_of_mem _ h
        | un => exact h
        | v d => exact h
        | tab P q => exact h
section
variable {K : PySem.W.Frag} {B : Hp} {M : List Addr} {ρ ρ' : En} {σ σ' : L2.St} {H H' : Hp}
/-- the same state, seen from here on -/
theorem Sta.rebase (S : Sta K B M ρ σ H) : Sta K H (ownL ρ ++ M) ρ σ H where
  frm := Frm.refl _ _
  ok := S.ok
  dis := S.dis
  new := fun i p ds e => .inr (List.mem_append_left _ (mem_ownL.mpr ⟨i, ds, e⟩))
  mh := fun p hp => by
    rcases List.mem_append.mp hp with h | h
    · obtain ⟨i, ds, e⟩ := mem_ownL.mp h
      obtain ⟨vs, h, _⟩ := S.own_at e
      exact ⟨_, h⟩
    · exact S.mh p h
  tbi := S.tbi
/-- and back -/
theorem Sta.unbase (S : Sta K B M ρ σ H) (S' : Sta K H (ownL ρ ++ M) ρ' σ' H') : Sta K B M ρ' σ' H' := by
  have own_new : ∀ p, p ∈ ownL ρ → B p = none ∨ p ∈ M := fun p hp => by
    obtain ⟨i, ds, e⟩ := mem_ownL.mp hp
    exact S.new i p ds e
  refine ⟨fun b o hb im => ?_, S'.ok, S'.dis, fun i p ds e => ?_, fun p hp => ?_, S'.tbi⟩
  · have h1 := S.frm b o hb im
    rcases im with im | im
    · exact S'.frm b o h1 (.inl im)
    · by_cases hm : b ∈ ownL ρ ++ M
      · rcases List.mem_append.mp hm with h | h
        · rcases own_new b h with z | z
          · rw [hb] at z
            cases z
          · exact absurd z im
        · exact absurd h im
      · exact S'.frm b o h1 (.inr hm)
  · rcases S'.new i p ds e with h | h
    · exact .inl (S.fresh_B h)
    · rcases List.mem_append.mp h with h | h
      · exact own_new p h
      · exact .inr h
  · exact S'.mh p (List.mem_append_right _ hp)
end
section
variable {X : Cx} {B : Hp} {M : List Addr} {e a b c : Expr} {es : List Expr} {pos : Pos}
theorem lc_imp {i : Nat} {ri : RI} {rt : RT} {re : RE} {te : TE} {tt : TT} (him : MonoI ri) (mt : MonoT rt) (me : MonoE re) (ht : ∀ B' M' σ H Q, tDT X.K B' M' rt σ H Q → tt σ H Q) (he : ∀ B' M' σ H Q, tD X.K B' M' re σ H Q → te σ H Q)
    {σ : L2.St} {H : Hp} {ρ : En} {Q : VK} (S : Sta X.K B M ρ σ H) (hun : ∀ p ds, ρ[i]? ≠ some (.own p ds)) (q : rLc i ri rt re ρ (kN X.K B M ρ σ H Q)) :
    tLc (fun σ H R => ∃ ρ, Sta X.K B M ρ σ H ∧ ri ρ fun n it ok ρ1 => ∀ J H1, Keep H H1 → OwnEq ρ ρ1 → Sta X.K B M ρ1 σ H1 → Walks X.K B M H1 J n it ok → R J H1) (gName i) tt te [i] σ H Q := by
  refine ⟨ρ, S, him ρ _ _ (fun n it okk ρ1 ⟨hn, I, i0, iok, istep, iend⟩ => ?_) q⟩
  intro J H1 k1 o1 S1 wk A nA
  have hσ : ∀ (τ : L2.St) (j : Nat), j ≠ i → (τ.set i none)[j]? = τ[j]? := fun τ j hj => List.getElem?_set_ne (Ne.symm hj)
  have smD : Same H1 (upd H1 A (.lst [])) := same_upd nA
  have nM : A ∉ M := fun h => by
    obtain ⟨o, ho⟩ := S1.mh A h
    rw [nA] at ho
    cases ho
  have nB : B A = none := S1.fresh_B nA
  have unS : ∀ (τ : En), i < τ.length → (τ.set i Slot.un)[i]? = some Slot.un := fun τ h => List.getElem?_set_self h
  have hiσ : ∀ {τ : En} {s : Slot}, (τ.set i s)[i]? = none ∨ i < τ.length := fun {τ s} => by
    by_cases h : i < τ.length
    · exact .inr h
    · exact .inl (List.getElem?_eq_none_iff.mpr (by rw [List.length_set]; omega))
  have end_ : ∀ {acc : List D} {ρ2 : En} {H' : Hp} {vs : List V}, (∀ s, ρ2[i]? = some s → s = .un) → Sta X.K B M ρ2 (wipe σ [i]) H' → Sta X.K B M ρ2 σ H' := fun {acc ρ2 H' vs} eu S2 => by
    refine ⟨S2.frm, fun j s ej => ?_, S2.dis, S2.new, S2.mh, fun j P q e => by have := S2.tbi j P q e; rw [wipe_length] at this; exact this⟩
    have h2 := S2.ok j s ej
    by_cases hj : j = i
    · rw [hj] at ej
      rw [eu s ej]
      exact trivial
    · rw [wipe1, hσ σ j hj] at h2
      exact h2
  let Inv' : Nat → Hp → Prop := fun k H' => k ≤ n ∧ ∃ acc ρ2, I k acc ρ2 ∧ (∀ s, ρ2[i]? = some s → s = .un) ∧ Keep H1 H' ∧ OwnEq ρ ρ2 ∧ Sta X.K B M ρ2 (wipe σ [i]) H' ∧ NewAt X.K B ρ2 H' A acc ∧ acc.length ≤ k
  have unOnly : ∀ (τ : En) s, (τ.set i Slot.un)[i]? = some s → s = .un := fun τ s h => by
    have hlt : i < (τ.set i Slot.un).length := (List.getElem?_eq_some_iff.mp h).1
    rw [List.length_set] at hlt
    rw [List.getElem?_set_self hlt] at h
    cases h
    rfl
  have start0 : Inv' 0 (upd H1 A (.lst [])) := by
    have S2 : Sta X.K B M (ρ1.set i .un) (wipe σ [i]) H1 := S1.forget i (by rw [wipe_length]) (hσ σ)
    obtain ⟨S3, n3⟩ := NewAt.laid S2 nA (ds := []) (vs := []) rfl
    exact ⟨Nat.zero_le _, [], _, i0, unOnly ρ1, Keep.of smD, own_forget o1 hun, S3, n3, Nat.le_refl _⟩
  refine ⟨fun k m H' => m = n - k ∧ Inv' k H', ⟨n, rfl, start0⟩, ?_⟩
  rintro k m H' ⟨rfl, hk, acc, ρ2, ik, eu, kk, oo, S2, nw, hl⟩
  have ok2 := iok k acc ρ2 hk ik
  by_cases hlt : k < n
  · refine .inr ⟨wk.go k ρ2 _ H' kk S2 ok2 hlt, Inv' (k + 1), fun H'' h => ⟨n - (k + 1), by omega, rfl, h⟩, fun x H3 y => ?_⟩
    obtain ⟨sm, d, hit, rd⟩ := wk.yld k ρ2 _ H' x H3 kk S2 ok2 hlt y
    have S3 := (S2.same sm).put (i := i) rd
    refine ⟨by show wipe ((wipe σ [i]).set i (some x)) [i] = wipe σ [i]; rw [wipe1, wipe1, List.set_set, List.set_set], ?_⟩
    have kk3 := kk.trans (Keep.of sm)
    obtain ⟨vs, hD, rD⟩ := nw.at_
    have hD3 : H3 A = some (.lst vs) := sm _ _ hD
    have ow3 : OwnEq ρ (ρ2.set i (.v d)) := fun j p ds h => by
      obtain ⟨ds', h'⟩ := oo j p ds h
      have hj : j ≠ i := fun z => hun p ds (z ▸ h)
      exact ⟨ds', by rw [List.getElem?_set_ne (Ne.symm hj)]; exact h'⟩
    have nown : ∀ {ρ3 : En}, (∀ q ∈ ownL ρ3, q ≠ A) → ∀ (j : Nat) q es, ρ3[j]? = some (Slot.own q es) → q ≠ A := fun {ρ3} h j q es e => h q (mem_ownL.mpr ⟨j, es, e⟩)
    have nD2 : A ∉ ownL (ρ2.set i (Slot.v d)) ++ M := fun h => by
      rcases List.mem_append.mp h with h | h
      · obtain ⟨j, es, e⟩ := mem_ownL.mp h
        by_cases hj : j = i
        · rw [hj] at e
          have hlt : i < (ρ2.set i (Slot.v d)).length := (List.getElem?_eq_some_iff.mp e).1
          rw [List.length_set] at hlt
          rw [List.getElem?_set_self hlt] at e
          cases e
        · rw [List.getElem?_set_ne (Ne.symm hj)] at e
          exact nw.nO j A es e rfl
      · exact nM h
    have S3b := Sta.rebase S3
    -- what a part leaves: the list under construction stands
    have left : ∀ {ρ4 : En} {H4 : Hp}, Sta X.K H3 (ownL (ρ2.set i (Slot.v d)) ++ M) ρ4 ((wipe σ [i]).set i (some x)) H4 → OwnEq (ρ2.set i (.v d)) ρ4 → Keep H3 H4 →
        Sta X.K B M (ρ4.set i .un) (wipe σ [i]) H4 ∧ NewAt X.K B (ρ4.set i .un) H4 A acc ∧ OwnEq ρ (ρ4.set i .un) ∧ H4 A = some (.lst vs) ∧ RepL X.K H4 acc vs := fun {ρ4 H4} S4 o4 k4 => by
      have S5 := Sta.unbase S3 S4
      have S6 : Sta X.K B M (ρ4.set i .un) (wipe σ [i]) H4 := S5.forget i (by rw [List.length_set]) (fun j hj => by rw [List.getElem?_set_ne (Ne.symm hj)])
      have hA4 : H4 A = some (.lst vs) := S4.frm A _ hD3 (.inr nD2)
      have rA4 := RepL.keep ((Keep.of sm).trans k4) acc rD
      refine ⟨S6, ⟨⟨vs, hA4, rA4⟩, nB, fun j q es e z => ?_⟩, own_forget (ow3.trans o4) hun, hA4, rA4⟩
      by_cases hj : j = i
      · rw [hj] at e
        have := unOnly ρ4 _ e
        cases this
      · rw [List.getElem?_set_ne (Ne.symm hj)] at e
        rcases S4.new j q es e with h | h
        · rw [z, hD3] at h
          cases h
        · exact nD2 (z ▸ h)
    refine ht _ _ _ _ _ (intoT mt S3b (istep k d acc ρ2 hlt hit ik) fun b ρ3 H4 q3 k4 o4 S4 => ?_)
    cases b with
    | false =>
      obtain ⟨S6, n6, o6, _, _⟩ := left S4 o4 k4
      exact ⟨hlt, acc, _, q3, unOnly ρ3, kk3.trans k4, o6, S6, n6, by omega⟩
    | true =>
      refine he _ _ _ _ _ ⟨ρ3, S4, me ρ3 _ _ (fun w ρ4 hh => ?_) q3⟩
      obtain ⟨x, ew, i4⟩ := kD.el hh
      subst ew
      intro v H5 k5 o5 S5 r5
      obtain ⟨S6, n6, o6, hA, rA⟩ := left S5 (o4.trans o5) (k4.trans k5)
      refine ⟨vs, hA, ?_, ?_⟩
      · rw [RepL.length rA, sizeLine_eq]
        omega
      · have kA : Keep H5 (upd H5 A (.lst (vs ++ [v]))) := Sta.keep_mut (i := 0) hA
        have S7 : Sta X.K B M (ρ4.set i .un) (wipe σ [i]) (upd H5 A (.lst (vs ++ [v]))) := by
          refine ⟨fun b o hb im => ?_, fun j s ej => ?_, S6.dis, S6.new, fun p hp => ?_, S6.tbi⟩
          · have hb2 : b ≠ A := fun z => by
              rw [z, nB] at hb
              cases hb
            rw [upd_ne hb2]
            exact S6.frm b o hb im
          · refine SlotOk.keep kA (fun q fs es => ?_) (fun P q et => by
              subst et
              exact tab_upd hA (S6.ok j _ ej)) (S6.ok j s ej)
            subst es
            obtain ⟨_, us, hu, ru⟩ := S6.ok j _ ej
            exact ⟨us, by rw [upd_ne (n6.nO j q fs ej)]; exact hu, RepL.keep kA fs ru⟩
          · have hb2 : p ≠ A := fun z => nM (z ▸ hp)
            rw [upd_ne hb2]
            exact S6.mh p hp
        exact ⟨hlt, acc ++ [x], _, i4, unOnly ρ4, ((kk3.trans k4).trans k5).trans kA, o6, S7, ⟨⟨vs ++ [v], upd_same, RepL.keep kA _ (RepL.snoc rA r5)⟩, nB, n6.nO⟩, by rw [List.length_append, List.length_singleton]; omega⟩
  · have e : k = n := by omega
    subst e
    exact .inl ⟨wk.stop ρ2 _ H' kk S2 ok2, iend acc ρ2 ik A H' (k1.trans kk) oo (end_ (acc := acc) (vs := []) eu S2) nw⟩
/-- that slot i owns nothing -/
def free (i : Nat) (ρ : En) : Prop := match ρ[i]? with
  | some (.own _ _) => False
  | _ => True
theorem free_of {i : Nat} {ρ : En} (h : free i ρ) : ∀ p ds, ρ[i]? ≠ some (Slot.own p ds) := fun p ds e => by
  unfold free at h
  rw [e] at h
  exact h
def rLcF (i : Nat) (ri : RI) (rt : RT) (re : RE) : RN := fun ρ Q => free i ρ ∧ rLc i ri rt re ρ Q
theorem mo_rLc {i : Nat} {ri : RI} {rt : RT} {re : RE} (hi : MonoI ri) : MonoN (rLcF i ri rt re) := fun ρ P P' w ⟨z, q⟩ => ⟨z, hi ρ _ _ (fun n it ok ρ1 ⟨hn, I, h0, h1, h2, h3⟩ => ⟨hn, I, h0, h1, h2, fun acc ρ2 h => w _ _ (h3 acc ρ2 h)⟩) q⟩
/-- [e for x in it if t] -/
theorem dn_lc {x : Str} {px : Pos} {elt iter : Expr} {ifs : List Expr} {scope : Scope} {i : Nat} {ri : RI} {rt : RT} {re : RE} (hN : X.N.Nodup) (hi : DI X B M (.Name x px) iter ri) (ok : BlkOk X.N X.env.scope scope [(x, i)])
    (ht : ∀ (B' : Hp) (M' : List Addr) (s : Shared) (H : Hp) (C : Addr) (cl : List (Str × Addr)) (fp : List Addr), DTs (X.blk s H scope (compEnvC scope cl C X.env) fp) B' M' ifs rt)
    (he : ∀ (B' : Hp) (M' : List Addr) (s : Shared) (H : Hp) (C : Addr) (cl : List (Str × Addr)) (fp : List Addr), DE (X.blk s H scope (compEnvC scope cl C X.env) fp) B' M' elt re)
    (hg : ∀ (s : Shared) (H : Hp) (C : Addr) (cl : List (Str × Addr)) (fp : List Addr), PG (X.blk s H scope (compEnvC scope cl C X.env) fp) (.Name x px) (gName i))
    (hc : X.calm = true := by rfl) (hs : ∀ x, foldedSetIterable iter X.env x = pure x := by intro _; rfl) :
    DN X B M (.ListComp elt [⟨.Name x px, iter, ifs, 0⟩] scope pos) (rLcF i ri rt re) := by
  have mt : MonoT rt := (ht B M X.s_0 (fun _ => none) 0 [] []).mo
  have me : MonoE re := (he B M X.s_0 (fun _ => none) 0 [] []).mo
  refine DN.mk' (pe_lc (own := [(x, i)]) (g := gName i) (tt := fun σ H Q => ∃ B' M', tDT X.K B' M' rt σ H Q) (te := fun σ H Q => ∃ B' M', tD X.K B' M' re σ H Q) hc hN hi.pi ok hg
    (fun s H C cl fp => ⟨fun pins s' σ H' Q I ⟨B', M', q⟩ => (ht B' M' s H C cl fp).pts.run pins s' σ H' Q I q⟩) (fun s H C cl fp => ⟨fun pins s' σ H' Q I ⟨B', M', q⟩ => (he B' M' s H C cl fp).pe.run pins s' σ H' Q I q⟩) hs) (mo_rLc hi.mo) fun σ H Q ρ S ⟨z, q⟩ => ?_
  exact lc_imp hi.mo mt me (fun B' M' σ H Q h => ⟨B', M', h⟩) (fun B' M' σ H Q h => ⟨B', M', h⟩) S (free_of z) q
theorem ds_setLcO {j : Nat} {y : Str} {py : Pos} {x : Str} {px : Pos} {elt iter : Expr} {ifs : List Expr} {scope : Scope} {i : Nat} {ri : RI} {rt : RT} {re : RE} {spos : Pos} (hN : X.N.Nodup) (hi : DI X B M (.Name x px) iter ri) (ok : BlkOk X.N X.env.scope scope [(x, i)])
    (ht : ∀ (B' : Hp) (M' : List Addr) (s : Shared) (H : Hp) (C : Addr) (cl : List (Str × Addr)) (fp : List Addr), DTs (X.blk s H scope (compEnvC scope cl C X.env) fp) B' M' ifs rt)
    (he : ∀ (B' : Hp) (M' : List Addr) (s : Shared) (H : Hp) (C : Addr) (cl : List (Str × Addr)) (fp : List Addr), DE (X.blk s H scope (compEnvC scope cl C X.env) fp) B' M' elt re)
    (hg : ∀ (s : Shared) (H : Hp) (C : Addr) (cl : List (Str × Addr)) (fp : List Addr), PG (X.blk s H scope (compEnvC scope cl C X.env) fp) (.Name x px) (gName i))
    (hsw : swapsWith (.ListComp elt [⟨.Name x px, iter, ifs, 0⟩] scope pos) (some (.Name y py)) spos.line X.env = pure true)
    (hy : X.N[j]? = some y := by rfl) (hyl : X.env.scope.names.lookup y = some .local := by rfl) (hc : X.calm = true := by rfl) (hs : ∀ x, foldedSetIterable iter X.env x = pure x := by intro _; rfl) :
    DS X B M (.Assign [.Name y py] (.ListComp elt [⟨.Name x px, iter, ifs, 0⟩] scope pos) spos) (rAsgO j (rLcF i ri rt re)) := by
  have mt : MonoT rt := (ht B M X.s_0 (fun _ => none) 0 [] []).mo
  have me : MonoE re := (he B M X.s_0 (fun _ => none) 0 [] []).mo
  refine DS.mk' (ps_setLc (i := j) (own := [(x, i)]) (g := gName i) (tt := fun σ H Q => ∃ B' M', tDT X.K B' M' rt σ H Q) (te := fun σ H Q => ∃ B' M', tD X.K B' M' re σ H Q) hc hN hy hyl hsw hi.pi ok hg
    (fun s H C cl fp => ⟨fun pins s' σ H' Q I ⟨B', M', q⟩ => (ht B' M' s H C cl fp).pts.run pins s' σ H' Q I q⟩) (fun s H C cl fp => ⟨fun pins s' σ H' Q I ⟨B', M', q⟩ => (he B' M' s H C cl fp).pe.run pins s' σ H' Q I q⟩) hs) fun D σ H ρ en S ⟨z, q⟩ okk => ?_
  refine lc_imp hi.mo mt me (fun B' M' σ H Q h => ⟨B', M', h⟩) (fun B' M' σ H Q h => ⟨B', M', h⟩) S (free_of z) (hi.mo ρ _ _ (fun n it ok ρ1 ⟨hn, I, h0, h1, h2, h3⟩ => ⟨hn, I, h0, h1, h2, fun acc ρ2 h => ?_⟩) q)
  intro p H1 k1 o1 S1 n1
  obtain ⟨vs, hp, rr⟩ := n1.at_
  exact okk.nx _ _ H1 k1 (S1.putO hp rr n1.nB n1.nO) (h3 acc ρ2 h p)
/-- the same, its value data -/
theorem ds_setLc {j : Nat} {y : Str} {py : Pos} {x : Str} {px : Pos} {elt iter : Expr} {ifs : List Expr} {scope : Scope} {i : Nat} {ri : RI} {rt : RT} {re : RE} {spos : Pos} {sts : List Stmt} {r2 : RS}
    (h : DS X B M (.Assign [.Name y py] (.ListComp elt [⟨.Name x px, iter, ifs, 0⟩] scope pos) spos) (rAsgO j (rLcF i ri rt re))) (h2 : DSs X B M sts r2) :
    DSs X B M (.Assign [.Name y py] (.ListComp elt [⟨.Name x px, iter, ifs, 0⟩] scope pos) spos :: sts) (rSeq (rAsgO j (rLcF i ri rt re)) (rLock j r2)) := ds_cons h (ds_lock j h2)
end
end N
/-! N6 -/
set_option Elab.async false
set_option linter.all false
set_option maxRecDepth 100000
set_option maxHeartbeats 1000000
/-! N6: types, identity, membership, equality of lists, slices, further methods, raise. -/
namespace N
open PySem PySem.Spec PyProof.Rows L2
/-! ### types -/
theorem bt_bool : bootBuiltins "bool" = some (.type "bool") := by decide +kernel
theorem bt_str : bootBuiltins "str" = some (.type "str") := by decide +kernel
theorem bt_list : bootBuiltins "list" = some (.type "list") := by decide +kernel
theorem bt_tuple : bootBuiltins "tuple" = some (.type "tuple") := by decide +kernel
theorem bt_dict : bootBuiltins "dict" = some (.type "dict") := by decide +kernel
inductive T7 where
  | non | bl | int | str | tup | lst | dic
  deriving DecidableEq
def T7.nm : T7 → String
  | .non => "NoneType" | .bl => "bool" | .int => "int" | .str => "str" | .tup => "tuple" | .lst => "list" | .dic => "dict"
/-- isinstance over these -/
def isa : T7 → T7 → Bool
  | .bl, .int => true
  | .non, .non | .bl, .bl | .int, .int | .str, .str | .tup, .tup | .lst, .lst | .dic, .dic => true
  | _, _ => false
theorem isa_ok (a b : T7) : kitB a.nm b.nm = some (isa a b) := by
  cases a <;> cases b <;> decide +kernel
def ty7 : D → Option T7
  | .non => some .non | .bl _ => some .bl | .int _ => some .int | .str _ => some .str | .tup _ => some .tup | .lst _ => some .lst | .dic _ => some .dic
  | _ => none
def tyW : W → Option T7
  | .d x => ty7 x
  | .o _ => some .lst
section
variable {K : PySem.W.Frag} {B H : Hp} {M : List Addr} {ρ : En} {σ : L2.St}
theorem tyx_of (S : Sta K B M ρ σ H) {w : W} {v : V} {t : T7} (r : WOk K H ρ w v) (h : tyW w = some t) : TyX K H v (.type t.nm) := by
  cases w with
  | o i =>
    cases h
    obtain ⟨p, ds, e, rfl⟩ := r
    obtain ⟨vs, hp, _⟩ := S.own_at e
    exact .base (.lst hp)
  | d x =>
    cases x with
    | non => cases h; rw [show v = _ from r]; exact .base .non
    | bl b => cases h; rw [show v = _ from r]; exact .base (.bl b)
    | int b => cases h; rw [show v = _ from r]; exact .base (.int b)
    | str b => cases h; rw [show v = _ from r]; exact .base (.str b)
    | tup ds =>
      cases h
      obtain ⟨a, vs, rfl, s, _⟩ := r
      rcases s with ⟨o, _, s⟩ | ⟨o, its, n, _, s, c, _⟩
      · exact .fTuple s
      · exact .kTuple s c
    | lst ds =>
      cases h
      obtain ⟨a, vs, rfl, ⟨o, s⟩, _⟩ := r
      exact .base (.frz s)
    | dic kvs =>
      cases h
      obtain ⟨a, rfl, o, c, s⟩ := r
      exact .fDict s
    | _ => cases h
end
section
variable {X : Cx} {B : Hp} {M : List Addr} {e a b c : Expr} {es : List Expr} {pos : Pos}
/-- a built-in type, named -/
theorem de_ty {x : Str} {n : String} (hm : X.mg x = none) (hv : bootBuiltins x = some (.type n)) (hg : Gl X x := by rfl) (hn : x ≠ "__name__" := by decide) (hd : (x == ("__debug__" : Str)) = false := by decide) : DE X B M (.Name x pos) (rC (.ty n)) :=
  DE.mk' (pe_bltn (v := .ty n) hg hm hv rfl hn hd) mo_rC fun σ H Q ρ S q => q _ H (Keep.refl _) (OwnEq.refl _) S rfl
/-- a class, a def of the module, as a value -/
theorem de_obj {x : Str} {A : Addr} (hm : X.mg x = some (.ref A)) (hg : Gl X x := by rfl) (hd : (x == ("__debug__" : Str)) = false := by decide) : DE X B M (.Name x pos) (rC (.obj A)) :=
  DE.mk' (pe_glob (v := .ref A) hg hm rfl hd) mo_rC fun σ H Q ρ S q => q _ H (Keep.refl _) (OwnEq.refl _) S rfl
def t7 (n : String) : Option T7 := if n = "int" then some .int else if n = "bool" then some .bl else if n = "str" then some .str else if n = "list" then some .lst else if n = "tuple" then some .tup else if n = "dict" then some .dic else none
theorem t7_nm {n : String} {t : T7} (h : t7 n = some t) : t.nm = n := by
  unfold t7 at h
  repeat (split at h; · rename_i e; cases h; exact e.symm)
  cases h
def isiW (ws : List W) : Option Bool := match ws with
  | [w, .d (.ty u)] => (match tyW w, t7 u with
    | some t, some t' => some (isa t t')
    | _, _ => none)
  | _ => none
def oIsi : OA := fun ws ρ P => match isiW ws with
  | some b => P (.bl b)
  | none => False
theorem oIsi.el {ws : List W} {ρ : En} {P : D → Prop} (h : oIsi ws ρ P) : ∃ w t u, ws = [w, .d (.ty u)] ∧ tyW w = some t ∧ (∃ t' : T7, t'.nm = u ∧ P (.bl (isa t t'))) := by
  unfold oIsi at h
  cases e : isiW ws with
  | none => rw [e] at h; exact h.elim
  | some b =>
    rw [e] at h
    unfold isiW at e
    split at e
    · rename_i w u
      split at e
      · rename_i t t' e1 e2
        cases e
        exact ⟨w, t, u, rfl, e1, t', t7_nm e2, h⟩
      · cases e
    · cases e
theorem mo_oIsi : MonoOA oIsi := fun ws ρ P P' h q => by
  unfold oIsi at q ⊢
  cases e : isiW ws with
  | none => rw [e] at q; exact q.elim
  | some b => rw [e] at q; exact h _ q
theorem de_isi {p : Pos} {ra : RA} (hm : X.mg "isinstance" = none) (ha : DA X B M (a :: es) ra) (hg : Gl X "isinstance" := by rfl)
    (he : starEach (a :: es) X.env = (false, eval a X.env) :: starEach es X.env := by rfl) (hpl : (backTo pos (starEach es X.env)).any (·.1) = false := by rfl) : DE X B M (.Call (.Name "isinstance" p) (a :: es) [] pos) (rA ra oIsi) :=
  de_callB call_isi (fun B M ρ σ H ws xs Q P S r hh q => by
    obtain ⟨w, t, u, e1, e2, t', e3, pp⟩ := hh.el
    subst e1 e3
    obtain ⟨v, vr, rfl, r1, v2, vr2, rfl, r2, r3⟩ := r
    obtain rfl : vr2 = [] := r3
    obtain rfl : v2 = V.ty t'.nm := r2
    exact ⟨v, .ty t'.nm, _, _, _, rfl, .ty _, tyx_of S r1 e2, kit_ty (isa_ok t t'), q _ _ H pp (Same.refl _) rfl⟩) mo_oIsi hg hm (by decide +kernel) ha (by decide) (by decide) he hpl
theorem call_isiT' : CallR X (.builtin "isinstance") (fun xs H Q => ∃ (x : V) (tp : Addr) (cs : List V) (t : Value) (us : List Value) (b : Bool), xs = [x, .ref tp] ∧ SqT X.K H tp cs ∧ Paired ClsV cs us ∧ TyX X.K H x t ∧ PySem.W.kitAny X.K t us = some b ∧ Q (.bl b) H) := by
  intro pins s σ H xs us Q I r h
  obtain ⟨x, tp, cs, t, ws, b, rfl, hT, k, ty, e, q⟩ := h
  obtain ⟨u1, u2, rfl, r1, r2⟩ := vals2 r
  cases (show u2 = Value.ref tp from r2)
  obtain ⟨P, Z, p, hx⟩ := kit_of I r1 ty
  obtain ⟨its, rv, ⟨o, h1, h2, n, h3⟩, _⟩ := I.tuple hT
  have e3 := ClsV.all k rv
  subst e3
  obtain ⟨oc, od, dt, sl⟩ := o
  simp only at h2 h3
  subst h2 h3
  exact PySem.W.kia_tup Z I.kIn p h1 e hx fun tk => ⟨.bl b, H, I.tok tk, rfl, q⟩
def isiW2 (ws : List W) : Option Bool := match ws with
  | [w, .d (.tup [.ty u1, .ty u2])] => (match tyW w, t7 u1, t7 u2 with
    | some t, some t1, some t2 => some (isa t t1 || isa t t2)
    | _, _, _ => none)
  | _ => none
def oIsi2 : OA := fun ws ρ P => match isiW2 ws with
  | some b => P (.bl b)
  | none => False
theorem oIsi2.el {ws : List W} {ρ : En} {P : D → Prop} (h : oIsi2 ws ρ P) : ∃ w t u1 u2, ws = [w, .d (.tup [.ty u1, .ty u2])] ∧ tyW w = some t ∧ (∃ t1 t2 : T7, t1.nm = u1 ∧ t2.nm = u2 ∧ P (.bl (isa t t1 || isa t t2))) := by
  unfold oIsi2 at h
  cases e : isiW2 ws with
  | none => rw [e] at h; exact h.elim
  | some b =>
    rw [e] at h
    unfold isiW2 at e
    split at e
    · rename_i w u1 u2
      split at e
      · rename_i t t1 t2 e1 e2 e3
        cases e
        exact ⟨w, t, u1, u2, rfl, e1, t1, t2, t7_nm e2, t7_nm e3, h⟩
      · cases e
    · cases e
theorem mo_oIsi2 : MonoOA oIsi2 := fun ws ρ P P' h q => by
  unfold oIsi2 at q ⊢
  cases e : isiW2 ws with
  | none => rw [e] at q; exact q.elim
  | some b => rw [e] at q; exact h _ q
theorem de_isi2 {p : Pos} {ra : RA} (hm : X.mg "isinstance" = none) (ha : DA X B M (a :: es) ra) (hg : Gl X "isinstance" := by rfl)
    (he : starEach (a :: es) X.env = (false, eval a X.env) :: starEach es X.env := by rfl) (hpl : (backTo pos (starEach es X.env)).any (·.1) = false := by rfl) : DE X B M (.Call (.Name "isinstance" p) (a :: es) [] pos) (rA ra oIsi2) :=
  de_callB call_isiT' (fun B M ρ σ H ws xs Q P S r hh q => by
    obtain ⟨w, t, u1, u2, e1, e2, t1, t2, e3, e4, pp⟩ := hh.el
    subst e1 e3 e4
    obtain ⟨v, vr, rfl, r1, v2, vr2, rfl, r2, r3⟩ := r
    obtain rfl : vr2 = [] := r3
    obtain ⟨a, vs, rfl, hT, c1, cr, rfl, s1, c2, cr2, rfl, s2, s3⟩ := r2
    obtain rfl : cr2 = [] := s3
    obtain rfl : c1 = V.ty t1.nm := s1
    obtain rfl : c2 = V.ty t2.nm := s2
    refine ⟨v, a, _, _, [.type t1.nm, .type t2.nm], _, rfl, TpN.sq hT, .cons (.ty _) (.cons (.ty _) .nil), tyx_of S r1 e2, kitAny_cons (kit_ty (isa_ok t t1)) (fun h => kitAny_cons (kit_ty (isa_ok t t2)) (fun h2 => ?_) (fun h2 => ?_)) (fun h => ?_), q _ _ H pp (Same.refl _) rfl⟩
    · rw [h, h2]; rfl
    · rw [h, h2]; rfl
    · rw [h]; rfl) mo_oIsi2 hg hm (by decide +kernel) ha (by decide) (by decide) he hpl
/-! ### is None, is True -/
def nonW : W → Bool
  | .d .non => true
  | _ => false
theorem nonW_ok {K : PySem.W.Frag} {H : Hp} {ρ : En} {w : W} {v : V} (r : WOk K H ρ w v) : decide (v = V.non) = nonW w := by
  cases w with
  | o i =>
    obtain ⟨p, ds, e, rfl⟩ := r
    rfl
  | d x =>
    cases x with
    | tup ds => obtain ⟨a, vs, rfl, _⟩ := r; rfl
    | lst ds => obtain ⟨a, vs, rfl, _⟩ := r; rfl
    | dic ds => obtain ⟨a, rfl, _⟩ := r; rfl
    | ins C n ds => obtain ⟨a, dx, fs, rfl, _⟩ := r; rfl
    | _ => rw [show v = _ from r]; rfl
def r1 (ra : RE) (o : W → D) : RE := fun ρ Q => ra ρ fun w ρ1 => Q (.d (o w)) ρ1
theorem mo_r1 {ra : RE} {o : W → D} (ha : MonoE ra) : MonoE (r1 ra o) := fun ρ P P' w q => ha ρ _ _ (fun _ _ q => w _ _ q) q
theorem de_isN {j pos'} {ra : RE} (ha : DE X B M a ra) : DE X B M (.Compare a [.Is] [.Constant .none j pos'] pos) (r1 ra fun w => .bl (nonW w)) :=
  DE.mk' (pe_cmp (pc_isN ha.pe)) (mo_r1 ha.mo) fun σ H Q ρ S q => into ha S q fun w ρ1 v H1 p k o S1 r => p _ H1 k o S1 (by rw [nonW_ok r]; rfl)
theorem de_notN {j pos'} {ra : RE} (ha : DE X B M a ra) : DE X B M (.Compare a [.IsNot] [.Constant .none j pos'] pos) (r1 ra fun w => .bl (!nonW w)) :=
  DE.mk' (pe_cmp (pc_notN ha.pe)) (mo_r1 ha.mo) fun σ H Q ρ S q => into ha S q fun w ρ1 v H1 p k o S1 r => p _ H1 k o S1 (by rw [nonW_ok r]; rfl)
theorem dt_cmpv {op : CmpOp} {ra : RE} (h : DE X B M (.Compare a [op] [b] pos) ra) (pc : PC X op a b (tD X.K B M ra)) (h1 : behindInMarks op b = false := by first | exact nobehind _ (by decide) (by decide) | rfl) : DT X B M (.Compare a [op] [b] pos) (rTB ra) :=
  DT.mk' (pt_cmp pc h1) (mo_rTB h.mo) fun σ H Q ρ S q => tb_imp h S q
theorem dt_isN {j pos'} {ra : RE} (ha : DE X B M a ra) : DT X B M (.Compare a [.Is] [.Constant .none j pos'] pos) (rTB (r1 ra fun w => .bl (nonW w))) :=
  DT.mk' (pt_cmp (pc_isN ha.pe)) (mo_rTB (mo_r1 ha.mo)) fun σ H Q ρ S q => into ha S q fun w ρ1 v H1 hh kk o S1 r => by
    obtain ⟨k, e, p⟩ := hh.el
    cases e
    exact ⟨_, by rw [nonW_ok r], p H1 kk o S1⟩
theorem dt_notN {j pos'} {ra : RE} (ha : DE X B M a ra) : DT X B M (.Compare a [.IsNot] [.Constant .none j pos'] pos) (rTB (r1 ra fun w => .bl (!nonW w))) :=
  DT.mk' (pt_cmp (pc_notN ha.pe)) (mo_rTB (mo_r1 ha.mo)) fun σ H Q ρ S q => into ha S q fun w ρ1 v H1 hh kk o S1 r => by
    obtain ⟨k, e, p⟩ := hh.el
    cases e
    exact ⟨_, by rw [nonW_ok r], p H1 kk o S1⟩
def blW (b : Bool) : W → Bool
  | .d (.bl c) => c == b
  | _ => false
theorem is_boolG {M : Model} {A : Around} {E : Value → Shared → Prop} {s : Shared} {v : Value} {b : Bool} {Q : Value → Shared → Prop} (hv : ∀ id, v ≠ .builtin id) (h : Q (.bool (v == .bool b)) s) : wpAny M A (compareOp .Is v (.bool b)) Q E s := by
  cases v with
  | builtin id => exact absurd rfl (hv id)
  | _ => exact wpAny_pure h
theorem rel_nobuiltin {v : V} {u : Value} (r : RelV v u) (id : String) : u ≠ .builtin id := fun e => by
  subst e
  cases v with
  | int i => obtain ⟨t, h⟩ := r; cases h
  | str i => obtain ⟨t, h⟩ := r; cases h
  | byt i => obtain ⟨t, h⟩ := r; cases h
  | flt i => obtain ⟨t, h⟩ := r; cases h
  | _ => cases r
theorem blW_ok {K : PySem.W.Frag} {H : Hp} {ρ : En} {w : W} {v : V} {u : Value} {b : Bool} (r : WOk K H ρ w v) (ru : RelV v u) : (u == Value.bool b) = blW b w := by
  cases w with
  | o i =>
    obtain ⟨p, ds, e, rfl⟩ := r
    cases ru
    rfl
  | d x =>
    cases x with
    | tup ds => obtain ⟨a, vs, rfl, _⟩ := r; cases ru; rfl
    | lst ds => obtain ⟨a, vs, rfl, _⟩ := r; cases ru; rfl
    | dic ds => obtain ⟨a, rfl, _⟩ := r; cases ru; rfl
    | ins C n ds => obtain ⟨a, dx, fs, rfl, _⟩ := r; cases ru; rfl
    | obj q => rw [show v = _ from r] at ru; cases ru; rfl
    | non => rw [show v = _ from r] at ru; cases ru; rfl
    | bl c => rw [show v = _ from r] at ru; cases ru; cases c <;> cases b <;> rfl
    | int i => rw [show v = _ from r] at ru; obtain ⟨t, rfl⟩ := ru; rfl
    | str i => rw [show v = _ from r] at ru; obtain ⟨t, rfl⟩ := ru; rfl
    | ty n => rw [show v = _ from r] at ru; cases ru; rfl
theorem pc_isB {ra : RE} {b : Bool} {j pos'} (ha : DE X B M a ra) : PC X .Is a (.Constant (.bool b) j pos') (tD X.K B M (r1 ra fun w => .bl (blW b w))) := by
  refine ⟨fun pins s σ H Q I ⟨ρ, S, h⟩ => ?_⟩
  refine thn (ha.pe.run pins s σ H (fun v H1 => ∀ u, RelV v u → Q (.bl (u == Value.bool b)) H1) I (into ha S h fun w ρ1 v H1 p k o S1 r u ru => by rw [blW_ok r ru]; exact p _ H1 k o S1 rfl)) fun v s1 ⟨x, H1, I1, r1, q1⟩ => ?_
  exact Constant_bool (is_boolG (rel_nobuiltin r1) ⟨.bl _, H1, I1, rfl, q1 v r1⟩)
theorem de_isB {ra : RE} {b : Bool} {j pos'} (ha : DE X B M a ra) : DE X B M (.Compare a [.Is] [.Constant (.bool b) j pos'] pos) (r1 ra fun w => .bl (blW b w)) := ⟨pe_cmp (pc_isB ha), mo_r1 ha.mo⟩
theorem dt_isB {ra : RE} {b : Bool} {j pos'} (ha : DE X B M a ra) : DT X B M (.Compare a [.Is] [.Constant (.bool b) j pos'] pos) (rTB (r1 ra fun w => .bl (blW b w))) := dt_cmpv (de_isB ha) (pc_isB ha)
/-! ### in -/
theorem inV_ints {n : Int} : ∀ {ns : List Int}, inV (.int n) (ns.map V.int) = decide (n ∈ ns)
  | [] => by simp [inV]
  | m :: ns => by
    have ih := inV_ints (n := n) (ns := ns)
    unfold inV at ih ⊢
    rw [List.map_cons, List.any_cons, ih]
    show ((m == n) || decide (n ∈ ns)) = decide (n ∈ m :: ns)
    by_cases h : m = n
    · subst h; simp
    · have : (m == n) = false := by simpa using h
      rw [this, Bool.false_or]
      simp [List.mem_cons, Ne.symm h]
theorem flat_ints : ∀ (ns : List Int), (ns.map V.int).all flatV = true
  | [] => rfl
  | _ :: ns => flat_ints ns
def oIn (neg : Bool) : O2 := fun w1 w2 ρ P => ∃ (n : Int) (t : Bool) (ns : List Int), w1 = .d (.int n) ∧ sq ρ w2 = some (t, ns.map D.int) ∧ P (.bl (if neg then !decide (n ∈ ns) else decide (n ∈ ns)))
theorem mo_oIn {neg : Bool} : MonoO (oIn neg) := fun x y ρ P P' h ⟨n, t, ns, e1, e2, p⟩ => ⟨n, t, ns, e1, e2, h _ p⟩
theorem tells_in {K : PySem.W.Frag} {neg : Bool} : Tells2 K (rIn K neg) (oIn neg) := fun B M ρ σ H w1 w2 x y Q P S r1 r2 ⟨n, t, ns, e1, e2, p⟩ q => by
  subst e1
  obtain rfl : x = V.int n := r1
  obtain ⟨a, vs, rfl, s, rr⟩ := sq_read S r2 e2
  have ev := RepL.ints rr
  subst ev
  exact ⟨a, _, rfl, s.sq, rfl, flat_ints ns, by rw [inV_ints]; exact q _ _ H p (Same.refl _) rfl⟩
theorem de_in {ra rb : RE} (ha : DE X B M a ra) (hb : DE X B M b rb) (hm : behindInMarks .In b = false := by rfl) : DE X B M (.Compare a [.In] [b] pos) (r2 ra rb (oIn false)) := de_cmp op_in_seq tells_in mo_oIn ha hb hm
theorem dt_in {ra rb : RE} (ha : DE X B M a ra) (hb : DE X B M b rb) (hm : behindInMarks .In b = false := by rfl) : DT X B M (.Compare a [.In] [b] pos) (rTB (r2 ra rb (oIn false))) := dt_cmp op_in_seq tells_in mo_oIn ha hb hm
theorem dt_notin {ra rb : RE} (ha : DE X B M a ra) (hb : DE X B M b rb) (hm : behindInMarks .NotIn b = false := by rfl) : DT X B M (.Compare a [.NotIn] [b] pos) (rTB (r2 ra rb (oIn true))) := dt_cmp op_notIn_seq tells_in mo_oIn ha hb hm
/-! ### chains of two comparisons of ints: a <= b < c -/
def rChain (ra rb rc : RE) (f g : Int → Int → Bool) : RE := fun ρ Q => ra ρ fun w1 ρ1 => rb ρ1 fun w2 ρ2 => kInt (fun i _ => kInt (fun j _ => if f i j = true then rc ρ2 (kInt fun k ρ3 => Q (.d (.bl (g j k))) ρ3) else Q (.d (.bl false)) ρ2) w2 ρ2) w1 ρ2
theorem mo_rChain {ra rb rc : RE} {f g : Int → Int → Bool} (ha : MonoE ra) (hb : MonoE rb) (hc : MonoE rc) : MonoE (rChain ra rb rc f g) := fun ρ P P' w q => ha ρ _ _ (fun w1 ρ1 q1 => hb ρ1 _ _ (fun w2 ρ2 q2 => by
  obtain ⟨i, ei, qa⟩ := kInt.el q2
  obtain ⟨j, ej, qb⟩ := kInt.el qa
  rw [ei, ej]
  show if f i j = true then _ else _
  by_cases h : f i j = true
  · rw [if_pos h] at qb ⊢
    exact hc ρ2 _ _ (fun w3 ρ3 q3 => by obtain ⟨k, ek, q4⟩ := kInt.el q3; rw [ek]; exact w _ _ q4) qb
  · rw [if_neg h] at qb ⊢
    exact w _ _ qb) q1) q
theorem de_chain {op op' : CmpOp} {ra rb rc : RE} {f g : Int → Int → Bool} (ho : OpR X (compareOp op) (rI0 fun i j => .bl (f i j))) (ho' : OpR X (compareOp op') (rI0 fun i j => .bl (g i j))) (ha : DE X B M a ra) (hb : DE X B M b rb) (hc : DE X B M c rc)
    (h1 : lastMarks [op, op'] [b, c] = false := by rfl) : DE X B M (.Compare a [op, op'] [b, c] pos) (rChain ra rb rc f g) := by
  refine DE.mk' (pe_chain ho ho' ha.pe hb.pe hc.pe h1) (mo_rChain ha.mo hb.mo hc.mo) fun σ H Q ρ S q => ?_
  refine into ha S q fun w1 ρ1 v1 H1 q1 k1 o1 S1 r1 => ?_
  refine into hb S1 q1 fun w2 ρ2 v2 H2 hh k2 o2 S2 r2 => ?_
  obtain ⟨i, e1, hh⟩ := hh.el
  obtain ⟨j, e2, q2⟩ := hh.el
  subst e1 e2
  refine ⟨i, j, r1, r2, f i j, rfl, ?_⟩
  by_cases h : f i j = true
  · rw [if_pos h] at q2 ⊢
    refine into hc S2 q2 fun w3 ρ3 v3 H3 hh k3 o3 S3 r3 => ?_
    obtain ⟨k, e3, q3⟩ := hh.el
    subst e3
    exact ⟨j, k, r2, r3, q3 _ H3 ((k1.trans k2).trans k3) ((o1.trans o2).trans o3) S3 rfl⟩
  · rw [if_neg h] at q2 ⊢
    exact q2 _ H2 (k1.trans k2) (o1.trans o2) S2 rfl
/-! ### raise -/
theorem ds_raise {x m : Str} {C : Addr} {E : XK} {Xp : Exn → Prop} {j : Nat} {p p2 pos2 : Pos} {bmB : List Value} {newId initId Bn : String} (tk : L2N.Takes X (fun cls d _ H => E cls d H)) (hE : ∀ x cls dx H', Xp x → Frm M B H' → XRep X.K H' x cls dx → E cls dx H') (F : ExcBaseFacts Bn newId initId bmB) (q : PySem.W.excIn X.K C bmB newId = true)
    (gC : X.mg x = some (.ref C)) (kC : PySem.W.keepIn X.K (.ref C) = true) (r : Raises X (.ref C)) (hc : X.calm = true := by rfl) (hg : Gl X x := by rfl) (hdb : (x == ("__debug__" : Str)) = false := by decide) :
    DS X B M (.Raise (some (.Call (.Name x p) [.Constant (.str m) j p2] [] pos2)) none pos) (fun e ρ => Xp ⟨C, none⟩) :=
  DS.mk' (L2N.ps_raise hc tk (L2N.pmk_own F q gC kC r hg hdb)) fun D σ H ρ e S hx ok => hE ⟨C, none⟩ _ _ H hx S.frm ⟨rfl, rfl⟩
end
end N
/-! N7 -/
set_option Elab.async false
set_option linter.all false
set_option maxRecDepth 100000
set_option maxHeartbeats 1000000
/-! N7: further rules: great ints, slices, dicts, counting, deep equality, defaults. -/
namespace N
open PySem PySem.Spec PyProof.Rows L2
section
variable {X : Cx} {B : Hp} {M : List Addr} {e a b c : Expr} {es : List Expr} {pos : Pos}
/-! ### ints -/
def rNeg (ra : RE) : RE := fun ρ Q => ra ρ (kInt fun i ρ1 => Q (.d (.int (-i))) ρ1)
theorem de_neg {ra : RE} (ha : DE X B M a ra) : DE X B M (.UnaryOp .USub a pos) (rNeg ra) :=
  DE.mk' (pe_un un_neg ha.pe) (fun ρ P P' w p => ha.mo ρ _ _ (fun w1 ρ1 q => by obtain ⟨i, rfl, q⟩ := q.el; exact w _ _ q) p) fun σ H Q ρ S q => into ha S q fun w ρ1 v H1 hh k o S1 r => by
    obtain ⟨i, e1, p⟩ := hh.el
    subst e1
    exact ⟨i, r, p _ H1 k o S1 rfl⟩
theorem de_mulW {ra rb : RE} (ha : DE X B M a ra) (hb : DE X B M b rb) : DE X B M (.BinOp a .Mult b pos) (r2 ra rb (oI CMulW fun i j => .int (i * j))) := de_op op_mulW (tells_I fun _ _ _ => rfl) mo_oI ha hb
theorem de_fdivW {ra rb : RE} (ha : DE X B M a ra) (hb : DE X B M b rb) : DE X B M (.BinOp a .FloorDiv b pos) (r2 ra rb (oI CDivW fun i j => .int (i / j))) := de_op op_fdivW (tells_I fun _ _ _ => rfl) mo_oI ha hb
def CPowW (i j : Int) : Prop := 0 ≤ j ∧ (Builtin.Int.intBits i : Int) * j ≤ 2 ^ 27
theorem op_powW : OpR X (binaryOp .Pow) (rI CPowW fun i j => .int (i ^ j.toNat)) := opI fun _ _ _ _ _ _ _ hc q => pow_int hc.1 hc.2 q
theorem de_powW {ra rb : RE} (ha : DE X B M a ra) (hb : DE X B M b rb) : DE X B M (.BinOp a .Pow b pos) (r2 ra rb (oI CPowW fun i j => .int (i ^ j.toNat))) := de_op op_powW (tells_I fun _ _ _ => rfl) mo_oI ha hb
/-- by the kind of slot i -/
def rCase (i : Nat) (r1 r2 : RE) : RE := fun ρ Q => match ρ[i]? with
  | some (.own _ _) => r1 ρ Q
  | _ => r2 ρ Q
theorem de_case (i : Nat) {ra rb : RE} (h1 : DE X B M e ra) (h2 : DE X B M e rb) : DE X B M e (rCase i ra rb) := by
  refine ⟨⟨fun pins s σ H Q I ⟨ρ, S, q⟩ => ?_⟩, fun ρ P P' w q => ?_⟩
  · unfold rCase at q
    split at q
    · exact h1.pe.run pins s σ H Q I ⟨ρ, S, q⟩
    · exact h2.pe.run pins s σ H Q I ⟨ρ, S, q⟩
  · unfold rCase at q ⊢
    split at q
    · exact h1.mo _ _ _ w q
    · exact h2.mo _ _ _ w q
/-- the same of statements -/
def rCaseS (i : Nat) (r1 r2 : RS) : RS := fun e ρ => match ρ[i]? with
  | some (.own _ _) => r1 e ρ
  | _ => r2 e ρ
theorem ds_case (i : Nat) {st : List Stmt} {ra rb : RS} (h1 : DSs X B M st ra) (h2 : DSs X B M st rb) : DSs X B M st (rCaseS i ra rb) := by
  refine ⟨⟨fun pins s σ H D I ⟨ρ, e, S, q, ok⟩ => ?_⟩⟩
  have q : rCaseS i ra rb e ρ := q
  unfold rCaseS at q
  split at q
  · exact h1.pss.run pins s σ H D I ⟨ρ, e, S, q, ok⟩
  · exact h2.pss.run pins s σ H D I ⟨ρ, e, S, q, ok⟩
/-! ### slices -/
abbrev RO := En → (Option Int → En → Prop) → Prop
def kO (K : PySem.W.Frag) (B : Hp) (M : List Addr) (ρ : En) (σ : L2.St) (H : Hp) (Q : Option Int → Hp → Prop) : Option Int → En → Prop := fun i ρ' => ∀ H', Keep H H' → OwnEq ρ ρ' → Sta K B M ρ' σ H' → Q i H'
def tDO (K : PySem.W.Frag) (B : Hp) (M : List Addr) (r : RO) : TO := fun σ H Q => ∃ ρ, Sta K B M ρ σ H ∧ r ρ (kO K B M ρ σ H Q)
def MonoO1 (r : RO) : Prop := ∀ ρ (P P' : Option Int → En → Prop), (∀ w ρ', P w ρ' → P' w ρ') → r ρ P → r ρ P'
structure DO (X : Cx) (B : Hp) (M : List Addr) (e : Option Expr) (r : RO) : Prop where
  po : PO X e (tDO X.K B M r)
  mo : MonoO1 r
theorem po_imp {e : Option Expr} {t t' : TO} (h : PO X e t) (w : ∀ σ H Q, t' σ H Q → t σ H Q) : PO X e t' := ⟨fun pins s σ H Q I q => h.run pins s σ H Q I (w σ H Q q)⟩
theorem do_none : DO X B M none (fun ρ Q => Q none ρ) := ⟨po_imp po_none fun σ H Q ⟨ρ, S, q⟩ => q H (Keep.refl _) (OwnEq.refl _) S, fun ρ P P' w q => w _ _ q⟩
def rOS (ra : RE) : RO := fun ρ Q => ra ρ (kInt fun i ρ1 => Q (some i) ρ1)
theorem do_some {ra : RE} (ha : DE X B M a ra) : DO X B M (some a) (rOS ra) :=
  ⟨po_imp (po_some ha.pe) fun σ H Q ⟨ρ, S, q⟩ => into ha S q fun w ρ1 v H1 hh k o S1 r => by
    obtain ⟨i, e1, p⟩ := hh.el
    subst e1
    exact ⟨i, r, p H1 k o S1⟩, fun ρ P P' w p => ha.mo ρ _ _ (fun w1 ρ1 q => by obtain ⟨i, rfl, q⟩ := q.el; exact w _ _ q) p⟩
theorem intoO {eo : Option Expr} {ra : RO} (ha : DO X B M eo ra) {σ : L2.St} {H : Hp} {ρ : En} (S : Sta X.K B M ρ σ H) {P : Option Int → En → Prop} (h : ra ρ P) {Q : Option Int → Hp → Prop} (w : ∀ w1 ρ1 H1, P w1 ρ1 → Keep H H1 → OwnEq ρ ρ1 → Sta X.K B M ρ1 σ H1 → Q w1 H1) : tDO X.K B M ra σ H Q :=
  ⟨ρ, S, ha.mo ρ P _ (fun w1 ρ1 p H1 k o S1 => w w1 ρ1 H1 p k o S1) h⟩
def cutD (ds : List D) (lo hi : Option Int) : List D := (ds.drop (HT.sIx ds.length 0 lo)).take (HT.sIx ds.length ds.length hi - HT.sIx ds.length 0 lo)
theorem RepL.cut {K : PySem.W.Frag} {H : Hp} {ds : List D} {vs : List V} (r : RepL K H ds vs) (lo hi : Option Int) : RepL K H (cutD ds lo hi) (cutV vs lo hi) := by
  unfold cutD cutV
  rw [RepL.length r]
  exact RepL.take _ (RepL.drop _ r)
def rSlice (ra : RE) (rl rh : RO) : RN := fun ρ Q => ra ρ fun w ρ1 => rl ρ1 fun l ρ2 => rh ρ2 fun h ρ3 => ∃ ds, sq ρ3 w = some (false, ds) ∧ Q (cutD ds l h) ρ3
theorem dn_slice {lo hi : Option Expr} {ra : RE} {rl rh : RO} {p2 : Pos} (ha : DE X B M a ra) (hl : DO X B M lo rl) (hh : DO X B M hi rh) : DN X B M (.Subscript a (.Slice lo hi none p2) pos) (rSlice ra rl rh) := by
  refine DN.mk' (pe_slice sl_list ha.pe hl.po hh.po) (fun ρ P P' w q => ha.mo ρ _ _ (fun w1 ρ1 q => hl.mo ρ1 _ _ (fun l ρ2 q => hh.mo ρ2 _ _ (fun h ρ3 ⟨ds, e, q⟩ => ⟨ds, e, w _ _ q⟩) q) q) q) fun σ H Q ρ S q => ?_
  refine into ha S q fun w1 ρ1 v H1 q k1 o1 S1 r1 => intoO hl S1 q fun l ρ2 H2 q k2 o2 S2 => intoO hh S2 q fun h ρ3 H3 q k3 o3 S3 => ?_
  obtain ⟨ds, e, q⟩ := q
  obtain ⟨p, vs, rfl, s, rr⟩ := sq_read S3 (WOk.keep (k2.trans k3) (o2.trans o3) r1) e
  refine ⟨p, vs, rfl, .inl s, fun l' hl' => ?_⟩
  obtain ⟨S4, n4⟩ := NewAt.laid S3 hl' (RepL.cut rr l h)
  exact q l' _ (((k1.trans k2).trans k3).trans (Keep.of (same_upd hl'))) ((o1.trans o2).trans o3) S4 n4
def rSliceT (ra : RE) (rl rh : RO) : RE := fun ρ Q => ra ρ fun w ρ1 => rl ρ1 fun l ρ2 => rh ρ2 fun h ρ3 => ∃ ds, sq ρ3 w = some (true, ds) ∧ Q (.d (.tup (cutD ds l h))) ρ3
theorem de_sliceT {lo hi : Option Expr} {ra : RE} {rl rh : RO} {p2 : Pos} (ha : DE X B M a ra) (hl : DO X B M lo rl) (hh : DO X B M hi rh) : DE X B M (.Subscript a (.Slice lo hi none p2) pos) (rSliceT ra rl rh) := by
  refine DE.mk' (pe_slice sl_tupN ha.pe hl.po hh.po) (fun ρ P P' w q => ha.mo ρ _ _ (fun w1 ρ1 q => hl.mo ρ1 _ _ (fun l ρ2 q => hh.mo ρ2 _ _ (fun h ρ3 ⟨ds, e, q⟩ => ⟨ds, e, w _ _ q⟩) q) q) q) fun σ H Q ρ S q => ?_
  refine into ha S q fun w1 ρ1 v H1 q k1 o1 S1 r1 => intoO hl S1 q fun l ρ2 H2 q k2 o2 S2 => intoO hh S2 q fun h ρ3 H3 q k3 o3 S3 => ?_
  obtain ⟨ds, e, q⟩ := q
  obtain ⟨p, vs, rfl, s, rr⟩ := sq_read S3 (WOk.keep (k2.trans k3) (o2.trans o3) r1) e
  have s : TpN X.K H3 p vs := s
  have kk := (k1.trans k2).trans k3
  have oo := (o1.trans o2).trans o3
  refine ⟨p, vs, rfl, TpN.sq s, fun z => ?_, fun z ob l' hd hl' => ?_⟩
  · refine q _ H3 kk oo S3 ⟨p, _, rfl, s, ?_⟩
    have : cutD ds l h = ds := by
      rw [RepL.length rr] at z
      unfold cutD
      rw [z.1, z.2, List.drop_zero, Nat.sub_zero, List.take_length]
    rw [this]
    exact rr
  · exact q _ _ (kk.trans (Keep.of (same_upd hl'))) oo (S3.same (same_upd hl')) ⟨l', _, rfl, .inl ⟨ob, hd, upd_same⟩, RepL.keep (Keep.of (same_upd hl')) _ (RepL.cut rr l h)⟩
def rRev (ra : RE) : RN := fun ρ Q => ra ρ fun w ρ1 => ∃ ds, sq ρ1 w = some (false, ds) ∧ Q ds.reverse ρ1
theorem dn_rev {ra : RE} {k : Nat} {p1 p2 p3 : Pos} (ha : DE X B M a ra) : DN X B M (.Subscript a (.Slice none none (some (.UnaryOp .USub (.Constant (.int 1) k p1) p2)) p3) pos) (rRev ra) := by
  refine DN.mk' (pe_revL ha.pe) (fun ρ P P' w q => ha.mo ρ _ _ (fun w1 ρ1 ⟨ds, e, q⟩ => ⟨ds, e, w _ _ q⟩) q) fun σ H Q ρ S q => ?_
  refine into ha S q fun w1 ρ1 v H1 ⟨ds, e, q⟩ k1 o1 S1 r1 => ?_
  obtain ⟨p, vs, rfl, s, rr⟩ := sq_read S1 r1 e
  refine ⟨p, vs, rfl, .inl s, fun l' hl' => ?_⟩
  obtain ⟨S4, n4⟩ := NewAt.laid S1 hl' (RepL.reverse rr)
  exact q l' _ (k1.trans (Keep.of (same_upd hl'))) o1 S4 n4
/-! ### tuple(range(n)), list(range(n)) -/
def rgD (lo hi : Int) : List D := (List.range (hi - lo).toNat).map fun i => D.int (lo + (i : Nat))
theorem rep_rg {K : PySem.W.Frag} {H : Hp} {lo hi : Int} : RepL K H (rgD lo hi) (rgV lo hi) := by
  unfold rgD rgV
  generalize List.range (hi - lo).toNat = l
  induction l with
  | nil => exact rfl
  | cons a r ih => exact ⟨_, _, rfl, rfl, ih⟩
def rRgT (ra : RE) : RE := fun ρ Q => ra ρ (kInt fun n ρ1 => RgOk 0 n ∧ Q (.d (.tup (rgD 0 n))) ρ1)
theorem de_tuprange {ra : RE} {p p' pos' : Pos} (hm : X.mg "tuple" = none) (hm2 : X.mg "range" = none) (ha : DE X B M a ra) (hc : X.calm = true := by rfl) (hg : Gl X "tuple" := by rfl) (hg2 : Gl X "range" := by rfl)
    (na : starEach [a] X.env = (false, eval a X.env) :: starEach [] X.env := by rfl) (nb : starEach [Expr.Call (.Name "range" p) [a] [] pos'] X.env = (false, eval (Expr.Call (.Name "range" p) [a] [] pos') X.env) :: starEach [] X.env := by rfl) :
    DE X B M (.Call (.Name "tuple" p') [.Call (.Name "range" p) [a] [] pos'] [] pos) (rRgT ra) :=
  DE.mk' (pe_tupRgN hc hg hm (prg_1 hg2 hm2 ha.pe na) nb) (fun ρ P P' w p => ha.mo ρ _ _ (fun w1 ρ1 q => by obtain ⟨i, rfl, r, q⟩ := q.el; exact ⟨r, w _ _ q⟩) p) fun σ H Q ρ S q => into ha S q fun w ρ1 v H1 hh k o S1 r => by
    obtain ⟨n, e1, rg, p⟩ := hh.el
    subst e1
    exact ⟨n, r, rg, fun ob l hd hl => p _ _ (k.trans (Keep.of (same_upd hl))) o (S1.same (same_upd hl)) ⟨l, _, rfl, .inl ⟨ob, hd, upd_same⟩, rep_rg⟩⟩
def rRgL (ra : RE) : RN := fun ρ Q => ra ρ (kInt fun n ρ1 => RgOk 0 n ∧ Q (rgD 0 n) ρ1)
theorem dn_listrange {ra : RE} {p p' pos' : Pos} (hm : X.mg "list" = none) (hm2 : X.mg "range" = none) (ha : DE X B M a ra) (hc : X.calm = true := by rfl) (hg : Gl X "list" := by rfl) (hg2 : Gl X "range" := by rfl)
    (na : starEach [a] X.env = (false, eval a X.env) :: starEach [] X.env := by rfl) (nb : starEach [Expr.Call (.Name "range" p) [a] [] pos'] X.env = (false, eval (Expr.Call (.Name "range" p) [a] [] pos') X.env) :: starEach [] X.env := by rfl) :
    DN X B M (.Call (.Name "list" p') [.Call (.Name "range" p) [a] [] pos'] [] pos) (rRgL ra) :=
  DN.mk' (pe_listRg hc hg hm (prg_1 hg2 hm2 ha.pe na) nb) (fun ρ P P' w p => ha.mo ρ _ _ (fun w1 ρ1 q => by obtain ⟨i, rfl, r, q⟩ := q.el; exact ⟨r, w _ _ q⟩) p) fun σ H Q ρ S q => into ha S q fun w ρ1 v H1 hh k o S1 r => by
    obtain ⟨n, e1, rg, p⟩ := hh.el
    subst e1
    refine ⟨n, r, rg, fun l hl => ?_⟩
    obtain ⟨S2, n2⟩ := NewAt.laid S1 hl (rep_rg (lo := 0) (hi := n))
    exact p l _ (k.trans (Keep.of (same_upd hl))) o S2 n2
/-! ### insert, count -/
def rIns (i : Nat) (ra rb : RE) : RE := fun ρ Q => kOwn i (fun _ _ => ra ρ (kInt fun z ρ1 => rb ρ1 (kD fun x ρ2 => kOwn i (fun p ds => 0 ≤ z ∧ z < 2 ^ 63 ∧ ds.length < 16777216 ∧ Q (.d .non) (ρ2.set i (.own p (ds.take z.toNat ++ [x] ++ ds.drop z.toNat)))) ρ2))) ρ
theorem de_insert {y : Str} {i : Nat} {py apos : Pos} {ra rb : RE} (hy : DE X B M (.Name y py) (rVar i)) (ha : DE X B M a ra) (hb : DE X B M b rb)
    (hbase : attributeBase (.Name y py) "insert" X.env (eval (.Name y py) X.env) = eval (.Name y py) X.env := by rfl)
    (hfew : ((backTo pos (starEach [a, b] X.env)).all (fun x => !x.1) && (backToKw pos (keywordEach [] X.env)).all (fun x => x.1.isSome)
      && decide ([a, b].length + ([] : List Keyword).length + (if ([] : List Keyword).isEmpty then 0 else 1) < 30)) = true := by rfl)
    (hline : (apos.endLine == pos.line) = true := by rfl) (hs : starEach [a, b] X.env = (false, eval a X.env) :: starEach [b] X.env := by rfl) (hs2 : starEach [b] X.env = (false, eval b X.env) :: starEach [] X.env := by rfl) (hplain : (backTo pos (starEach [b] X.env)).any (·.1) = false := by rfl) :
    DE X B M (.Call (.Attribute (.Name y py) "insert" apos) [a, b] [] pos) (rIns i ra rb) := by
  refine DE.mk' (pe_bm PySem.F.plainAttrs_list PySem.F.slot_list_insert PySem.F.type_list_insert mt_insert hy.pe (pa_cons ha.pe (pa_cons hb.pe pa_nil hs2) hs) hbase hfew hline hs hplain) (fun ρ P P' w q => q.imp fun _ _ q => ha.mo ρ _ _ (fun w1 ρ1 q => by
    obtain ⟨z, rfl, q⟩ := q.el
    refine hb.mo ρ1 _ _ (fun w2 ρ2 q => ?_) q
    obtain ⟨x, rfl, q⟩ := q.el
    exact q.imp fun p ds ⟨h0, h1, hl, q⟩ => ⟨h0, h1, hl, w _ _ q⟩) q) fun σ H Q ρ S hh => ?_
  obtain ⟨p0, s0, e0, q⟩ := hh.el
  refine own_read hy S e0 fun v H1 k1 S1 ev => ?_
  subst ev
  obtain ⟨vs0, hp0, _⟩ := S1.own_at e0
  refine ⟨tyV_own hp0, ?_⟩
  refine into ha S1 q fun w1 ρ1 v H2 hh k2 o2 S2 r2 => ?_
  obtain ⟨z, e1, q⟩ := hh.el
  subst e1
  refine into hb S2 q fun w2 ρ2 v2 H3 hh k3 o3 S3 r3 => ?_
  obtain ⟨x, e1, hh⟩ := hh.el
  obtain ⟨p, ds, e2, h0, h1, hl, q2⟩ := hh.el
  subst e1
  obtain ⟨s', e3⟩ := (o2.trans o3) i p0 s0 e0
  rw [e2] at e3
  cases e3
  obtain ⟨vs, hp, rr⟩ := S3.own_at e2
  obtain rfl : v = V.int z := r2
  refine ⟨p0, vs, z, v2, rfl, rfl, hp, by rw [RepL.length rr, sizeLine_eq]; exact hl, h0, h1, ?_⟩
  exact q2 .non _ (((k1.trans k2).trans k3).trans (Sta.keep_mut (i := i) hp)) ((o2.trans o3).trans (own_mut e2)) (S3.mut e2 hp (RepL.append (RepL.append (RepL.take _ rr) (RepL.one r3)) (RepL.drop _ rr))) rfl
def rCntT (K : PySem.W.Frag) : V → List V → Hp → VK → Prop := fun x xs H Q => ∃ (p : Addr) (ns : List Int) (k : Int), x = .ref p ∧ xs = [.int k] ∧ SqT K H p (ns.map V.int) ∧ Q (.int (ns.count k : Nat)) H
theorem mt_tcount : MtR X "tuple.count" (rCntT X.K) := by
  intro pins s σ H x xs v us Q I rx rxs h
  obtain ⟨p, ns, k, rfl, rfl, hs, q⟩ := h
  cases rx
  obtain ⟨u, rfl, ru⟩ := rxs.one
  obtain ⟨t, rfl⟩ := ru
  obtain ⟨its, rv, ⟨⟨cls, dd, data, sl⟩, ho, hc, n, hd⟩, hlen⟩ := I.tuple hs
  simp only at hc hd
  subst hc hd
  have hi := ints_of_vals rv
  refine call_meets PySem.F.slot_tuple_count ⟨_, ho, rfl⟩ PySem.F.entry_tuple_count (PySem.F.args_tuple_count_2 _ _)
    (SeqAt.tuple_countAt p its.toArray n dd sl (.int k t) (eqk k)) ⟨ho, fun y hy => (eqk_gives hi y (by simpa using hy)).at _ _, ?_⟩
  have ec : its.toArray.toList.countP (eqk k) = ns.count k := eqk_count hi
  refine ⟨.int (ns.count k : Nat), H, I.tok _, ⟨s.toks, ?_⟩, q⟩
  show Value.int ((its.toArray.toList.countP (eqk k) : Nat) : Int) s.toks = Value.int ((ns.count k : Nat) : Int) s.toks
  rw [ec]
def tBMT (K : PySem.W.Frag) (r : V → List V → Hp → VK → Prop) (to : TE) (t : TA) : TE := fun σ H Q => to σ H fun x H1 => (∃ a xs, x = .ref a ∧ TpN K H1 a xs) ∧ t σ H1 fun xs H2 => r x xs H2 Q
theorem tpn_is {pins : List (Addr × Obj)} {σ : L2.St} {H : Hp} {s : Shared} {a : Addr} {xs : List V} (I : Inv X pins σ H s) (h : TpN X.K H a xs) : s.TypeIs (.ref a) "tuple" ∧ ∀ b, Value.ref a = .ref b → ∃ ob, s.heap.get? b = some ob ∧ ob.dict = none := by
  rcases h with ⟨o, d, h⟩ | ⟨o, its, n, d, h, c, _⟩
  · obtain ⟨e, _, its, _, ob, e2, c, _⟩ := I.hok a _ h
    rw [e] at e2
    cases e2
    exact ⟨⟨o, e, c⟩, fun b z => by cases z; exact ⟨o, e, d⟩⟩
  · have e := I.kIn _ o h
    exact ⟨⟨o, e, c⟩, fun b z => by cases z; exact ⟨o, e, d⟩⟩
theorem pe_bmT {o : Expr} {to : TE} {t : TA} {name : Str} {apos cpos : Pos} {id : String} {r : V → List V → Hp → VK → Prop} (slot : PySem.Slot "tuple" name id) (hty : typeOf (.builtin id) = pure (.type "method_descriptor")) (hm : MtR X id r) (ho : PE X o to) (ha : PA X (e :: es) t)
    (hbase : attributeBase o name X.env (eval o X.env) = eval o X.env := by rfl)
    (hfew : ((backTo cpos (starEach (e :: es) X.env)).all (fun x => !x.1) && (backToKw cpos (keywordEach [] X.env)).all (fun x => x.1.isSome)
      && decide ((e :: es).length + ([] : List Keyword).length + (if ([] : List Keyword).isEmpty then 0 else 1) < 30)) = true := by rfl)
    (hline : (apos.endLine == cpos.line) = true := by rfl) (hs : starEach (e :: es) X.env = (false, eval e X.env) :: starEach es X.env := by rfl) (hplain : (backTo cpos (starEach es X.env)).any (·.1) = false := by rfl) :
    PE X (.Call (.Attribute o name apos) (e :: es) [] cpos) (tBMT X.K r to t) := by
  refine ⟨fun pins s σ H Q I h => ?_⟩
  refine wpAny_Call_method_late hbase hfew hline rfl (thn (ho.run pins s σ H _ I h) fun v s1 ⟨x, H1, I1, r1, ty, q1⟩ => ?_)
  obtain ⟨a, xs, ex, tn⟩ := ty
  subst ex
  obtain ⟨h1, h2⟩ := tpn_is I1 tn
  cases r1
  refine ⟨"tuple", id, PySem.F.plainAttrs_tuple, slot, hty, h1, h2, ?_⟩
  have hA := ha.run cpos pins s1 σ H1 _ I1 q1
  rw [hs] at hA ⊢
  refine Calls.callWith_builtin (by show (false || (backTo cpos (starEach es X.env)).any (·.1)) = false; rw [hplain] <;> rfl) (Calls.evalArgs_plain ?_)
  exact thn hA fun us s2 ⟨vs, H2, I2, r2, q2⟩ => hm pins s2 σ H2 (.ref a) vs (.ref a) us Q I2 rfl r2 q2
/-- xs.count(k) of ints -/
def rCnt (t : Bool) (ro ra : RE) : RE := fun ρ Q => ro ρ fun w ρ1 => (∃ ds, sq ρ1 w = some (t, ds)) ∧ ra ρ1 (kInt fun k ρ2 => ∃ ns : List Int, sq ρ2 w = some (t, ns.map D.int) ∧ Q (.d (.int (ns.count k : Nat))) ρ2)
theorem mo_rCnt {t : Bool} {ro ra : RE} (ho : MonoE ro) (ha : MonoE ra) : MonoE (rCnt t ro ra) := fun ρ P P' w q => ho ρ _ _ (fun w1 ρ1 ⟨h, q⟩ => ⟨h, ha ρ1 _ _ (fun w2 ρ2 q => by
    obtain ⟨k, rfl, ns, e, q⟩ := q.el
    exact ⟨ns, e, w _ _ q⟩) q⟩) q
theorem de_count {o : Expr} {apos : Pos} {ro ra : RE} (ho : DE X B M o ro) (ha : DE X B M a ra)
    (hbase : attributeBase o "count" X.env (eval o X.env) = eval o X.env := by rfl)
    (hfew : ((backTo pos (starEach [a] X.env)).all (fun x => !x.1) && (backToKw pos (keywordEach [] X.env)).all (fun x => x.1.isSome)
      && decide ([a].length + ([] : List Keyword).length + (if ([] : List Keyword).isEmpty then 0 else 1) < 30)) = true := by rfl)
    (hline : (apos.endLine == pos.line) = true := by rfl) (hs : starEach [a] X.env = (false, eval a X.env) :: starEach [] X.env := by rfl) (hplain : (backTo pos (starEach [] X.env)).any (·.1) = false := by rfl) :
    DE X B M (.Call (.Attribute o "count" apos) [a] [] pos) (rCnt false ro ra) := by
  refine DE.mk' (pe_bm PySem.F.plainAttrs_list PySem.F.slot_list_count PySem.F.type_list_count mt_lcount ho.pe (pa_cons ha.pe pa_nil hs) hbase hfew hline hs hplain) (mo_rCnt ho.mo ha.mo) fun σ H Q ρ S q => ?_
  refine into ho S q fun w ρ1 v H1 ⟨⟨ds, e0⟩, q⟩ k1 o1 S1 r1 => ?_
  obtain ⟨p0, vs0, rfl, s0, _⟩ := sq_read S1 r1 e0
  refine ⟨.inl ⟨rfl, vs0, .inl s0⟩, into ha S1 q fun w2 ρ2 v2 H2 hh k2 o2 S2 r2 => ?_⟩
  obtain ⟨k, e1, ns, e2, q⟩ := hh.el
  subst e1
  obtain ⟨p, vs, ep, s, rr⟩ := sq_read S2 (WOk.keep k2 o2 r1) e2
  have ev := RepL.ints rr
  subst ev
  exact ⟨p, ns, k, ep, by rw [show v2 = V.int k from r2], .inl s, q _ H2 (k1.trans k2) (o1.trans o2) S2 rfl⟩
theorem de_countT {o : Expr} {apos : Pos} {ro ra : RE} (ho : DE X B M o ro) (ha : DE X B M a ra)
    (hbase : attributeBase o "count" X.env (eval o X.env) = eval o X.env := by rfl)
    (hfew : ((backTo pos (starEach [a] X.env)).all (fun x => !x.1) && (backToKw pos (keywordEach [] X.env)).all (fun x => x.1.isSome)
      && decide ([a].length + ([] : List Keyword).length + (if ([] : List Keyword).isEmpty then 0 else 1) < 30)) = true := by rfl)
    (hline : (apos.endLine == pos.line) = true := by rfl) (hs : starEach [a] X.env = (false, eval a X.env) :: starEach [] X.env := by rfl) (hplain : (backTo pos (starEach [] X.env)).any (·.1) = false := by rfl) :
    DE X B M (.Call (.Attribute o "count" apos) [a] [] pos) (rCnt true ro ra) := by
  refine DE.mk' (pe_bmT PySem.F.slot_tuple_count PySem.F.type_tuple_count mt_tcount ho.pe (pa_cons ha.pe pa_nil hs) hbase hfew hline hs hplain) (mo_rCnt ho.mo ha.mo) fun σ H Q ρ S q => ?_
  refine into ho S q fun w ρ1 v H1 ⟨⟨ds, e0⟩, q⟩ k1 o1 S1 r1 => ?_
  obtain ⟨p0, vs0, rfl, s0, _⟩ := sq_read S1 r1 e0
  refine ⟨⟨p0, vs0, rfl, s0⟩, into ha S1 q fun w2 ρ2 v2 H2 hh k2 o2 S2 r2 => ?_⟩
  obtain ⟨k, e1, ns, e2, q⟩ := hh.el
  subst e1
  obtain ⟨p, vs, ep, s, rr⟩ := sq_read S2 (WOk.keep k2 o2 r1) e2
  have ev := RepL.ints rr
  subst ev
  exact ⟨p, ns, k, ep, by rw [show v2 = V.int k from r2], TpN.sq s, q _ H2 (k1.trans k2) (o1.trans o2) S2 rfl⟩
/-! ### len(set(t)) of a tuple of ints -/
def tLenSetT (K : PySem.W.Frag) (ta : TE) : TE := fun σ H Q => ta σ H fun x H1 => ∃ (l : Addr) (ns : List Int), x = .ref l ∧ SqT K H1 l (ns.map V.int) ∧ ns.length ≤ 4000 ∧ ∀ us : List Int, us.Nodup → (∀ k, k ∈ us ↔ k ∈ ns) → Q (.int (us.length : Nat)) H1
theorem pe_lenSetT {ta : TE} {p p2 q : Pos} (hc : X.calm = true) (hg : Gl X "len") (hm : X.mg "len" = none) (hg2 : Gl X "set") (hm2 : X.mg "set" = none) (ha : PE X a ta)
    (na : starEach [a] X.env = (false, eval a X.env) :: starEach [] X.env := by rfl) : PE X (.Call (.Name "len" p) [.Call (.Name "set" p2) [a] [] q] [] pos) (tLenSetT X.K ta) := by
  refine ⟨fun pins s σ H Q I h => ?_⟩
  refine Call_ (ld_blt I hg hm PySem.boot_len ?_)
  refine PyProof.Rows.callWith_builtin1 (PyProof.Rows.args_cons ?_ rfl) rfl rfl
  refine Call_ (ld_blt I hg2 hm2 PyProof.Rows.boot_set ?_)
  refine PyProof.Rows.callWith_type1 (PyProof.Rows.args_cons (thn (ha.run pins s σ H _ I h) fun v s1 ⟨x, H1, I1, r1, q1⟩ => PyProof.Rows.args_nil ?_) na) na rfl
  obtain ⟨l, ns, rfl, hq, hl, q1⟩ := q1
  cases r1
  obtain ⟨its, r, pl, hz⟩ := I1.tuple hq
  refine call_set_tupI ns (I1.ok.hd hc) pl (by simpa using ints_of_vals r) (by unfold scanBound; omega) fun h' tk c R1 hcn hk => ?_
  refine PyProof.Rows.args_nil ?_
  obtain ⟨o, es, ep, t, ho, hex, hd, g, nd, hm3, hb, hf, hn, _⟩ := R1
  have I2 : Inv X pins σ H1 { s1 with heap := h', toks := tk } := I1.kept hk
  refine call_len_set ho hex hd hf (by rw [hn]; omega) ⟨.int (es.size : Nat), H1, I2.tok _, ⟨_, rfl⟩, ?_⟩
  have := q1 (es.toList.map keyOf) nd fun k => by rw [← hm3 k, decide_eq_true_eq]
  rw [List.length_map, Array.length_toList] at this
  exact this
def rLenSet (ra : RE) : RE := fun ρ Q => ra ρ fun w ρ1 => ∃ ns : List Int, sq ρ1 w = some (true, ns.map D.int) ∧ ns.length ≤ 4000 ∧ ∀ us : List Int, us.Nodup → (∀ k, k ∈ us ↔ k ∈ ns) → Q (.d (.int (us.length : Nat))) ρ1
theorem de_lenset {p p2 q : Pos} {ra : RE} (hm : X.mg "len" = none) (hm2 : X.mg "set" = none) (ha : DE X B M a ra) (hc : X.calm = true := by rfl) (hg : Gl X "len" := by rfl) (hg2 : Gl X "set" := by rfl)
    (na : starEach [a] X.env = (false, eval a X.env) :: starEach [] X.env := by rfl) : DE X B M (.Call (.Name "len" p) [.Call (.Name "set" p2) [a] [] q] [] pos) (rLenSet ra) :=
  DE.mk' (pe_lenSetT hc hg hm hg2 hm2 ha.pe na) (fun ρ P P' w q => ha.mo ρ _ _ (fun w1 ρ1 ⟨ns, e, l, q⟩ => ⟨ns, e, l, fun us h1 h2 => w _ _ (q us h1 h2)⟩) q) fun σ H Q ρ S q => into ha S q fun w ρ1 v H1 ⟨ns, e, l, q⟩ k o S1 r => by
    obtain ⟨p, vs, rfl, s, rr⟩ := sq_read S1 r e
    have ev := RepL.ints rr
    subst ev
    exact ⟨p, ns, rfl, TpN.sq s, l, fun us h1 h2 => q us h1 h2 _ H1 k o S1 rfl⟩
/-! ### == and != of data -/
mutual
def pd : D → Option PyData
  | .non => some .none
  | .bl b => some (.bool b)
  | .int i => some (.int i)
  | .str s => some (.str s)
  | .tup ds => (pdAll ds).map PyData.tuple
  | .lst ds => (pdAll ds).map PyData.list
  | .dic _ => none
  | .obj _ => none
  | .ins _ _ _ => none
  | .ty _ => none
def pdAll : List D → Option (List PyData)
  | [] => some []
  | d :: ds => match pd d, pdAll ds with
    | some p, some ps => some (p :: ps)
    | _, _ => none
end
theorem pdAll_cons {d : D} {ds : List D} {ps : List PyData} (h : pdAll (d :: ds) = some ps) : ∃ p qs, pd d = some p ∧ pdAll ds = some qs ∧ ps = p :: qs := by
  rw [pdAll] at h
  cases e1 : pd d with
  | none => rw [e1] at h; cases h
  | some p =>
    cases e2 : pdAll ds with
    | none => rw [e1, e2] at h; cases h
    | some qs =>
      rw [e1, e2] at h
      cases h
      exact ⟨p, qs, rfl, rfl, rfl⟩
mutual
theorem dp_of {K : PySem.W.Frag} {H : Hp} : ∀ (d : D) {v : V} {p : PyData}, Rep K H d v → pd d = some p → Dp K H v p
  | .non, _, _, r, h => by rw [show _ = V.non from r]; rw [pd] at h; cases h; exact .non
  | .bl b, _, _, r, h => by rw [show _ = V.bl b from r]; rw [pd] at h; cases h; exact .bl b
  | .int b, _, _, r, h => by rw [show _ = V.int b from r]; rw [pd] at h; cases h; exact .int b
  | .str b, _, _, r, h => by rw [show _ = V.str b from r]; rw [pd] at h; cases h; exact .str b
  | .tup ds, _, _, r, h => by
    obtain ⟨a, vs, rfl, s, rr⟩ := r
    rw [pd] at h
    obtain ⟨qs, e, h⟩ := Option.map_eq_some_iff.mp h
    rw [← h]
    exact .tup (TpN.sq s) (dpAll_of ds rr e)
  | .lst ds, _, _, r, h => by
    obtain ⟨a, vs, rfl, s, rr⟩ := r
    rw [pd] at h
    obtain ⟨qs, e, h⟩ := Option.map_eq_some_iff.mp h
    rw [← h]
    exact .lst (FzL.sq s) (dpAll_of ds rr e)
  | .dic _, _, _, _, h => by rw [pd] at h; cases h
  | .obj _, _, _, _, h => by rw [pd] at h; cases h
  | .ins _ _ _, _, _, _, h => by rw [pd] at h; cases h
  | .ty _, _, _, _, h => by rw [pd] at h; cases h
theorem dpAll_of {K : PySem.W.Frag} {H : Hp} : ∀ (ds : List D) {vs : List V} {ps : List PyData}, RepL K H ds vs → pdAll ds = some ps → DpAll K H vs ps
  | [], _, _, r, h => by rw [show _ = [] from r]; rw [pdAll] at h; cases h; exact .nil
  | d :: ds, _, _, r, h => by
    obtain ⟨v, vr, rfl, r1, r2⟩ := r
    obtain ⟨p, qs, e1, e2, rfl⟩ := pdAll_cons h
    exact .cons (dp_of d r1 e1) (dpAll_of ds r2 e2)
end
def pdW (ρ : En) : W → Option PyData
  | .d x => pd x
  | .o i => match ρ[i]? with
    | some (.own _ ds) => (pdAll ds).map PyData.list
    | _ => none
theorem dpW_of {K : PySem.W.Frag} {H : Hp} {ρ : En} {σ : L2.St} (S : Sta K B M ρ σ H) {w : W} {v : V} {p : PyData} (r : WOk K H ρ w v) (h : pdW ρ w = some p) : Dp K H v p := by
  cases w with
  | d x => exact dp_of x r h
  | o i =>
    obtain ⟨q, ds, e, rfl⟩ := r
    obtain ⟨vs, hv, rr⟩ := S.own_at e
    have h : (match ρ[i]? with
      | some (.own _ ds) => (pdAll ds).map PyData.list
      | _ => none) = some p := h
    rw [e] at h
    obtain ⟨qs, e2, h⟩ := Option.map_eq_some_iff.mp h
    rw [← h]
    exact .lst (.inl (.inl hv)) (dpAll_of ds rr e2)
def oEqD (f : Bool → Bool) : O2 := fun w1 w2 ρ P => ∃ p q, pdW ρ w1 = some p ∧ pdW ρ w2 = some q ∧ SeqAt.shaped p = true ∧ SeqAt.shaped q = true ∧ P (.bl (f (PyData.eqv p q)))
theorem mo_oEqD {f : Bool → Bool} : MonoO (oEqD f) := fun x y ρ P P' h ⟨p, q, e1, e2, s1, s2, r⟩ => ⟨p, q, e1, e2, s1, s2, h _ r⟩
theorem tells_eqD {K : PySem.W.Frag} : Tells2 K (rEqD K) (oEqD id) := fun B M ρ σ H w1 w2 x y Q P S r1 r2 ⟨p, q, e1, e2, s1, s2, h⟩ hq => ⟨p, q, dpW_of S r1 e1, dpW_of S r2 e2, s1, s2, hq _ _ H h (Same.refl _) rfl⟩
theorem tells_neD {K : PySem.W.Frag} : Tells2 K (rNeD K) (oEqD not) := fun B M ρ σ H w1 w2 x y Q P S r1 r2 ⟨p, q, e1, e2, s1, s2, h⟩ hq => ⟨p, q, dpW_of S r1 e1, dpW_of S r2 e2, s1, s2, hq _ _ H h (Same.refl _) rfl⟩
theorem de_eqD {k : Nat} (hr : Room k X.A) {ra rb : RE} (ha : DE X B M a ra) (hb : DE X B M b rb) : DE X B M (.Compare a [.Eq] [b] pos) (r2 ra rb (oEqD id)) := de_cmp (op_eqD hr.units) tells_eqD mo_oEqD ha hb (nomark _)
theorem de_neD {k : Nat} (hr : Room k X.A) {ra rb : RE} (ha : DE X B M a ra) (hb : DE X B M b rb) : DE X B M (.Compare a [.NotEq] [b] pos) (r2 ra rb (oEqD not)) := de_cmp (op_neD hr.units) tells_neD mo_oEqD ha hb (nomark _)
theorem dt_eqD {k : Nat} (hr : Room k X.A) {ra rb : RE} (ha : DE X B M a ra) (hb : DE X B M b rb) : DT X B M (.Compare a [.Eq] [b] pos) (rTB (r2 ra rb (oEqD id))) := dt_cmp (op_eqD hr.units) tells_eqD mo_oEqD ha hb (nomark _)
theorem dt_neD {k : Nat} (hr : Room k X.A) {ra rb : RE} (ha : DE X B M a ra) (hb : DE X B M b rb) : DT X B M (.Compare a [.NotEq] [b] pos) (rTB (r2 ra rb (oEqD not))) := dt_cmp (op_neD hr.units) tells_neD mo_oEqD ha hb (nomark _)
end
/-! ### dicts, locked when made -/
section
variable {X : Cx} {pins : List (Addr × Obj)} {σ : L2.St} {H : Hp} {s : Shared}
theorem Inv.freezeD {p : Addr} {xs : List (Key × V)} (I : Inv X pins σ H s) (hp : H p = some (.dK xs)) : ∃ o : Obj, o.cls = .type "dict" ∧ Inv X pins σ (upd H p (.frz o (.dK xs))) s := by
  obtain ⟨z, y, vs, r, o, es, ep, e, ex, c⟩ := I.hok p _ hp
  have ne : ∀ b u, H b = some u → (∀ ys, u ≠ .dK ys) → b ≠ p := fun b u h nu w => by
    rw [w, hp] at h
    cases h
    exact nu xs rfl
  have nn : ∀ b, H b = none → b ≠ p := fun b h w => by
    rw [w, hp] at h
    cases h
  refine ⟨o, ex.1, ⟨I.ok, I.os, I.bare, I.base.trans ⟨fun b o q _ _ _ => q, fun b o q _ _ _ => ⟨o.slots, q⟩, fun b o q n _ => by rw [upd_ne (nn b n)]; exact n, fun b o q _ => ⟨o, q⟩,
    fun b ys q => by rw [upd_ne (ne b _ q (fun _ w => by cases w))]; exact q, fun b o u q => by rw [upd_ne (ne b _ q (fun _ w => by cases w))]; exact q, fun b ps q => ⟨#[], by rw [upd_ne (ne b _ q (fun _ w => by cases w)), q]; simp⟩⟩,
    I.loc, I.cell, by rw [upd_ne (nn _ I.free)]; exact I.free, fun x c h => by rw [upd_ne (nn _ (I.freeC x c h))]; exact I.freeC x c h, fun q hq => ?_, fun b u q => ?_, I.len⟩⟩
  · obtain ⟨h1, h2, h3⟩ := I.pin q hq
    exact ⟨h1, by rw [upd_ne (nn _ h2)]; exact h2, h3⟩
  · by_cases hb : b = p
    · rw [hb, upd_same] at q
      cases q
      rw [hb]
      exact ⟨e, z, y, vs, r, o, es, ep, e, ex, c⟩
    · rw [upd_ne hb] at q
      refine (I.hok b u q).stay (fun _ _ _ w => w) (fun c w => by rw [upd_ne (ne c _ w (fun _ w2 => by cases w2))]; exact w) fun c ys w => by rw [upd_ne (ne c _ w (fun _ w2 => by cases w2))]; exact w
def frzDQ (Q : VK) : VK := fun v H => ∃ p xs, v = .ref p ∧ H p = some (.dK xs) ∧ ∀ o : Obj, o.cls = .type "dict" → Q v (upd H p (.frz o (.dK xs)))
theorem EP.frzD {Q : VK} {u : Value} (h : EP X pins σ (frzDQ Q) u s) : EP X pins σ Q u s := by
  obtain ⟨v, H', I, r, p, xs, ev, hp, q⟩ := h
  obtain ⟨o, hc, J⟩ := Inv.freezeD I hp
  exact ⟨v, _, J, r, q o hc⟩
end
theorem pe_frzD {X : Cx} {e : Expr} {t : TE} (h : PE X e t) : PE X e (fun σ H Q => t σ H (frzDQ Q)) := ⟨fun pins s σ H Q I w => thn (h.run pins s σ H _ I w) fun _ _ q => EP.frzD q⟩
section
variable {X : Cx} {B : Hp} {M : List Addr} {e a b c : Expr} {es : List Expr} {pos : Pos}
theorem de_dic0 : DE X B M (.Dict [] [] pos) (rC (.dic [])) :=
  DE.mk' (pe_frzD pe_dnewK) mo_rC fun σ H Q ρ S q => fun p hp => ⟨p, [], rfl, upd_same, fun o hc => by
    have sm : Same H (upd (upd H p (.dK [])) p (.frz o (.dK []))) := fun b u h => by
      rw [upd_ne (ne_of_none h hp), upd_ne (ne_of_none h hp)]
      exact h
    exact q _ _ (Keep.of sm) (OwnEq.refl _) (S.same sm) ⟨p, rfl, o, hc, upd_same⟩⟩
/-- {k: v} of two ints -/
theorem de_dic1 {k v : Int} {j1 j2} {p1 p2 : Pos} : DE X B M (.Dict [some (.Constant (.int k) j1 p1)] [.Constant (.int v) j2 p2] pos) (rC (.dic [(.inl k, .int v)])) :=
  DE.mk' (pe_frzD (pe_disp (pps_cons pe_int pe_int pps_nil) rfl rfl (by simp) (by show 1 ≤ 15; decide))) mo_rC fun σ H Q ρ S q => fun p hp => by
    refine ⟨upd_same, [(.inl k, .int v)], rfl, by show 1 ≤ 15; decide, ⟨p, _, rfl, upd_same, fun o hc => ?_⟩⟩
    have sm : Same H (upd (upd (upd H p (.dK [])) p (.dK (mergeK [] [(.inl k, .int v)]))) p (.frz o (.dK (mergeK [] [(.inl k, .int v)])))) := fun b u h => by
      rw [upd_ne (ne_of_none h hp), upd_ne (ne_of_none h hp), upd_ne (ne_of_none h hp)]
      exact h
    exact q _ _ (Keep.of sm) (OwnEq.refl _) (S.same sm) ⟨p, rfl, o, hc, upd_same⟩
end
/-! ### defs with defaults -/
/-- the def of that name, called with fewer arguments than it has: dd the data that fill up -/
def HasD (P : Program) (w : World) (K : PySem.W.Frag) (mg : Str → Option Value) (base : Heap) (x : Str) (k : Nat) (ps : List Str) (dd : List V) (sp : Sp) : Prop :=
  ∃ f fd ds, mg x = some (.ref f) ∧ PySem.W.keepIn K (.ref f) = true ∧ Vals dd ds ∧ Binds K fd ps ds ∧ FnOk P w K mg base (L2N.CX P w) k f fd ps sp
section
variable {X : Cx} {B : Hp} {M : List Addr} {e a b c : Expr} {es : List Expr} {pos : Pos}
/-- values that are ints -/
def intD (ns : List Int) : List V := ns.map V.int
def rCallD (S : FS) (ra : RA) (dd : List Int) (Xp : Exn → Prop) : RE := fun ρ Q => ra ρ fun ws ρ1 => ∃ g, ws ++ dats (dd.map D.int) = dats (S.args g) ∧ S.pre g ∧ (∀ d, S.post g d → Q (.d d) ρ1) ∧ ∀ x, S.exc g x → Xp x
theorem woks_app {K : PySem.W.Frag} {H : Hp} {ρ : En} : ∀ {ws us : List W} {vs vr : List V}, WOks K H ρ ws vs → WOks K H ρ us vr → WOks K H ρ (ws ++ us) (vs ++ vr)
  | [], _, _, _, h, h' => by rw [show _ = [] from h]; exact h'
  | w :: ws, _, _, _, h, h' => by
    obtain ⟨v, vr, rfl, r, rr⟩ := h
    exact ⟨v, _, rfl, r, woks_app rr h'⟩
theorem woks_ints {K : PySem.W.Frag} {H : Hp} {ρ : En} : ∀ ns : List Int, WOks K H ρ (dats (ns.map D.int)) (intD ns)
  | [] => rfl
  | n :: ns => ⟨_, _, rfl, rfl, woks_ints ns⟩
theorem de_callXD {x : Str} {k : Nat} {ps : List Str} {S : FS} {dd : List Int} {ra : RA} {p : Pos} {E : XK} {Xp : Exn → Prop} (G : HasD X.prog X.w X.K X.mg X.base x k ps (intD dd) (spF X.K S)) (hr : Room k X.A) (hx : Passes (L2N.CX X.prog X.w) X E)
    (hE : ∀ x cls dx H', Xp x → Frm M B H' → XRep X.K H' x cls dx → E cls dx H') (ha : DA X B M (a :: es) ra) (hg : Gl X x := by rfl) (hdb : (x == ("__debug__" : Str)) = false := by decide) (he : starEach (a :: es) X.env = (false, eval a X.env) :: starEach es X.env := by rfl) (hpl : (backTo pos (starEach es X.env)).any (·.1) = false := by rfl) :
    DE X B M (.Call (.Name x p) (a :: es) [] pos) (rCallD S ra dd Xp) := by
  obtain ⟨f, fd, ds, hm, hk, hv, hb, F⟩ := G
  refine DE.mk' (pe_call F hr hg hm hk hb hv hx ha.pa hdb he hpl) (fun ρ P P' w q => ha.mo ρ _ _ (fun ws ρ1 ⟨g, e, p, h1, h2⟩ => ⟨g, e, p, fun d hd => w _ _ (h1 d hd), h2⟩) q) fun σ H Q ρ Sx q => ?_
  refine intoA ha Sx q fun ws ρ1 vs H1 ⟨g, e1, pre, h1, h2⟩ k1 o1 S1 r1 => ?_
  have r2 := woks_app r1 (woks_ints (K := X.K) (H := H1) (ρ := ρ1) dd)
  rw [e1] at r2
  refine ⟨g, dats_ok r2, pre, fun d v H' hd fr rv => ?_, fun x cls dx H' hx fr rx => ?_⟩
  · exact h1 d hd v H' (k1.trans fr.keep) o1 (S1.same fr.same) rv
  · exact hE x cls dx H' (h2 x hx) (S1.frm.trans (Frm.of fr.same)) rx
theorem de_callD {x : Str} {k : Nat} {ps : List Str} {S : FS} {dd : List Int} {ra : RA} {p : Pos} (G : HasD X.prog X.w X.K X.mg X.base x k ps (intD dd) (spF X.K S)) (hr : Room k X.A) (ha : DA X B M (a :: es) ra) (hg : Gl X x := by rfl) (hdb : (x == ("__debug__" : Str)) = false := by decide) (he : starEach (a :: es) X.env = (false, eval a X.env) :: starEach es X.env := by rfl) (hpl : (backTo pos (starEach es X.env)).any (·.1) = false := by rfl) :
    DE X B M (.Call (.Name x p) (a :: es) [] pos) (rCallD S ra dd fun _ => False) := de_callXD G hr passN (fun _ _ _ _ z => z.elim) ha hg hdb he hpl
/-- a lent list with defaults behind -/
def rCallSD (S : SS) (i : Nat) (ra : RA) (dd : List Int) : RE := fun ρ Q => kOwn i (fun _ _ => ra ρ fun ws ρ1 => kOwn i (fun p s => ∃ g, ws ++ dats (dd.map D.int) = dats (S.args g) ∧ S.s0 g s ∧ S.pre g ∧ ∀ d s', S.post g d → S.s1 g s' → Q (.d d) (ρ1.set i (.own p s'))) ρ1) ρ
theorem de_callSD {x : Str} {k : Nat} {ps : List Str} {S : SS} {dd : List Int} {ra : RA} {p ps' : Pos} {y : Str} {i : Nat} (G : HasD X.prog X.w X.K X.mg X.base x k ps (intD dd) (spS X.K S)) (hr : Room k X.A) (hy : DE X B M (.Name y ps') (rVar i)) (ha : DA X B M es ra) (hg : Gl X x := by rfl) (hdb : (x == ("__debug__" : Str)) = false := by decide)
    (he : starEach (.Name y ps' :: es) X.env = (false, eval (.Name y ps') X.env) :: starEach es X.env := by rfl) (hpl : (backTo pos (starEach es X.env)).any (·.1) = false := by rfl) : DE X B M (.Call (.Name x p) (.Name y ps' :: es) [] pos) (rCallSD S i ra dd) := by
  obtain ⟨f, fd, dsv, hm, hk, hv, hb, F⟩ := G
  refine DE.mk' (pe_call F hr hg hm hk hb hv passN (pa_cons hy.pe ha.pa he) hdb he hpl) (fun ρ P P' w q => q.imp fun _ _ q => ha.mo ρ _ _ (fun ws ρ1 q => q.imp fun p s ⟨g, e1, hs, pre, h1⟩ => ⟨g, e1, hs, pre, fun d s' hd hs' => w _ _ (h1 d s' hd hs')⟩) q) fun σ H Q ρ Sx hh => ?_
  obtain ⟨p0, s0, e0, q⟩ := hh.el
  refine into hy Sx (P := fun w ρ' => w = .o i ∧ ρ' = ρ) (rVar.mk (w := .o i) (by unfold rd; rw [e0]) ⟨rfl, rfl⟩) fun w ρ' vo H1 ⟨ew, eρ⟩ k1 o1 S1 r1 => ?_
  subst ew eρ
  refine intoA ha S1 q fun ws ρ1 vs H2 hh k2 o2 S2 r2 => ?_
  obtain ⟨p, s, e2, g, e1, hs, pre, h1⟩ := hh.el
  obtain ⟨p', s', e3, ev⟩ := WOk.keep k2 o2 r1
  rw [e2] at e3
  cases e3
  obtain ⟨vs0, hp, rr⟩ := S2.own_at e2
  have r3 := woks_app r2 (woks_ints (K := X.K) (H := H2) (ρ := ρ1) dd)
  rw [e1] at r3
  refine ⟨g, p, vs0, s, vs ++ intD dd, by rw [ev]; rfl, hp, rr, hs, dats_ok r3, pre, fun d s2 v H' vs' hd hs2 fr hp' rr' rv => ?_⟩
  exact h1 d s2 hd hs2 v H' ((k1.trans k2).trans fr.keep) ((o1.trans o2).trans (own_mut e2)) (S2.called e2 fr hp' rr') rv
end
/-! ### a def of the module keeps its promise -/
section
variable {P : Program} {w : World} {K : PySem.W.Frag} {mg : Str → Option Value} {base : Heap} {x qual : Str} {params : Arguments} {body : List Stmt} {scope : Scope} {f : Addr} {fd : FuncData}
theorem has_of {ps : List Str} {k : Nat} {sp : Sp} (F : FunD K x qual params body scope [] [] f fd) (gm : mg x = some (.ref f)) (ok : FnOk P w K mg base (L2N.CX P w) k f fd ps sp)
    (h : ∀ (kV doc pm : Value) (an : Option Addr) (cdv ct : Value) (us : List Value), us.length = ps.length → bindArgs (PySem.W.fnOf x qual params body scope .none kV doc pm an cdv ct) ⟨us, []⟩ = pure (ps.zip us)) : Has P w K mg base x k ps sp :=
  ⟨f, fd, gm, F.kp, F.bindsN h, ok⟩
theorem hasD_of {ps : List Str} {k n j : Nat} {dd : List Int} {sp : Sp} (F : FunD K x qual params body scope (intD dd) [] f fd) (gm : mg x = some (.ref f)) (ok : FnOk P w K mg base (L2N.CX P w) k f fd ps sp) (hd : intD dd ≠ []) (hn : n + ((intD dd).length - j) = ps.length)
    (h : ∀ (T : Addr) (kV doc pm : Value) (an : Option Addr) (cdv ct : Value) (us its : List Value), us.length = n → its.length = (intD dd).length →
      ∃ k, bindArgs (PySem.W.fnOf x qual params body scope (.ref T) kV doc pm an cdv ct) ⟨us, []⟩ = seqItems? (.ref T) >>= k ∧ k (some its.toArray) = pure (ps.zip (us ++ its.drop j))) : HasD P w K mg base x k ps ((intD dd).drop j) sp := by
  obtain ⟨ds, hv, hb⟩ := F.binds1 n j hd hn h
  exact ⟨f, fd, ds, gm, F.kp, hv, hb, ok⟩
end
end N
/-! N8 -/
set_option Elab.async false
set_option linter.all false
set_option maxRecDepth 100000
set_option maxHeartbeats 1000000
/-! N8: lists without a name of their own (inner lists that are changed). -/
namespace N
open PySem PySem.Spec PyProof.Rows L2
section
variable {K : PySem.W.Frag} {B H H' : Hp} {M : List Addr} {ρ : En} {σ : L2.St}
theorem app_at {ρ : En} {s t : Slot} {i : Nat} (h : (ρ ++ [s])[i]? = some t) : (i < ρ.length ∧ ρ[i]? = some t) ∨ (i = ρ.length ∧ t = s) := by
  by_cases hi : i < ρ.length
  · rw [List.getElem?_append_left hi] at h
    exact .inl ⟨hi, h⟩
  · rw [List.getElem?_append_right (by omega)] at h
    by_cases e : i = ρ.length
    · subst e
      rw [Nat.sub_self] at h
      exact .inr ⟨rfl, by simpa using h.symm⟩
    · have : ([s] : En)[i - ρ.length]? = none := List.getElem?_eq_none_iff.mpr (by simp; omega)
      rw [this] at h
      cases h
theorem Sta.ghost {p : Addr} {ds : List D} (S : Sta K B M ρ σ H) (n : NewAt K B ρ H p ds) (hl : σ.length ≤ ρ.length) : Sta K B M (ρ ++ [.own p ds]) σ H := by
  refine ⟨S.frm, fun i s e => ?_, fun i j q q' fs gs ei ej hij => ?_, fun i q fs e => ?_, S.mh, fun i P q e => by
    rcases app_at e with ⟨_, e⟩ | ⟨_, e⟩
    · exact S.tbi i P q e
    · cases e⟩
  · rcases app_at e with ⟨_, e⟩ | ⟨hi, e⟩
    · exact S.ok i s e
    · subst e
      exact ⟨.inl (List.getElem?_eq_none_iff.mpr (by omega)), n.at_⟩
  · rcases app_at ei with ⟨_, ei⟩ | ⟨hi, ei⟩
    · rcases app_at ej with ⟨_, ej⟩ | ⟨hj, ej⟩
      · exact S.dis i j q q' fs gs ei ej hij
      · cases ej
        exact n.nO i q fs ei
    · rcases app_at ej with ⟨_, ej⟩ | ⟨hj, ej⟩
      · cases ei
        exact Ne.symm (n.nO j q' gs ej)
      · exact absurd (hi.trans hj.symm) hij
  · rcases app_at e with ⟨_, e⟩ | ⟨hi, e⟩
    · exact S.new i q fs e
    · cases e
      exact .inl n.nB
theorem own_ghost {s : Slot} : OwnEq ρ (ρ ++ [s]) := fun i p ds e => ⟨ds, by rw [List.getElem?_append_left (List.getElem?_eq_some_iff.mp e).1]; exact e⟩
/-- the lists behind the n names are forgotten -/
theorem Sta.take (S : Sta K B M ρ σ H) (n : Nat) : Sta K B M (ρ.take n) σ H := by
  have look : ∀ {i : Nat} {s : Slot}, (ρ.take n)[i]? = some s → ρ[i]? = some s := fun {i s} e => by
    rw [List.getElem?_take] at e
    split at e
    · exact e
    · cases e
  exact ⟨S.frm, fun i s e => S.ok i s (look e), fun i j p q fs gs ei ej => S.dis i j p q fs gs (look ei) (look ej), fun i p fs e => S.new i p fs (look e), S.mh, fun i P q e => S.tbi i P q (look e)⟩
/-- every a of as is the list ds that some slot behind n owns -/
inductive Gh (ρ : En) (n : Nat) : List Addr → List (List D) → Prop
  | nil : Gh ρ n [] []
  | cons {a : Addr} {as : List Addr} {ds : List D} {dss : List (List D)} {j : Nat} (hj : n ≤ j) (e : ρ[j]? = some (.own a ds)) (r : Gh ρ n as dss) : Gh ρ n (a :: as) (ds :: dss)
theorem repL_obj : ∀ {as : List Addr} {vs : List V}, RepL K H (as.map D.obj) vs → vs = as.map V.ref
  | [], _, h => h
  | a :: as, _, h => by
    obtain ⟨v, vr, e, r, rr⟩ := h
    rw [e, show v = V.ref a from r, repL_obj rr]
    rfl
end
section
variable {X : Cx} {pins : List (Addr × Obj)} {σ : L2.St} {s : Shared} {B : Hp} {M : List Addr}
theorem glock : ∀ {as : List Addr} {dss : List (List D)} {ρ : En} {n : Nat} {H : Hp}, Gh ρ n as dss → as.Nodup → Inv X pins σ H s → Sta X.K B M ρ σ H →
    ∃ H', Keep H H' ∧ Inv X pins σ H' s ∧ Sta X.K B M (ρ.take n) σ H' ∧ RepL X.K H' (dss.map D.lst) (as.map V.ref)
  | [], _, ρ, n, H, .nil, _, I, S => ⟨H, Keep.refl _, I, S.take n, rfl⟩
  | a :: as, _, ρ, n, H, @Gh.cons _ _ _ _ ds dss j hj e r, nd, I, S => by
    obtain ⟨nd1, nd2⟩ := List.nodup_cons.mp nd
    obtain ⟨vs, hv, rr⟩ := S.own_at e
    obtain ⟨o, hc, J⟩ := Inv.freeze I hv
    obtain ⟨k1, S1⟩ := lock_st (o := o) S e hv rr
    have r1 : Gh (ρ.set j (.v (.lst ds))) n as dss := by
      clear nd nd2 J I
      induction r with
      | nil => exact .nil
      | @cons a' as' ds' dss' j' hj' e' r' ih =>
        have hne : j' ≠ j := fun z => by
          subst z
          rw [e] at e'
          cases e'
          exact nd1 List.mem_cons_self
        exact .cons hj' (by rw [List.getElem?_set_ne (Ne.symm hne)]; exact e') (ih fun h => nd1 (List.mem_cons_of_mem _ h))
    obtain ⟨H', k2, I2, S2, r2⟩ := glock r1 nd2 J S1
    refine ⟨H', k1.trans k2, I2, ?_, .ref a, _, rfl, ⟨a, vs, rfl, ⟨o, k2 _ _ upd_same trivial⟩, RepL.keep (k1.trans k2) ds rr⟩, r2⟩
    have : (ρ.set j (.v (.lst ds))).take n = ρ.take n := by
      apply List.ext_getElem?
      intro i
      rw [List.getElem?_take, List.getElem?_take]
      split
      · rw [List.getElem?_set_ne (by omega)]
      · rfl
    rw [this] at S2
    exact S2
end
section
variable {X : Cx} {B : Hp} {M : List Addr} {e a b c : Expr} {es : List Expr} {pos : Pos} {sts : List Stmt}
/-- a new list that no name holds -/
def rGn (n : Nat) (r : RN) : RE := fun ρ Q => r ρ fun ds ρ' => n ≤ ρ'.length ∧ ∀ p, (∀ (j : Nat) q es, ρ'[j]? = some (Slot.own q es) → q ≠ p) → Q (.d (.obj p)) (ρ' ++ [.own p ds])
theorem de_gnew (n : Nat) {r : RN} (h : DN X B M e r) (hn : X.N.length = n := by rfl) : DE X B M e (rGn n r) := by
  refine ⟨pe_impL h.pe fun σ H Q hl ⟨ρ, S, q⟩ => ⟨ρ, S, h.mo ρ _ _ (fun ds ρ' ⟨h1, q⟩ => ?_) q⟩, fun ρ P P' w q => h.mo ρ _ _ (fun ds ρ' ⟨h1, q⟩ => ⟨h1, fun p hp => w _ _ (q p hp)⟩) q⟩
  intro p H' k o S' nw
  exact q p nw.nO _ H' k (o.trans own_ghost) (S'.ghost nw (by omega)) rfl
/-- o.append(e), o such a list -/
def rAppG (ro ra : RE) : RE := fun ρ Q => ro ρ fun w ρ1 => ∃ p, w = .d (.obj p) ∧ (∃ (j : Nat) (ds : List D), ρ1[j]? = some (Slot.own p ds)) ∧ ra ρ1 (kD fun x ρ2 => ∃ (j : Nat) (ds : List D), ρ2[j]? = some (Slot.own p ds) ∧ ds.length < 16777216 ∧ Q (.d .non) (ρ2.set j (.own p (ds ++ [x]))))
theorem de_appendG {o : Expr} {apos : Pos} {ro ra : RE} (ho : DE X B M o ro) (ha : DE X B M a ra)
    (hbase : attributeBase o "append" X.env (eval o X.env) = eval o X.env := by rfl)
    (hfew : ((backTo pos (starEach [a] X.env)).all (fun x => !x.1) && (backToKw pos (keywordEach [] X.env)).all (fun x => x.1.isSome)
      && decide ([a].length + ([] : List Keyword).length + (if ([] : List Keyword).isEmpty then 0 else 1) < 30)) = true := by rfl)
    (hline : (apos.endLine == pos.line) = true := by rfl) (hs : starEach [a] X.env = (false, eval a X.env) :: starEach [] X.env := by rfl) (hplain : (backTo pos (starEach [] X.env)).any (·.1) = false := by rfl) :
    DE X B M (.Call (.Attribute o "append" apos) [a] [] pos) (rAppG ro ra) := by
  refine DE.mk' (pe_bm PySem.F.plainAttrs_list PySem.F.slot_list_append PySem.F.type_list_append mt_append ho.pe (pa_cons ha.pe pa_nil hs) hbase hfew hline hs hplain) (fun ρ P P' w q => ho.mo ρ _ _ (fun w1 ρ1 ⟨p, e1, h1, q⟩ => ⟨p, e1, h1, ha.mo ρ1 _ _ (fun w2 ρ2 q => by
    obtain ⟨x, rfl, j, ds, e2, hl, q⟩ := q.el
    exact ⟨j, ds, e2, hl, w _ _ q⟩) q⟩) q) fun σ H Q ρ S q => ?_
  refine into ho S q fun w ρ1 v H1 ⟨p, e1, ⟨j0, ds0, h1⟩, q⟩ k1 o1 S1 r1 => ?_
  subst e1
  obtain rfl : v = V.ref p := r1
  obtain ⟨vs0, hp0, _⟩ := S1.own_at h1
  refine ⟨tyV_own hp0, into ha S1 q fun w2 ρ2 v2 H2 hh k2 o2 S2 r2 => ?_⟩
  obtain ⟨x, e2, j, ds, e3, hl, q2⟩ := hh.el
  subst e2
  obtain ⟨vs, hp, rr⟩ := S2.own_at e3
  refine ⟨p, vs, v2, rfl, rfl, hp, by rw [RepL.length rr, sizeLine_eq]; exact hl, ?_⟩
  exact q2 .non _ ((k1.trans k2).trans (Sta.keep_mut (i := j) hp)) ((o1.trans o2).trans (own_mut e3)) (S2.mut e3 hp (RepL.snoc rr r2)) rfl
/-- from here on the inner lists of slot i's list stay -/
def rGlock (n i : Nat) (r : RS) : RS := fun e ρ => ∃ p as dss, ρ[i]? = some (.own p (as.map D.obj)) ∧ Gh ρ n as dss ∧ as.Nodup ∧ r e ((ρ.take n).set i (.own p (dss.map D.lst)))
theorem ds_glock {r : RS} (n i : Nat) (h : DSs X B M sts r) (hi : i < n := by decide) : DSs X B M sts (rGlock n i r) := ⟨⟨fun pins s σ H E I ⟨ρ, e, S, q, ok⟩ => by
  obtain ⟨p, as, dss, ep, g, nd, q⟩ := q
  obtain ⟨vs, hv, rr⟩ := S.own_at ep
  obtain ⟨H', k, J, S', r'⟩ := glock g nd I S
  have ev := repL_obj rr
  subst ev
  have ep' : (ρ.take n)[i]? = some (.own p (as.map D.obj)) := by rw [List.getElem?_take, if_pos hi]; exact ep
  obtain ⟨us, hu, ru⟩ := S'.own_at ep'
  have eu := repL_obj ru
  subst eu
  have S2 : Sta X.K B M ((ρ.take n).set i (.own p (dss.map D.lst))) σ H' := by
    have hlt : i < (ρ.take n).length := (List.getElem?_eq_some_iff.mp ep').1
    have look : ∀ {j : Nat} {q fs}, ((ρ.take n).set i (Slot.own p (dss.map D.lst)))[j]? = some (Slot.own q fs) → ∃ fs', (ρ.take n)[j]? = some (Slot.own q fs') := fun {j q fs} h => by
      by_cases hj : j = i
      · subst hj
        rw [List.getElem?_set_self hlt] at h
        cases h
        exact ⟨_, ep'⟩
      · rw [List.getElem?_set_ne (Ne.symm hj)] at h
        exact ⟨fs, h⟩
    refine ⟨S'.frm, fun j s ej => ?_, fun j k' q q' fs gs ej ek hjk => ?_, fun j q fs ej => ?_, S'.mh, fun j P q h => S'.tbi j P q (tab_set h fun _ _ z => by cases z)⟩
    · by_cases hj : j = i
      · subst hj
        rw [List.getElem?_set_self hlt] at ej
        cases ej
        exact ⟨(S'.ok j _ ep').1, _, hu, r'⟩
      · rw [List.getElem?_set_ne (Ne.symm hj)] at ej
        exact S'.ok j s ej
    · obtain ⟨a, h1⟩ := look ej
      obtain ⟨b, h2⟩ := look ek
      exact S'.dis j k' q q' a b h1 h2 hjk
    · obtain ⟨a, h1⟩ := look ej
      exact S'.new j q a h1
  exact h.pss.run pins s σ H' E J ⟨_, e, S2, q, ok.later k⟩⟩⟩
end
end N
/-! NL -/
set_option Elab.async false
set_option linter.all false
set_option maxRecDepth 100000
set_option maxHeartbeats 2000000
/-! NL: LamX's rules of a lambda handed to a def, turned to exceptions of which is known that their context is None (L2N). -/
namespace LamN
open PySem PySem.Spec PyProof.Rows L2 LamX
/-- the context of the lambda's body, entered at s from the frames outer -/
def lamCxN (X : Cx) (A : Around) (outer : List Env) (s : Shared) (H : Hp) (E : XK) (scope : Scope) (f c' : Addr) : Cx where
  prog := X.prog
  w := X.w
  K := X.K
  mg := X.mg
  base := X.base
  A := A.deeper (lamEnv X scope s.heap.objs.size f c')
  N := X.N
  s_0 := s
  H_0 := H
  env := lamEnv X scope s.heap.objs.size f c'
  outer := outer
  stack := lamEnv X scope s.heap.objs.size f c' :: outer
  ex := []
  fn := fun _ => false
  calm := true
  pn := []
  xe := fun e s' => wpAny (model X.prog X.w) (A.deeper (lamEnv X scope s.heap.objs.size f c')) (leaving (lamEnv X scope s.heap.objs.size f c') e) (fun _ s'' => L2N.CX X.prog X.w outer H s E e s'') (fun e' s'' => L2N.CX X.prog X.w outer H s E e' s'') s'
section
variable {X : Cx} {pins : List (Addr × Obj)} {σ : L2.St} {H HZ : Hp} {s s1 : Shared}
theorem lam_start2N {A : Around} {outer : List Env} {E : XK} {scope : Scope} {f c' : Addr} {h₁ : Heap} {tk : Nat} (I : Inv X pins σ H s) (L : LamS X.env.scope scope) (e0 : Env0 X.prog X.w X.K X.mg X.base A outer s1 HZ) (hd : A.handled = none)
    (un : Un (frs X.stack) [] H HZ s.heap s1.heap) (hns : h₁.Ns s1.heap.objs.size fun y => ([] : List (Str × Value)).reverse.lookup y) (kp : ∀ b o, s1.heap.get? b = some o → h₁.get? b = some o) :
    Inv (lamCxN X A outer s1 HZ E scope f c') [] σ HZ { s1 with heap := h₁, toks := tk } := by
  have hfree := L.has I.ok
  have cm : ∀ {y c}, (cloFrom X.env.cells scope.names []).lookup y = some c → X.env.cells.lookup y = some c := fun {y c} e => by
    rcases cloFrom_mem (PySem.mem_of_lookup e) with hm | ⟨h1, h2⟩
    · cases hm
    · obtain ⟨c1, hc⟩ := hfree _ h1 rfl
      have hc : X.env.cells.lookup y = some c1 := hc
      have e2 : c = c1 := by
        rw [h2, hc] <;> rfl
      rw [e2]
      exact hc
  have look : ∀ {y}, scope.names.lookup y = some .free → ∃ c, (cloFrom X.env.cells scope.names []).lookup y = some c := fun {y} hl => by
    have hy : (y, NameKind.free) ∈ scope.names := PySem.mem_of_lookup hl
    exact mem_lookup (cloFrom_has (cells := X.env.cells) (acc := []) hy)
  have cellK : ∀ {c : Addr} {v : Option Value}, H c = none → s.heap.IsCell c v → h₁.IsCell c v := fun {c v} n ⟨o, ho, hd⟩ => by
    obtain ⟨sl, q⟩ := un.any ho n (by simp)
    exact ⟨_, kp _ _ q, hd⟩
  have noA : ∀ b : Addr, b ∉ (lamCxN X A outer s1 HZ E scope f c').ex := fun b z => absurd (show b ∈ ([] : List Addr) from z) (by simp)
  refine ⟨⟨e0.mod, L.kind, rfl, rfl, Nat.le_refl _, fun y z c e1 e2 => I.ok.inj y z c (cm e1) (cm e2), fun y hy => ?_, fun y c z _ => ?_, fun _ => hd, Around.frames_deeper e0.frames, .inr ⟨rfl, rfl⟩, fun b z => absurd z (noA b), e0.bs, e0.bsz, fun b _ _ => noA b,
      fun b z => absurd z (noA b), e0.funs, e0.frf⟩,
    rfl, e0.bare, Un.kept kp, ⟨_, hns, fun i y v e1 e2 e3 => ?_⟩, fun y c e => ?_, e0.hok.fresh (Nat.le_refl _), fun y c e => ?_, fun q hq => absurd (show q ∈ ([] : List (Addr × Obj)) ++ [] from hq) (by simp), e0.hok.kept kp, I.len⟩
  · have hy : scope.names.lookup y = some .cell ∨ scope.names.lookup y = some .free := hy
    rcases hy with hy | hy
    · exact absurd rfl (L.own _ (PySem.mem_of_lookup hy)).2
    · exact look hy
  · have z : false = true := z
    cases z
  · have e3 : Vis scope y := e3
    rcases e3 with k | k | k
    · exact absurd rfl (L.own _ (PySem.mem_of_lookup k)).1
    · exact absurd rfl (L.own _ (PySem.mem_of_lookup k)).2
    · obtain ⟨m, hn, hl⟩ := I.loc
      have hvis : Vis X.env.scope y := (L.free _ (PySem.mem_of_lookup k) rfl).elim (fun k => .inr (.inl k)) (fun k => .inr (.inr k))
      obtain ⟨w', r, q⟩ := hl i y v e1 e2 hvis
      obtain ⟨c2, h2⟩ := look k
      refine ⟨w', r, .inr ⟨.inr k, c2, h2, ?_⟩⟩
      have c1 := cm h2
      rcases q with ⟨k', _⟩ | ⟨_, c3, e', z⟩
      · have k' : X.env.scope.names.lookup y = some .local := k'
        rcases L.free _ (PySem.mem_of_lookup k) rfl with k2 | k2 <;> rw [show X.env.scope.names.lookup y = _ from k2] at k' <;> cases k'
      · rw [c1] at e'
        cases e'
        exact cellK (I.freeC y _ c1) z
  · obtain ⟨w', z⟩ := I.cell y c (cm e)
    exact ⟨w', cellK (I.freeC y c (cm e)) z⟩
  · obtain ⟨v, o, ho, hd⟩ := I.cell y c (cm e)
    exact un.free c o ho (I.freeC y c (cm e)) (by simp)
/-- x(), in the def that got the lambda: Z is that def's context, entered at s -/
theorem pe_actN {CXg : CXT} {Eg : XK} {Ng : List Str} {qg : Str} {sg : Scope} {g f c' : Addr} {cdg pm ctv : Value} {params : Arguments} {body : Expr} {scope : Scope} {k i : Nat} {a : Str} {pn : List (Addr × Obj)} {xe : Value → Shared → Prop} {W : WX} {E : XK} {tb : TE} {p1 p2 : Pos}
    (I : Inv X pins σ H s) (L : LamS X.env.scope scope) (hf : s.heap.get? f = some (PySem.W.kla_obj "<lambda>" (X.env.qual ++ "<lambda>") params body scope (cloFrom X.env.cells scope.names []) pm c' ctv)) (hfn : H f = none) (hfr : f ∉ frs X.stack)
    (hbind : bindArgs (PySem.W.kla_fn "<lambda>" (X.env.qual ++ "<lambda>") params body scope (cloFrom X.env.cells scope.names []) pm (.ref c') ctv) ⟨[], []⟩ = pure [])
    (tk : L2N.Takes ((cxOf CXg X.prog X.w X.K X.mg X.base Ng qg sg g cdg X.A X.stack s H Eg).tr pn xe) W) (hW : ∀ cls d σ' H', E cls d H' → W cls d σ' H') (hr : Room (k + 1) (X.A.deeper (envOfC qg sg s.heap.objs.size g cdg)))
    (hbody : ∀ (A : Around) (outer : List Env) (s : Shared) (H : Hp), Room k (A.deeper (lamEnv X scope s.heap.objs.size f c')) → PE (lamCxN X A outer s H E scope f c') body tb)
    (hN : Ng[i]? = some a) (hv : Vis sg a) (hd : (a == ("__debug__" : Str)) = false := by decide) (hcd : (a == ("__classdict__" : Str)) = false := by decide) :
    PE ((cxOf CXg X.prog X.w X.K X.mg X.base Ng qg sg g cdg X.A X.stack s H Eg).tr pn xe) (.Call (.Name a p1) [] [] p2)
      (fun σZ HZ Q => σZ[i]? = some (some (.ref f)) ∧ HZ c' = some (CodeO c' (X.env.qual ++ "<lambda>")) ∧ tb σ HZ Q) := by
  refine ⟨fun pinsZ sZ σZ HZ Q IZ h => ?_⟩
  obtain ⟨hs, hc, ht⟩ := h
  refine wpAny_Call_Name_kw (thn ((pe_var (pos := p1) (i := i) hN hv hd hcd).run pinsZ sZ σZ HZ (fun v H1 => v = .ref f ∧ H1 = HZ) IZ ⟨.ref f, hs, rfl, rfl⟩) fun u s1 ⟨v, H1, I1, r1, q1⟩ => ?_)
  obtain ⟨ev, eH⟩ := q1
  subst ev
  rw [eH] at I1
  obtain rfl : u = Value.ref f := r1
  have of1 : s1.heap.get? f = some (PySem.W.kla_obj "<lambda>" (X.env.qual ++ "<lambda>") params body scope (cloFrom X.env.cells scope.names []) pm c' ctv) := I1.base.keep f _ hf hfn hfr (fun z => nomatch (show f ∈ ([] : List Addr) from z))
  refine PySem.W.callWith_F0 ⟨_, _, _, _, of1⟩ ?_
  have un : Un (frs X.stack) [] H HZ s.heap s1.heap := I1.base
  obtain ⟨⟨oc, vs, t, hoc, hdc, hvc⟩, _, _⟩ := I1.hok c' _ hc
  have rc : codeAny (model X.prog X.w) (X.A.deeper (envOfC qg sg s.heap.objs.size g cdg)) (.call (.ref f) ⟨[], []⟩) (CR (L2N.CX X.prog X.w) (envOfC qg sg s.heap.objs.size g cdg :: X.stack) X.prog X.w HZ s1 Q E) s1 := by
    refine PySem.W.kla_callFunE hr.depth of1 rfl L.co L.gen rfl ⟨c', oc, vs, t, rfl, hoc, hdc, hvc⟩ ?_
    rw [hbind]
    refine wpAny_pure (wpAny_newFunctionEnv (fun y hy => (L.own y hy).2) (fun y hy => absurd hy (by simp)) (fun h₁ hns hsb => ⟨I1.nolimit.fresh _ hsb, ?_⟩) L.kind)
    show codeAny _ _ (.expr body (lamEnv X scope s1.heap.objs.size f c')) _ _
    have kp : ∀ b o, s1.heap.get? b = some o → h₁.get? b = some o := fun b o e => hsb.extBut b o (Nat.ne_of_lt (Heap.lt_size e)) (Heap.get?_push_of_some _ e)
    have J : Inv (lamCxN X (X.A.deeper (envOfC qg sg s.heap.objs.size g cdg)) (envOfC qg sg s.heap.objs.size g cdg :: X.stack) s1 HZ E scope f c') [] σ HZ { s1 with heap := h₁, toks := s1.toks + ([] : List (Str × Value)).length } :=
      lam_start2N I L I1.env0 hr.hd un hns kp
    refine PySem.W.kla_codeExpr (wpAny_mono ((hbody _ _ s1 HZ (hr.deeper _)).run [] _ _ HZ Q J ht) (fun v s' hq => ?_) fun e s' hq => hq)
    obtain ⟨w', H', J', rv, q⟩ := hq
    exact ⟨w', H', J'.os, J'.bare, J'.base, J'.hok, rv, q⟩
  have hx : Passes (L2N.CX X.prog X.w) ((cxOf CXg X.prog X.w X.K X.mg X.base Ng qg sg g cdg X.A X.stack s H Eg).tr pn xe) E := L2N.passes_call tk hW
  refine wpAny_call (codeAny_mono rc fun r s' hq => ?_)
  cases r with
  | error e => exact hx pinsZ σZ HZ s1 e s' I1 hq
  | ok fl =>
    cases fl with
    | ret u => exact I1.after hq
    | next => exact False.elim hq
    | brk => exact False.elim hq
    | cont => exact False.elim hq
end
/-- the def that calls what it got: a calls it; TT: what it makes of the lambda's reading -/
def GivesToN (X : Cx) (Ng : List Str) (x : Str) (sg : Scope) (g : Addr) (cdg : Value) (bg : List Stmt) (a : Str) (q : Str) (TT : (XK → Hp → VK → Prop) → Hp → VK → Prop) : Prop :=
  ∀ (f c' : Addr) (s : Shared) (H : Hp) (Q : VK) (tl : XK → Hp → VK → Prop),
    (∀ (W : WX) (pn : List (Addr × Obj)) (xe : Value → Shared → Prop) (E : XK) (p1 p2 : Pos), L2N.Takes ((cxOf C8.CX0 X.prog X.w X.K X.mg X.base Ng x sg g cdg X.A X.stack s H C8.E0).tr pn xe) W → (∀ cls d σ' H', E cls d H' → W cls d σ' H') →
      PE ((cxOf C8.CX0 X.prog X.w X.K X.mg X.base Ng x sg g cdg X.A X.stack s H C8.E0).tr pn xe) (.Call (.Name a p1) [] [] p2) (fun σZ HZ Q => σZ[0]? = some (some (.ref f)) ∧ HZ c' = some (CodeO c' q) ∧ tl E HZ Q)) →
    H c' = some (CodeO c' q) → TT tl H Q →
    ∃ t, PSs (cxOf C8.CX0 X.prog X.w X.K X.mg X.base Ng x sg g cdg X.A X.stack s H C8.E0).nox bg t ∧ t { nx := fun _ H' => Q .non H', rt := Q } (L2.start Ng [.ref f]) H
section
variable {X : Cx}
/-- x(lambda: body) -/
theorem pe_lamcallN {T : List (Addr × Str)} {TT : (XK → Hp → VK → Prop) → Hp → VK → Prop} {x a : Str} {g c P : Addr} {k : Nat} {pg : Arguments} {bg : List Stmt} {sg : Scope} {dV kV doc pm cdv ct oc : Value} {an od : Option Addr} {osl : Array (Option Value)} {Ng : List Str}
    {params : Arguments} {body : Expr} {scope : Scope} {t : XK → TE} {p lpos pos : Pos} (hg : Gl X x) (hm : X.mg x = some (.ref g)) (hk : PySem.W.keepIn X.K (.ref g) = true)
    (lk : X.K.lookup g = some ⟨oc, od, .func (PySem.W.fnOf x x pg bg sg dV kV doc pm an cdv ct), osl⟩) (hcg : PySem.W.codeIn X.K cdv x = true) (hb : L2.Binds X.K (PySem.W.fnOf x x pg bg sg dV kV doc pm an cdv ct) [a] []) (Sg : FnScope Ng [a] sg) (hNg : Ng[0]? = some a) (hva : Vis sg a)
    (hG : GivesToN X Ng x sg g cdv bg a (X.env.qual ++ "<lambda>") TT)
    (TB : TabB X.base X.mg c P) (hcode : X.env.code = .ref c) (hmT : (P, X.env.qual ++ "<lambda>") ∈ T) (hu : ∀ p ∈ T, p.1 = P → p.2 = X.env.qual ++ "<lambda>") (hr : Room (k + 2) X.A) (L : LamS X.env.scope scope) (hdef : defaultsOf params X.env = ([], []))
    (hbind : ∀ (q : Str) (cl : List (Str × Addr)) (pm cv ctv : Value), bindArgs (PySem.W.kla_fn "<lambda>" q params body scope cl pm cv ctv) ⟨[], []⟩ = pure [])
    (hbody : ∀ (A : Around) (outer : List Env) (s : Shared) (H : Hp) (E : XK) (f c' : Addr), Room k (A.deeper (lamEnv X scope s.heap.objs.size f c')) → PE (lamCxN X A outer s H E scope f c') body (t E))
    (hdb : (x == ("__debug__" : Str)) = false := by decide) (hd : (a == ("__debug__" : Str)) = false := by decide) (hcd : (a == ("__classdict__" : Str)) = false := by decide) :
    PE X (.Call (.Name x p) [.Lambda params body scope lpos] [] pos) (tLam T TT t) := by
  refine ⟨fun pins s σ H Q I h => ?_⟩
  obtain ⟨hT, h⟩ := h
  refine wpAny_Call_Name_kw (ld_glob I hg hm ?_ hdb)
  refine PySem.W.callWith_K (h₀ := X.base) I.ok.mod.kin hk ?_ (by rfl) (by rfl)
  show wpAny _ _ (spliced ((false, eval (.Lambda params body scope lpos) X.env) :: backTo pos (starEach [] X.env))) _ _ s
  refine Calls.spliced_cons (lam_make2 I TB hcode hmT hu hT hdef (L.has I.ok) fun f c' pm' ctv H1 s' I1 eN T1 hf hfn hfr hco => ?_)
  refine Calls.spliced_nil ⟨I1.kIn, ?_⟩
  have rc : codeAny (model X.prog X.w) X.A (.call (.ref g) ⟨[.ref f], []⟩) (CR C8.CX0 X.stack X.prog X.w H1 s' Q C8.E0) s' := by
    refine run_ofS (N := Ng) (ps := [a]) (us := [.ref f]) (vs := [.ref f]) lk hcg Sg hr I1.env0 (hb s' [.ref f] I1.kIn rfl) (.cons rfl .nil) rfl fun hr' => ?_
    obtain ⟨t', ht', hq'⟩ := hG f c' s' H1 Q (fun E H' Q' => t E σ H' Q') (fun W pn xe E p1 p2 tk hW => pe_actN (i := 0) I1 L hf hfn hfr (hbind _ _ _ _ _) tk hW hr' (fun A outer s H hr2 => hbody A outer s H E f c' hr2) hNg hva hd hcd) hco (h H1 eN T1)
    exact ⟨t', ht'.nox, hq'⟩
  refine wpAny_call (codeAny_mono rc fun r s2 hq => ?_)
  cases r with
  | error e => exact (show False from hq).elim
  | ok fl =>
    cases fl with
    | ret u => exact I1.after hq
    | next => exact False.elim hq
    | brk => exact False.elim hq
    | cont => exact False.elim hq
theorem takes0 {X : Cx} : L2N.Takes X (fun _ _ _ _ => False) := fun _ _ x => by
  obtain ⟨_, _, _, _, _, _, _, _, _, _, _, _, _, _, _, _, z⟩ := x
  exact z.elim
end
end LamN
/-! N9 -/
set_option Elab.async false
set_option linter.all false
set_option maxRecDepth 100000
set_option maxHeartbeats 1000000
/-! N9: a lambda handed to the law's answering def; isinstance of a caught error. -/
namespace N
open PySem PySem.Spec PyProof.Rows L2
section
variable {X : Cx} {B : Hp} {M : List Addr} {e a b c : Expr} {es : List Expr} {pos : Pos}
/-- what is never reached -/
theorem de_never {e : Expr} : DE X B M e (fun _ _ => False) := ⟨⟨fun pins s σ H Q I ⟨ρ, S, q⟩ => q.elim⟩, fun ρ P P' w q => q⟩
end
section
variable {K : PySem.W.Frag} {B H H1 : Hp} {M : List Addr} {ρ : En} {σ : L2.St}
def noOn : Slot → Slot
  | .own _ _ => .un
  | .tab _ _ => .un
  | s => s
/-- only what is data -/
def noOwn (ρ : En) : En := ρ.map noOn
theorem noOwn_at {ρ : En} {i : Nat} {s : Slot} (e : (noOwn ρ)[i]? = some s) : (s = .un ∨ ∃ d, s = .v d ∧ ρ[i]? = some (.v d)) := by
  unfold noOwn at e
  rw [List.getElem?_map] at e
  obtain ⟨t, ht, rfl⟩ := Option.map_eq_some_iff.mp e
  cases t with
  | un => exact .inl rfl
  | v d => exact .inr ⟨d, rfl, ht⟩
  | own p ds => exact .inl rfl
  | tab P q => exact .inl rfl
theorem Sta.data (S : Sta K B M ρ σ H) : Sta K H [] (noOwn ρ) σ H := by
  refine ⟨Frm.refl _ _, fun i s e => ?_, fun i j p q ds es ei _ _ => ?_, fun i p ds e => ?_, fun p hp => by simp at hp, fun i P q e => by rcases noOwn_at e with h | ⟨d, h, _⟩ <;> cases h⟩
  · rcases noOwn_at e with rfl | ⟨d, rfl, hd⟩
    · exact trivial
    · exact S.ok i _ hd
  · rcases noOwn_at ei with h | ⟨d, h, _⟩ <;> cases h
  · rcases noOwn_at e with h | ⟨d, h, _⟩ <;> cases h
/-- all tables among the slots are this one -/
def tabsAre (P : Addr) (q : Str) : En → Prop
  | [] => True
  | .tab P' q' :: r => P' = P ∧ q' = q ∧ tabsAre P q r
  | .un :: r => tabsAre P q r
  | .v _ :: r => tabsAre P q r
  | .own _ _ :: r => tabsAre P q r
theorem tabsAre_at {P : Addr} {q : Str} : ∀ {ρ : En}, tabsAre P q ρ → ∀ {i : Nat} {P' : Addr} {q' : Str}, ρ[i]? = some (Slot.tab P' q') → P' = P ∧ q' = q
  | [], _, _, _, _, e => by simp at e
  | .tab P2 q2 :: r, h, 0, P', q', e => by
    have e : Slot.tab P2 q2 = Slot.tab P' q' := by simpa using e
    cases e
    exact ⟨h.1, h.2.1⟩
  | .tab P2 q2 :: r, h, i + 1, P', q', e => tabsAre_at h.2.2 (by simpa using e)
  | .un :: r, h, 0, P', q', e => by simp at e
  | .un :: r, h, i + 1, P', q', e => tabsAre_at (ρ := r) h (by simpa using e)
  | .v d :: r, h, 0, P', q', e => by simp at e
  | .v d :: r, h, i + 1, P', q', e => tabsAre_at (ρ := r) h (by simpa using e)
  | .own p ds :: r, h, 0, P', q', e => by simp at e
  | .own p ds :: r, h, i + 1, P', q', e => tabsAre_at (ρ := r) h (by simpa using e)
abbrev noH : Hp := fun _ => none
theorem keep_extN (x : LamX.ExtN H H1) : Keep H H1 := fun b o e im => x b o e fun ps z => by
  subst z
  exact im
/-- a table is written, all else stays -/
theorem Sta.extN {P : Addr} {q : Str} (S : Sta K noH [] ρ σ H) (x : LamX.ExtN H H1) (t : LamX.TabS H1 P q) (ta : tabsAre P q ρ) : Sta K noH [] ρ σ H1 := by
  have fr : Frm [] noH H1 := fun b o e _ => nomatch (show (none : Option HO) = some o from e)
  refine ⟨fr, fun i s e => ?_, S.dis, S.new, fun p hp => absurd hp (by simp), S.tbi⟩
  refine SlotOk.keep (keep_extN x) (fun p ds es => ?_) (fun P' q' et => ?_) (S.ok i s e)
  · subst es
    obtain ⟨_, vs, hv, rr⟩ := S.ok i _ e
    exact ⟨vs, x _ _ hv (fun _ z => by cases z), RepL.keep (keep_extN x) ds rr⟩
  · subst et
    obtain ⟨rfl, rfl⟩ := tabsAre_at ta e
    exact t
end
/-- what the answering def makes of the call it is handed: ('told', d), or the answer that an exception gets -/
def TTans (K : PySem.W.Frag) (Ans : Exn → D → Prop) : (XK → Hp → VK → Prop) → Hp → VK → Prop := fun tl H Q =>
  tl (fun cls dx H' => ∃ x d, XRep K H' x cls dx ∧ Ans x d ∧ ∀ H'' v, Same H' H'' → Rep K H'' d v → Q v H'') H (fun v H' => [V.str "told", v].length ≤ sizeLine ∧ NewT Q H' [.str "told", v])
/-- the reading of x(lambda: body) -/
def rAns (P : Addr) (q : Str) (Ans : Exn → D → Prop) (r : (Exn → Prop) → RE) : RE := fun ρ Q => (∃ i : Nat, ρ[i]? = some (Slot.tab P q)) ∧ tabsAre P q ρ ∧ ∃ Xp : Exn → Prop, r Xp (noOwn ρ) (kD fun d _ => Q (.d (.tup [.str "told", d])) ρ) ∧ ∀ x, Xp x → ∃ d, Ans x d ∧ Q (.d d) ρ
theorem de_answer {X : Cx} {Ans : Exn → D → Prop} {x a : Str} {g c P : Addr} {k : Nat} {pg : Arguments} {bg : List Stmt} {sg : Scope} {fd : FuncData} {Ng : List Str} {params : Arguments} {body : Expr} {scope : Scope} {r : (Exn → Prop) → RE} {p lpos pos : Pos}
    (F : FunD X.K x x pg bg sg [] [] g fd) (hm : X.mg x = some (.ref g)) (Sg : FnScope Ng [a] sg) (hNg : Ng[0]? = some a) (hva : Vis sg a)
    (hb : ∀ (kV doc pm : Value) (an : Option Addr) (cdv ct : Value) (us : List Value), us.length = [a].length → bindArgs (PySem.W.fnOf x x pg bg sg .none kV doc pm an cdv ct) ⟨us, []⟩ = pure ([a].zip us))
    (hG : ∀ cdg, LamN.GivesToN X Ng x sg g cdg bg a (X.env.qual ++ "<lambda>") (TTans X.K Ans)) (TB : LamX.TabB X.base X.mg c P) (hcode : X.env.code = .ref c) (hr : Room (k + 2) X.A)
    (hbody : ∀ (Xp : Exn → Prop) (B' : Hp) (A : Around) (outer : List Env) (s : Shared) (H : Hp) (E : XK) (f c' : Addr), Room k (A.deeper (LamX.lamEnv X scope s.heap.objs.size f c')) → (∀ x cls dx H', Xp x → Frm [] B' H' → XRep X.K H' x cls dx → E cls dx H') → DE (LamN.lamCxN X A outer s H E scope f c') B' [] body (r Xp))
    (hg : Gl X x := by rfl) (L : LamX.LamS X.env.scope scope := by exact LamX.lamS_by (by decide +kernel)) (hdef : defaultsOf params X.env = ([], []) := by rfl)
    (hbind : ∀ (q : Str) (cl : List (Str × Addr)) (pm cv ctv : Value), bindArgs (PySem.W.kla_fn "<lambda>" q params body scope cl pm cv ctv) ⟨[], []⟩ = pure [] := by intros; rfl)
    (hdb : (x == ("__debug__" : Str)) = false := by decide) (hd : (a == ("__debug__" : Str)) = false := by decide) (hcd : (a == ("__classdict__" : Str)) = false := by decide) :
    DE X noH [] (.Call (.Name x p) [.Lambda params body scope lpos] [] pos) (rAns P (X.env.qual ++ "<lambda>") Ans r) := by
  obtain ⟨oc, od, dV, kV, doc, pm, an, cdv, ct, osl, efd, lk, hcd', hD, hK⟩ := F.ex
  have hdV : dV = .none := by
    rcases hD with ⟨_, h⟩ | ⟨h, _⟩
    · exact h
    · exact absurd rfl h
  subst hdV efd
  have mo : ∀ Xp, MonoE (r Xp) := fun Xp => (hbody Xp noH X.A [] X.s_0 noH (fun _ _ _ => True) 0 0 ((hr.mono (Nat.le_succ _)).deeper _) (fun _ _ _ _ _ _ _ => trivial)).mo
  refine DE.mk' (LamN.pe_lamcallN (T := [(P, X.env.qual ++ "<lambda>")]) (TT := TTans X.K Ans) (k := k)
    (t := fun E σ H Q => ∃ ρ' Xp, Sta X.K H [] ρ' σ H ∧ r Xp ρ' (kE X.K H [] ρ' σ H Q) ∧ ∀ x cls dx H', Xp x → Frm [] H H' → XRep X.K H' x cls dx → E cls dx H')
    hg hm F.kp lk hcd' (.all fun us hl => hb _ _ _ _ _ _ us hl) Sg hNg hva (hG cdv) TB hcode List.mem_cons_self (fun p hp _ => by rw [List.mem_singleton.mp hp]) hr L hdef hbind
    (fun A outer s H E f c' hr2 => ⟨fun pins s' σ H' Q I ⟨ρ', Xp, S, q, hE⟩ => (hbody Xp H' A outer s H E f c' hr2 hE).pe.run pins s' σ H' Q I ⟨ρ', S, q⟩⟩) hdb hd hcd) (fun ρ P P' w ⟨h1, h2, Xp, h3, h4⟩ => ⟨h1, h2, Xp, mo Xp _ _ _ (fun w1 ρ1 q => by obtain ⟨d, rfl, q⟩ := q.el; exact w _ _ q) h3, fun x hx => by obtain ⟨d, h5, h6⟩ := h4 x hx; exact ⟨d, h5, w _ _ h6⟩⟩) fun σ H Q ρ S ⟨⟨i, hi⟩, ta, Xp, h3, h4⟩ => ?_
  refine ⟨fun p hp => by rw [List.mem_singleton.mp hp]; exact S.ok i _ hi, fun H1 x1 t1 => ?_⟩
  have tS : LamX.TabS H1 P (X.env.qual ++ "<lambda>") := t1 _ List.mem_cons_self
  have S1 := S.extN x1 tS ta
  refine ⟨noOwn ρ, Xp, S1.data, mo Xp _ _ _ (fun w ρ2 hh => ?_) h3, fun x cls dx H' hx fr rx => ?_⟩
  · obtain ⟨d, ew, q⟩ := hh.el
    subst ew
    intro v H2 k2 o2 S2 r2
    refine ⟨by rw [sizeLine_eq]; show 2 ≤ 16777216; decide, ?_⟩
    intro o p hod hp
    have sm : Same H1 H2 := S2.frm.same
    have sm2 := same_upd (o := .frz o (.tup [.str "told", v])) hp
    refine q _ _ (((keep_extN x1).trans (Keep.of sm)).trans (Keep.of sm2)) (OwnEq.refl _) ((S1.same sm).same sm2) ⟨p, _, rfl, .inl ⟨o, hod, upd_same⟩, .str "told", [v], rfl, rfl, v, [], rfl, Rep.keep (Keep.of sm2) d r2, rfl⟩
  · obtain ⟨d, h5, h6⟩ := h4 x hx
    refine ⟨x, d, rx, h5, fun H'' v sm rv => ?_⟩
    exact h6 v H'' ((keep_extN x1).trans (fr.keep.trans (Keep.of sm))) (OwnEq.refl _) ((S1.same fr.same).same sm) rv
/-- the slots where the clause starts: e in slot 1 -/
def iniE (n : Nat) (a : Addr) : En := .un :: .v (.obj a) :: List.replicate (n - 2) .un
theorem sta_iniE {K : PySem.W.Frag} {H : Hp} {σ : L2.St} {n : Nat} {a : Addr} : Sta K H [] (iniE n a) (σ.set 1 (some (.ref a))) H := by
  have at_ : ∀ {i : Nat} {s : Slot}, (iniE n a)[i]? = some s → s = .un ∨ (i = 1 ∧ s = .v (.obj a)) := fun {i s} e => by
    unfold iniE at e
    match i, e with
    | 0, e => exact .inl (by simpa using e.symm)
    | 1, e => exact .inr ⟨rfl, by simpa using e.symm⟩
    | i + 2, e =>
      rw [List.getElem?_cons_succ, List.getElem?_cons_succ] at e
      exact .inl (List.mem_replicate.mp (List.mem_of_getElem? e)).2
  refine ⟨Frm.refl _ _, fun i s e => ?_, fun i j p q ds es ei _ _ => ?_, fun i p ds e => ?_, fun p hp => absurd hp (by simp), fun i P q e => by rcases at_ e with h | ⟨_, h⟩ <;> cases h⟩
  · rcases at_ e with rfl | ⟨rfl, rfl⟩
    · exact trivial
    · by_cases h : 1 < σ.length
      · exact .inr ⟨_, List.getElem?_set_self h, rfl⟩
      · exact .inl (List.getElem?_eq_none_iff.mpr (by rw [List.length_set]; omega))
  · rcases at_ ei with h | ⟨_, h⟩ <;> cases h
  · rcases at_ e with h | ⟨_, h⟩ <;> cases h
theorem answer_gives {X : Cx} {Ans : Exn → D → Prop} {Ng : List Str} {x a wn en q : Str} {sg : Scope} {g CW : Addr} {cdg : Value} {j : Nat} {kt} {b0 : Stmt} {sts : List Stmt} {p0 p1 p2 p3 p4 p5 p7 p8 : Pos}
    (hge : sg.names.lookup wn = some .globalImplicit) (hme : X.mg wn = some (.ref CW)) (hde : (wn == ("__debug__" : Str)) = false) (h0 : ∀ f : Addr, (L2.start Ng [V.ref f])[0]? = some (some (V.ref f))) (hN : Ng.Nodup) (hi : Ng[1]? = some en) (hln : sg.names.lookup en = some .local)
    (hS : ∀ (y : Exn) (d : D), Ans y d → y.fld = none ∧ PySem.W.exmOne X.K (.ref y.C) (.ref CW) = some true ∧ ∀ (A : Around) (st : List Env) (s : Shared) (H : Hp) (a : Addr) (oe : Obj) (pn : List (Addr × Obj)), L2N.Zn (.ref y.C) none oe → (∃ vs, oe.data = .fields vs) →
      ∃ r, (∀ B, DSs ((cxOf C8.CX0 X.prog X.w X.K X.mg X.base Ng x sg g cdg A st s H C8.E0).nox.suite a ((a, oe) :: pn)) B [] (b0 :: sts) r) ∧ r { nx := fun _ => False, rt := fun d' _ => d' = d } (iniE Ng.length a)) :
    LamN.GivesToN X Ng x sg g cdg [.Try [.Return (some (.Tuple [.Constant (.str "told") j p0, .Call (.Name a p1) [] [] p2] kt p5)) p3] [.ExceptHandler (some (.Name wn p4)) (some en) (b0 :: sts) p7] [] [] p8] a q (TTans X.K Ans) := by
  intro f c' s H Q tl act hc h
  have hgl : Gl (cxOf C8.CX0 X.prog X.w X.K X.mg X.base Ng x sg g cdg X.A X.stack s H C8.E0).nox wn := hge
  refine ⟨_, pss_one (L2N.ps_try_as (X := (cxOf C8.CX0 X.prog X.w X.K X.mg X.base Ng x sg g cdg X.A X.stack s H C8.E0).nox) (c := .ref CW) (n := en) (i := 1)
      (tb := fun W G σ H => ∃ Ech : XK, (∀ cls d σ' H', Ech cls d H' → W cls d σ' H') ∧ σ[0]? = some (some (.ref f)) ∧ H c' = some (LamX.CodeO c' q) ∧ tl Ech H fun v H' => [V.str "told", v].length ≤ sizeLine ∧ NewT G.rt H' [.str "told", v])
      (ts := fun a cls dx G σ H => ∃ (y : Exn) (d : D), XRep X.K H y cls dx ∧ Ans y d ∧ (∀ H'' v, Same H H'' → Rep X.K H'' d v → G.rt v H'') ∧ ∃ σ0 : L2.St, σ = σ0.set 1 (some (.ref a)))
      rfl rfl hN hi hln ⟨hgl, hde, .inl hme⟩ LamN.takes0 (fun W pn xe tk _ => ?_) (fun a oe cls dx pn hz hf => ?_)), ?_⟩
  · refine ⟨fun pins s' σ H' G I h' => ?_⟩
    obtain ⟨Ech, hW, h1, h2, h3⟩ := h'
    have hp := act W pn xe Ech p1 p2 tk hW
    have hq := pss_one (ps_ret (pos := p3) (pe_tupN (x1 := kt) (pos := p5) (pa_cons (pe_str (x := "told") (j := j) (pos := p0)) (pa_cons hp pa_nil rfl) rfl)))
    exact hq.run pins s' σ H' G I ⟨h1, h2, h3⟩
  · refine ⟨fun pins s' σ H' G I h' => ?_⟩
    obtain ⟨y, d, hx, ha, hQ, σ0, hσ⟩ := h'
    obtain ⟨hfl, _, hsu⟩ := hS y d ha
    obtain ⟨e1, e2⟩ := hx
    rw [hfl] at e2
    have e2 : dx = none := e2
    subst e1 e2 hσ
    obtain ⟨r, hd, hr⟩ := hsu X.A X.stack s H a oe pn hz hf
    exact (hd H').pss.run pins s' _ H' G I ⟨iniE Ng.length a, _, sta_iniE, hr, ⟨fun ρ σ H2 k S z => z.elim, fun d' ρ σ v H2 k S rv z => by
      have z : d' = d := z
      subst z
      exact hQ H2 v S.frm.same rv, fun _ _ _ _ _ z => z.elim, fun _ _ _ _ _ z => z.elim, fun _ _ _ _ _ _ _ _ _ z => z.elim⟩⟩
  · refine ⟨_, fun cls dx σ' H' hE => ?_, h0 f, hc, h⟩
    obtain ⟨y, d, hx, ha, hQ⟩ := hE
    obtain ⟨hfl, hex, _⟩ := hS y d ha
    exact ⟨true, by rw [hx.1]; exact hex, fun _ a na => ⟨y, d, hx, ha, hQ, σ', rfl⟩, fun z => nomatch z⟩
end N
/-! NH -/
set_option Elab.async false
set_option linter.all false
set_option maxRecDepth 100000
set_option maxHeartbeats 1000000
/-! NH: a comprehension over a range while an exception is handled. -/
namespace N
open PySem PySem.Spec PyProof.Rows L2
/-- a comprehension's block there: the handled exception stays in sight -/
abbrev blkH (X : Cx) (s : Shared) (H : Hp) (scope : Scope) (cenv : Env) (fp : List Addr) : Cx := { X.blk s H scope cenv fp with pn := X.pn }
section
variable {X : Cx}
theorem blkH_start {pins : List (Addr × Obj)} {σ : L2.St} {H : Hp} {s : Shared} {scope : Scope} {own : List (Str × Nat)} {fp : List Addr} (I : Inv X pins σ H s) (ok : BlkOk X.N X.env.scope scope own) (hN : X.N.Nodup) (hfp : ∀ b ∈ fp, FpOk X pins H b ∧ b < s.heap.objs.size) :
    Inv (blkH X s H scope (compEnvC scope (cellsFrom (s.heap.objs.size + 1) scope.names (cloFrom X.env.cells scope.names [])) s.heap.objs.size X.env) fp) [] (wipe σ (own.map (·.2))) H { s with heap := pushCells (s.heap.push { cls := .type "dict", data := .dict #[] }) scope.names } := by
  have J := block_start I ok hN hfp
  have o := J.ok
  refine ⟨⟨o.mod, o.kind, o.glob, o.blt, o.above, o.inj, o.has, o.cab, o.hd, o.frames, o.stk, o.exf, o.bs, o.bsz, o.noex, o.exfs, o.funs, o.frf⟩, J.os, J.bare, J.base, J.loc, J.cell, J.free, J.freeC, fun p hp => ?_, J.hok, J.len⟩
  have hp : p ∈ X.pn := by
    rcases List.mem_append.mp hp with h | h
    · exact h
    · simp at h
  obtain ⟨h1, h2, h3, h4, h5⟩ := I.pin p (List.mem_append_left _ hp)
  refine ⟨pushCells_keeps _ _ _ _ (Heap.get?_push_of_some _ h1), h2, ?_, fun z => ?_, h5⟩
  · exact Nat.ne_of_lt (Heap.lt_size h1)
  · rcases List.mem_cons.mp (I.stkSub _ z) with e | e
    · exact h3 e
    · exact h4 e
/-- L2.lc_core turned to a context in which an exception is handled -/
theorem lc_coreH {pins : List (Addr × Obj)} {s : Shared} {σ : L2.St} {H : Hp} {Q : VK} {elt tg iter : Expr} {ifs : List Expr} {scope : Scope} {own : List (Str × Nat)} {pos pos' : Pos} {wi : TI} {g : TG} {tt : TT} {te : TE} {use : Option (Value → Sem Unit)} {Qf : Value → Shared → Prop}
    (hc : L2H.HotC X) (hN : X.N.Nodup) (I : Inv X pins σ H s) (hi : L2H.PIH X tg iter wi) (ok : BlkOk X.N X.env.scope scope own)
    (hg : ∀ (s : Shared) (H : Hp) (C : Addr) (cl : List (Str × Addr)) (fp : List Addr), PG (blkH X s H scope (compEnvC scope cl C X.env) fp) tg g) (ht : ∀ (s : Shared) (H : Hp) (C : Addr) (cl : List (Str × Addr)) (fp : List Addr), PTs (blkH X s H scope (compEnvC scope cl C X.env) fp) ifs tt)
    (he : ∀ (s : Shared) (H : Hp) (C : Addr) (cl : List (Str × Addr)) (fp : List Addr), PE (blkH X s H scope (compEnvC scope cl C X.env) fp) elt te) (hs : ∀ x, foldedSetIterable iter X.env x = pure x)
    (h : tLc wi g tt te (own.map (·.2)) σ H Q)
    (hRR : ∀ D C s' m H', Inv X pins σ H' s' → Q (.ref D) H' → s'.heap.Ns C m → FpOk X pins H' C → compPost (model X.prog X.w) X.A X.xe use Qf (.ref D) C (.ok .next) s') :
    wpAny (model X.prog X.w) X.A (comprehension (.ListComp elt [⟨tg, iter, ifs, 0⟩] scope pos) scope X.env pos' (newList []) false (eval iter X.env) use) Qf X.xe s := by
  have hfree : ∀ y ∈ scope.names, y.2 = .free → ∃ c, X.env.cells.lookup y.1 = some c := fun y hy e => by
    rcases ok.free y hy e with k | k
    · exact I.ok.has _ (.inl k)
    · exact I.ok.has _ (.inr k)
  refine wpAny_comprehension_free (use := use) rfl hs (closure_ok hfree) ok.kind (fun y hy e => by rw [ok.uniq y hy, e])
    (thn (hi.run pins s σ H _ I h) fun xv s1 hx => thn hx fun itv s2 h2 => ?_)
  obtain ⟨it, fp, tn, J, H2, e, I2, T, st2, f2, q⟩ := h2
  subst e
  refine wpAny_newObj_type (newEnv_comp ?_) (by show 0 ≤ sizeLine; decide)
  generalize hD : s2.heap.objs.size = D
  have hDn : H2 D = none := I2.hok.fresh (Nat.le_of_eq hD)
  obtain ⟨W, ⟨m0, w0⟩, turn⟩ := q D hDn
  -- the new list
  generalize hs3 : ({ s2 with heap := s2.heap.push { cls := .type "list", data := .seq ([] : List Value).toArray } } : Shared) = s3
  have I3 : Inv X pins σ (upd H2 D (.lst [])) s3 := by
    rw [← hs3]
    refine I2.laid (t' := s2.toks) (fun b o e => Heap.get?_push_of_some _ e) (Nat.le_of_eq hD) ⟨Nat.zero_le _, [], 0, .nil, ?_⟩
    rw [← hD]
    exact Heap.get?_push_size _ rfl
  have h3 : s3.heap = s2.heap.push { cls := .type "list", data := .seq ([] : List Value).toArray } := by rw [← hs3]
  have sz : ∀ b ∈ fp, b < s2.heap.objs.size := fun b hb => by
    obtain ⟨o, e, _⟩ := T.obj _ _ st2 b hb
    exact Heap.lt_size e
  have f3 : ∀ b ∈ fp, FpOk X pins (upd H2 D (.lst [])) b ∧ b < s3.heap.objs.size := fun b hb => by
    have hlt := sz b hb
    refine ⟨⟨?_, (f2 b hb).2⟩, by rw [h3, Heap.size_push]; exact Nat.lt_succ_of_lt hlt⟩
    rw [upd_ne (by rw [← hD]; exact Nat.ne_of_lt hlt)]
    exact (f2 b hb).1
  have st3 : tn 0 s3.heap := T.keep _ _ _ st2 fun b _ o e => by rw [h3]; exact Heap.get?_push_of_some _ e
  have I4 := blkH_start I3 ok hN f3
  have pg := hg s3 (upd H2 D (.lst [])) s3.heap.objs.size (cellsFrom (s3.heap.objs.size + 1) scope.names (cloFrom X.env.cells scope.names [])) fp
  have pt := ht s3 (upd H2 D (.lst [])) s3.heap.objs.size (cellsFrom (s3.heap.objs.size + 1) scope.names (cloFrom X.env.cells scope.names [])) fp
  have pe := he s3 (upd H2 D (.lst [])) s3.heap.objs.size (cellsFrom (s3.heap.objs.size + 1) scope.names (cloFrom X.env.cells scope.names [])) fp
  show codeAny _ _ (.compStart (.ListComp elt [⟨tg, iter, ifs, 0⟩] scope pos) 0 (.ref it) (.ref D) (compEnvC scope (cellsFrom (s3.heap.objs.size + 1) scope.names (cloFrom X.env.cells scope.names [])) s3.heap.objs.size X.env)) (compPost (model X.prog X.w) X.A X.xe use Qf (.ref D) s3.heap.objs.size) { s3 with heap := pushCells (s3.heap.push { cls := .type "dict", data := .dict #[] }) scope.names }
  have nfp : ∀ b ∈ fp, (upd H2 D (.lst [])) b = none := fun b hb => (f3 b hb).1.1
  generalize hce : compEnvC scope (cellsFrom (s3.heap.objs.size + 1) scope.names (cloFrom X.env.cells scope.names [])) s3.heap.objs.size X.env = ce at I4 pg pt pe ⊢
  have cL : ce.locals = s3.heap.objs.size := by subst hce; rfl
  generalize hH3 : upd H2 D (.lst []) = H3 at I3 I4 pg pt pe w0 nfp f3
  generalize hs4 : ({ s3 with heap := pushCells (s3.heap.push { cls := .type "dict", data := .dict #[] }) scope.names } : Shared) = s4 at I4 ⊢
  have st4 : tn 0 s4.heap := T.keep _ _ _ st3 fun b _ o e => by rw [← hs4]; exact pushCells_keeps _ _ _ _ (Heap.get?_push_of_some _ e)
  have stat : ∀ {σ' : L2.St} {H' : Hp} {s' : Shared}, Inv (blkH X s3 H3 scope ce fp) [] σ' H' s' → (∀ b ∈ fp, H' b = none) → ∀ b ∈ fp, FpOk (blkH X s3 H3 scope ce fp) [] H' b := fun {σ' H' s'} I' hn b hb =>
    ⟨hn b hb, (I'.ok.exf b hb).1, I'.ok.exfs b hb, .inl hb, fun x c e => (I'.ok.exf b hb).2 x c e, fun p hp => (f3 b hb).1.2.2.2.2.2 p (List.mem_append_left _ (by have hp : p ∈ X.pn ++ [] := hp; simpa using hp))⟩
  have loop : codeAny (model X.prog X.w) X.A (.compLoop (.ListComp elt [⟨tg, iter, ifs, 0⟩] scope pos) 0 (.ref it) (.ref D) ce) (compPost (model X.prog X.w) X.A X.xe use Qf (.ref D) s3.heap.objs.size) s4 := by
    refine compLoop_any (fun n s' => ∃ i H', Inv (blkH X s3 H3 scope ce fp) [] (wipe σ (own.map (·.2))) H' s' ∧ tn i s'.heap ∧ (∀ b ∈ fp, H' b = none) ∧ W i n H') ?_ m0 ⟨0, H3, I4, st4, nfp, w0⟩
    rintro n s5 ⟨i, H5, I5, st5, n5, w5⟩
    rcases turn i n H5 w5 with ⟨stop, qq⟩ | ⟨go, Nx, hNx, step⟩
    · have td := T.done (blkH X s3 H3 scope ce fp) rfl rfl rfl hc i [] s5 _ H5 (fun _ _ => False) I5 (stat I5 n5) st5 stop
      refine thnF td fun r s6 ⟨hr, I6⟩ => ?_
      subst hr
      -- back in the def's context
      have I7 : Inv X pins σ H5 s6 := I3.call' (ch := fp) I6.os I6.base I6.hok I6.bare fun b hb => ⟨(f3 b hb).1.2.2.2.1, (f3 b hb).1.2.1, (f3 b hb).1.2.2.2.2.1, (f3 b hb).1.2.2.2.2.2⟩
      have nC : H5 s3.heap.objs.size = none := by
        have z : H5 ce.locals = none := I6.free
        rw [cL] at z
        exact z
      obtain ⟨m, hn, _⟩ := I6.loc
      have hn : s6.heap.Ns ce.locals m := hn
      rw [cL] at hn
      exact hRR D s3.heap.objs.size s6 m H5 I7 qq hn (I3.fpOk (Nat.le_refl _) nC)
    · have ti := T.item (blkH X s3 H3 scope ce fp) rfl rfl rfl hc i [] s5 _ H5 (fun _ _ => False) I5 (stat I5 n5) st5 go
      refine thnF ti fun r s6 ⟨u, hr, h6⟩ => ?_
      subst hr
      refine thnF h6 fun _ s7 ⟨x, H7, I7, r7, y7, st7, n7⟩ => ?_
      have I7' := I7.pinned (stat I7 n7) (T.obj _ _ st7)
      refine thnF (pg.run _ s7 _ H7 x u _ I7' r7 (step x H7 y7)) fun _ s8 ⟨σ8, H8, I8, hw8, q8⟩ => ?_
      refine thnF (pt.run _ s8 σ8 H8 _ I8 q8) fun b s9 ⟨H9, I9, q9⟩ => ?_
      -- the turn's end
      have fin : ∀ {s' : Shared} {H' : Hp}, Inv (blkH X s3 H3 scope ce fp) ([] ++ pinsAt fp s7.heap) σ8 H' s' → Nx H' → ∃ m, m < n ∧ ∃ i H', Inv (blkH X s3 H3 scope ce fp) [] (wipe σ (own.map (·.2))) H' s' ∧ tn i s'.heap ∧ (∀ b ∈ fp, H' b = none) ∧ W i m H' := fun {s' H'} I' nx => by
        obtain ⟨m', hm, w'⟩ := hNx H' nx
        have pin' : ∀ b ∈ fp, ∀ o, s7.heap.get? b = some o → s'.heap.get? b = some o ∧ H' b = none := fun b hb o e =>
          let z := I'.pin (b, o) (List.mem_append_right _ (List.mem_append_right _ (mem_pinsAt hb e)))
          ⟨z.1, z.2.1⟩
        have hl : (wipe σ (own.map (·.2))).length = σ8.length := by rw [← hw8, wipe_length]
        refine ⟨m', hm, i + 1, H', (I'.unpinned (pins := [])).weak hl (fun j v e => ?_), T.keep _ _ _ st7 fun b hb o e => (pin' b hb o e).1, fun b hb => ?_, w'⟩
        · rw [← hw8] at e
          exact (wipe_some e).1
        · obtain ⟨o, e, _⟩ := T.obj _ _ st7 b hb
          exact (pin' b hb o e).2
      cases b with
      | false =>
        simp only [Bool.false_eq_true, if_false] at q9 ⊢
        exact fin I9 q9
      | true =>
        simp only [if_true] at q9 ⊢
        refine thnF (pe.run _ s9 σ8 H9 _ I9 q9) fun z s10 ⟨yv, H10, I10, r10, acc, hD10, hz10, nx⟩ => ?_
        exact app_ok (X := blkH X s3 H3 scope ce fp) I10 hD10 hz10 r10 fun s11 I11 => fin I11 nx
  exact codeAny_compStart_list loop (T.self X.A 0 _ _ _ st4 loop)
theorem pe_lcH {elt tg iter : Expr} {ifs : List Expr} {scope : Scope} {own : List (Str × Nat)} {pos : Pos} {wi : TI} {g : TG} {tt : TT} {te : TE} (hc : L2H.HotC X) (hN : X.N.Nodup) (hi : L2H.PIH X tg iter wi) (ok : BlkOk X.N X.env.scope scope own)
    (hg : ∀ (s : Shared) (H : Hp) (C : Addr) (cl : List (Str × Addr)) (fp : List Addr), PG (blkH X s H scope (compEnvC scope cl C X.env) fp) tg g) (ht : ∀ (s : Shared) (H : Hp) (C : Addr) (cl : List (Str × Addr)) (fp : List Addr), PTs (blkH X s H scope (compEnvC scope cl C X.env) fp) ifs tt)
    (he : ∀ (s : Shared) (H : Hp) (C : Addr) (cl : List (Str × Addr)) (fp : List Addr), PE (blkH X s H scope (compEnvC scope cl C X.env) fp) elt te) (hs : ∀ x, foldedSetIterable iter X.env x = pure x := by intro _; rfl) :
    PE X (.ListComp elt [⟨tg, iter, ifs, 0⟩] scope pos) (tLc wi g tt te (own.map (·.2))) := by
  refine ⟨fun pins s σ H Q I h => ?_⟩
  rw [eval_ListComp]
  refine lc_coreH hc hN I hi ok hg ht he hs h fun D C s' m H' I' q hn f => ⟨m, hn, fun h'' sb => ?_⟩
  obtain ⟨f0, f1, f2, f3, f4, f5⟩ := f
  exact ⟨.ref D, H', I'.turned (t' := s'.toks) (fun b o hb e => (sb.2 b hb).trans e) f0 f1 f3 f4 f5, rfl, q⟩
end
section
variable {X : Cx} {B : Hp} {M : List Addr} {e a b c : Expr} {es : List Expr} {pos : Pos}
structure DIH (X : Cx) (B : Hp) (M : List Addr) (tg iter : Expr) (ri : RI) : Prop where
  pi : L2H.PIH X tg iter (fun σ H R => ∃ ρ, Sta X.K B M ρ σ H ∧ ri ρ fun n it ok ρ1 => ∀ J H1, Keep H H1 → OwnEq ρ ρ1 → Sta X.K B M ρ1 σ H1 → Walks X.K B M H1 J n it ok → R J H1)
  mo : MonoI ri
theorem piH_imp {tg iter : Expr} {w w' : TI} (h : L2H.PIH X tg iter w) (i : ∀ σ H R, w' σ H R → w σ H R) : L2H.PIH X tg iter w' := ⟨fun pins s σ H R I q => h.run pins s σ H R I (i σ H R q)⟩
theorem di_range1H {tg : Expr} {p : Pos} {ra : RA} (hm : X.mg "range" = none) (ha : DA X B M [a] ra) (hg : Gl X "range" := by rfl) (hs : starEach [a] X.env = [(false, eval a X.env)] := by rfl) : DIH X B M tg (.Call (.Name "range" p) [a] [] pos) (iRg ra rg1) := by
  refine ⟨piH_imp (L2H.pi_range1H hg hm ha.pa hs) fun σ H R ⟨ρ, S, q⟩ => ?_, fun ρ P P' w p => ha.mo ρ _ _ (fun ws ρ1 q => q.imp fun lo hi ⟨h1, h2, h3, h4, q⟩ => ⟨h1, h2, h3, h4, w _ _ _ _ q⟩) p⟩
  refine intoA ha S q fun ws ρ1 vs H1 hh k1 o1 S1 r1 => ?_
  obtain ⟨lo, hi, e, h1, h2, h3, h4, q1⟩ := hh.el
  unfold rg1 at e
  split at e
  · cases e
    obtain ⟨v, vr, rfl, r1, r2⟩ := r1
    obtain rfl : vr = [] := r2
    obtain rfl : v = _ := r1
    refine ⟨_, rfl, h3, h4, ?_⟩
    have := q1 (Itr 0 (hi - 0).toNat) H1 k1 o1 S1 walks_rg
    rw [Int.sub_zero] at this
    exact this
  · cases e
theorem dn_lcH {x : Str} {px : Pos} {elt iter : Expr} {ifs : List Expr} {scope : Scope} {i : Nat} {ri : RI} {rt : RT} {re : RE} (hc : L2H.HotC X) (hN : X.N.Nodup) (hi : DIH X B M (.Name x px) iter ri) (ok : BlkOk X.N X.env.scope scope [(x, i)])
    (ht : ∀ (B' : Hp) (M' : List Addr) (s : Shared) (H : Hp) (C : Addr) (cl : List (Str × Addr)) (fp : List Addr), DTs (blkH X s H scope (compEnvC scope cl C X.env) fp) B' M' ifs rt)
    (he : ∀ (B' : Hp) (M' : List Addr) (s : Shared) (H : Hp) (C : Addr) (cl : List (Str × Addr)) (fp : List Addr), DE (blkH X s H scope (compEnvC scope cl C X.env) fp) B' M' elt re)
    (hg : ∀ (s : Shared) (H : Hp) (C : Addr) (cl : List (Str × Addr)) (fp : List Addr), PG (blkH X s H scope (compEnvC scope cl C X.env) fp) (.Name x px) (gName i))
    (hs : ∀ x, foldedSetIterable iter X.env x = pure x := by intro _; rfl) :
    DN X B M (.ListComp elt [⟨.Name x px, iter, ifs, 0⟩] scope pos) (rLcF i ri rt re) := by
  have mt : MonoT rt := (ht B M X.s_0 (fun _ => none) 0 [] []).mo
  have me : MonoE re := (he B M X.s_0 (fun _ => none) 0 [] []).mo
  refine DN.mk' (pe_lcH (own := [(x, i)]) (g := gName i) (tt := fun σ H Q => ∃ B' M', tDT X.K B' M' rt σ H Q) (te := fun σ H Q => ∃ B' M', tD X.K B' M' re σ H Q) hc hN hi.pi ok hg
    (fun s H C cl fp => ⟨fun pins s' σ H' Q I ⟨B', M', q⟩ => (ht B' M' s H C cl fp).pts.run pins s' σ H' Q I q⟩) (fun s H C cl fp => ⟨fun pins s' σ H' Q I ⟨B', M', q⟩ => (he B' M' s H C cl fp).pe.run pins s' σ H' Q I q⟩) hs) (mo_rLc hi.mo) fun σ H Q ρ S ⟨z, q⟩ => ?_
  exact lc_imp hi.mo mt me (fun B' M' σ H Q h => ⟨B', M', h⟩) (fun B' M' σ H Q h => ⟨B', M', h⟩) S (free_of z) q
/-! ### isinstance of the caught exception -/
theorem hot_suite {a : Addr} {oe : Obj} {pn : List (Addr × Obj)} {cls : Value} {d : Option Addr} (hz : L2N.Zn cls d oe) (hf : ∃ vs, oe.data = .fields vs) : L2H.HotC (X.suite a ((a, oe) :: pn)) := by
  obtain ⟨vs, hv⟩ := hf
  exact ⟨(a, oe), ⟨rfl, vs, hv, hz.2.2 vs hv⟩, List.mem_cons_self⟩
def oIsE (K : PySem.W.Frag) (C a : Addr) : OA := fun ws ρ P => ∃ (c : Addr) (b : Bool), ws = [.d (.obj a), .d (.obj c)] ∧ PySem.W.kitOne K (.ref C) (.ref c) = some b ∧ P (.bl b)
def oIsT (K : PySem.W.Frag) (C a : Addr) : OA := fun ws ρ P => ∃ (n : String) (b : Bool), ws = [.d (.obj a), .d (.ty n)] ∧ PySem.W.kitOne K (.ref C) (.type n) = some b ∧ P (.bl b)
theorem de_isE {C a : Addr} {oe : Obj} {pn : List (Addr × Obj)} {e : Expr} {es : List Expr} {pos p : Pos} {ra : RA} (hC : ExcC X.K C) (hz : L2N.Zn (.ref C) none oe) (hf : ∃ vs, oe.data = .fields vs) (hm : X.mg "isinstance" = none) (ha : DA (X.suite a ((a, oe) :: pn)) B M (e :: es) ra)
    (hg : Gl (X.suite a ((a, oe) :: pn)) "isinstance" := by rfl) (he : starEach (e :: es) X.env = (false, eval e X.env) :: starEach es X.env := by rfl) (hpl : (backTo pos (starEach es X.env)).any (·.1) = false := by rfl) :
    DE (X.suite a ((a, oe) :: pn)) B M (.Call (.Name "isinstance" p) (e :: es) [] pos) (rA ra (oIsE X.K C a)) :=
  de_callB (call_isE hC hz.zc hf) (fun B M ρ σ H ws xs Q P S r ⟨c, b, e1, k, pp⟩ q => by
    subst e1
    obtain ⟨v, vr, rfl, r1, v2, vr2, rfl, r2, r3⟩ := r
    obtain rfl : vr2 = [] := r3
    obtain rfl : v = V.ref a := r1
    obtain rfl : v2 = V.ref c := r2
    exact ⟨.ref c, .ref c, b, rfl, fun u hu => hu, k, q _ _ H pp (Same.refl _) rfl⟩) (fun ws ρ P P' h ⟨c, b, e1, k, p⟩ => ⟨c, b, e1, k, h _ p⟩) hg hm (by decide +kernel) ha (by decide) (by decide) he hpl
theorem de_isT {C a : Addr} {oe : Obj} {pn : List (Addr × Obj)} {e : Expr} {es : List Expr} {pos p : Pos} {ra : RA} (hC : ExcC X.K C) (hz : L2N.Zn (.ref C) none oe) (hf : ∃ vs, oe.data = .fields vs) (hm : X.mg "isinstance" = none) (ha : DA (X.suite a ((a, oe) :: pn)) B M (e :: es) ra)
    (hg : Gl (X.suite a ((a, oe) :: pn)) "isinstance" := by rfl) (he : starEach (e :: es) X.env = (false, eval e X.env) :: starEach es X.env := by rfl) (hpl : (backTo pos (starEach es X.env)).any (·.1) = false := by rfl) :
    DE (X.suite a ((a, oe) :: pn)) B M (.Call (.Name "isinstance" p) (e :: es) [] pos) (rA ra (oIsT X.K C a)) :=
  de_callB (call_isE hC hz.zc hf) (fun B M ρ σ H ws xs Q P S r ⟨n, b, e1, k, pp⟩ q => by
    subst e1
    obtain ⟨v, vr, rfl, r1, v2, vr2, rfl, r2, r3⟩ := r
    obtain rfl : vr2 = [] := r3
    obtain rfl : v = V.ref a := r1
    obtain rfl : v2 = V.ty n := r2
    exact ⟨.ty n, .type n, b, rfl, fun u hu => hu, k, q _ _ H pp (Same.refl _) rfl⟩) (fun ws ρ P P' h ⟨c, b, e1, k, p⟩ => ⟨c, b, e1, k, h _ p⟩) hg hm (by decide +kernel) ha (by decide) (by decide) he hpl
end
end N
/-! NX -/
set_option Elab.async false
set_option linter.all false
set_option maxRecDepth 100000
set_option maxHeartbeats 1000000
/-! NX: defs that hold lambdas and are called again: their tables of code objects. -/
namespace N
open PySem PySem.Spec PyProof.Rows L2
/-- tables and the name that their code objects bear -/
abbrev Tbs := List (Addr × Str)
def tabL (T : Tbs) : En := T.map fun t => Slot.tab t.1 t.2
def TabFn (T : Tbs) : Prop := ∀ p ∈ T, ∀ p' ∈ T, p.1 = p'.1 → p.2 = p'.2
def NoTb (B : Hp) : Prop := ∀ b ps, B b ≠ some (.tbl ps)
def noT (H : Hp) : Hp := fun b => match H b with
  | some (.tbl _) => none
  | o => o
theorem noT_of {H : Hp} {b : Addr} {o : HO} (h : H b = some o) (n : ∀ ps, o ≠ .tbl ps) : noT H b = some o := by
  unfold noT
  rw [h]
  cases o with
  | tbl ps => exact absurd rfl (n ps)
  | _ => rfl
theorem noT_inv {H : Hp} {b : Addr} {o : HO} (h : noT H b = some o) : H b = some o := by
  unfold noT at h
  split at h
  · cases h
  · exact h
theorem noT_no {H : Hp} : NoTb (noT H) := fun b ps h => by
  have h2 := noT_inv h
  unfold noT at h
  rw [h2] at h
  cases h
theorem noH_no : NoTb noH := fun b ps h => nomatch (show (none : Option HO) = some _ from h)
theorem frm_noT {M : List Addr} {H : Hp} : Frm M (noT H) H := fun b o h _ => noT_inv h
theorem frm_ext {H H' : Hp} (f : Frm [] (noT H) H') : LamX.ExtN H H' := fun b o h n => f b o (noT_of h n) (.inr (by simp))
def own0 (M : List Addr) (ρ : En) : Prop := match M with
  | [] => True
  | q :: r => match ρ[0]? with
    | some (Slot.own p _) => q = p ∧ r = []
    | _ => False
/-- the slots behind the n names are just these tables -/
def TOk (n : Nat) (T : Tbs) (M : List Addr) (ρ : En) : Prop := ρ.drop n = tabL T ∧ own0 M ρ
section
variable {K : PySem.W.Frag} {B H H1 : Hp} {M : List Addr} {ρ : En} {σ : L2.St} {n : Nat} {T : Tbs}
theorem own0_at {p : Addr} (h : own0 M ρ) (hp : p ∈ M) : ∃ ds, ρ[0]? = some (.own p ds) := by
  unfold own0 at h
  split at h
  · simp at hp
  · split at h
    · rename_i q r p' ds e
      obtain ⟨rfl, rfl⟩ := h
      rw [List.mem_singleton.mp hp]
      exact ⟨ds, e⟩
    · exact h.elim
theorem tabL_at {i : Nat} {P : Addr} {q : Str} (h : (tabL T)[i]? = some (.tab P q)) : (P, q) ∈ T := by
  unfold tabL at h
  rw [List.getElem?_map] at h
  obtain ⟨t, ht, e⟩ := Option.map_eq_some_iff.mp h
  have := List.mem_of_getElem? ht
  cases e
  exact this
theorem TOk.at_ (t : ρ.drop n = tabL T) {i : Nat} (hi : n ≤ i) {P : Addr} {q : Str} (e : ρ[i]? = some (.tab P q)) : (P, q) ∈ T := by
  have h : (ρ.drop n)[i - n]? = some (.tab P q) := by rw [List.getElem?_drop, show n + (i - n) = i from by omega]; exact e
  rw [t] at h
  exact tabL_at h
theorem Sta.hasTabs (S : Sta K B M ρ σ H) (t : ρ.drop n = tabL T) : LamX.Tabs T H := fun p hp => by
  obtain ⟨j, hj⟩ := List.mem_iff_getElem?.mp hp
  have h : (ρ.drop n)[j]? = some (.tab p.1 p.2) := by
    rw [t]
    unfold tabL
    rw [List.getElem?_map, hj]
    rfl
  rw [List.getElem?_drop] at h
  exact S.ok _ _ h
/-- tables are written, all else stays -/
theorem Sta.tabs (S : Sta K B M ρ σ H) (hB : NoTb B) (hn : σ.length = n) (t : TOk n T M ρ) (x : LamX.ExtN H H1) (tt : LamX.Tabs T H1) : Sta K B M ρ σ H1 := by
  refine ⟨fun b o e im => x b o (S.frm b o e im) fun ps z => hB b ps (z ▸ e), fun i s e => ?_, S.dis, S.new, fun p hp => ?_, S.tbi⟩
  · refine SlotOk.keep (keep_extN x) (fun p ds es => ?_) (fun P' q' et => ?_) (S.ok i s e)
    · subst es
      obtain ⟨_, vs, hv, rr⟩ := S.ok i _ e
      exact ⟨vs, x _ _ hv (fun _ z => by cases z), RepL.keep (keep_extN x) ds rr⟩
    · subst et
      exact tt _ (TOk.at_ t.1 (by rw [← hn]; exact S.tbi i _ _ e) e)
  · obtain ⟨ds, e⟩ := own0_at t.2 hp
    obtain ⟨vs, hv, _⟩ := S.own_at e
    exact ⟨_, x _ _ hv fun _ z => by cases z⟩
end
section
variable {X : Cx} {B : Hp} {M : List Addr} {e a b c : Expr} {es : List Expr} {pos : Pos} {T : Tbs}
theorem DE.mkL {t : TE} {r : RE} (h : PE X e t) (mo : MonoE r) (w : ∀ σ H Q ρ, σ.length = X.N.length → Sta X.K B M ρ σ H → r ρ (kE X.K B M ρ σ H Q) → t σ H Q) : DE X B M e r := ⟨pe_impL h fun σ H Q hl ⟨ρ, S, q⟩ => w σ H Q ρ hl S q, mo⟩
/-- the reading of x(lambda: body) -/
def rAnsT (n : Nat) (T : Tbs) (M : List Addr) (Ans : Exn → D → Prop) (r : (Exn → Prop) → RE) : RE := fun ρ Q => TOk n T M ρ ∧ ∃ Xp : Exn → Prop, r Xp (noOwn ρ) (kD fun d _ => Q (.d (.tup [.str "told", d])) ρ) ∧ ∀ x, Xp x → ∃ d, Ans x d ∧ Q (.d d) ρ
theorem de_answerT {n : Nat} {Ans : Exn → D → Prop} {x a : Str} {g c P : Addr} {k : Nat} {pg : Arguments} {bg : List Stmt} {sg : Scope} {fd : FuncData} {Ng : List Str} {params : Arguments} {body : Expr} {scope : Scope} {r : (Exn → Prop) → RE} {p lpos pos : Pos} (hB : NoTb B)
    (F : FunD X.K x x pg bg sg [] [] g fd) (hm : X.mg x = some (.ref g)) (Sg : FnScope Ng [a] sg) (hNg : Ng[0]? = some a) (hva : Vis sg a)
    (hb : ∀ (kV doc pm : Value) (an : Option Addr) (cdv ct : Value) (us : List Value), us.length = [a].length → bindArgs (PySem.W.fnOf x x pg bg sg .none kV doc pm an cdv ct) ⟨us, []⟩ = pure ([a].zip us))
    (hG : ∀ cdg, LamN.GivesToN X Ng x sg g cdg bg a (X.env.qual ++ "<lambda>") (TTans X.K Ans)) (TB : LamX.TabB X.base X.mg c P) (hcode : X.env.code = .ref c) (hT : TabFn T) (hmT : (P, X.env.qual ++ "<lambda>") ∈ T) (hr : Room (k + 2) X.A)
    (hbody : ∀ (Xp : Exn → Prop) (B' : Hp) (A : Around) (outer : List Env) (s : Shared) (H : Hp) (E : XK) (f c' : Addr), Room k (A.deeper (LamX.lamEnv X scope s.heap.objs.size f c')) → (∀ x cls dx H', Xp x → Frm [] B' H' → XRep X.K H' x cls dx → E cls dx H') → DE (LamN.lamCxN X A outer s H E scope f c') B' [] body (r Xp))
    (hn : X.N.length = n := by rfl) (hg : Gl X x := by rfl) (L : LamX.LamS X.env.scope scope := by exact LamX.lamS_by (by decide +kernel)) (hdef : defaultsOf params X.env = ([], []) := by rfl)
    (hbind : ∀ (q : Str) (cl : List (Str × Addr)) (pm cv ctv : Value), bindArgs (PySem.W.kla_fn "<lambda>" q params body scope cl pm cv ctv) ⟨[], []⟩ = pure [] := by intros; rfl)
    (hdb : (x == ("__debug__" : Str)) = false := by decide) (hd : (a == ("__debug__" : Str)) = false := by decide) (hcd : (a == ("__classdict__" : Str)) = false := by decide) :
    DE X B M (.Call (.Name x p) [.Lambda params body scope lpos] [] pos) (rAnsT n T M Ans r) := by
  obtain ⟨oc, od, dV, kV, doc, pm, an, cdv, ct, osl, efd, lk, hcd', hD, hK⟩ := F.ex
  have hdV : dV = .none := by
    rcases hD with ⟨_, h⟩ | ⟨h, _⟩
    · exact h
    · exact absurd rfl h
  subst hdV efd
  have mo : ∀ Xp, MonoE (r Xp) := fun Xp => (hbody Xp noH X.A [] X.s_0 noH (fun _ _ _ => True) 0 0 ((hr.mono (Nat.le_succ _)).deeper _) (fun _ _ _ _ _ _ _ => trivial)).mo
  refine DE.mkL (LamN.pe_lamcallN (T := T) (TT := TTans X.K Ans) (k := k)
    (t := fun E σ H Q => ∃ ρ' Xp, Sta X.K H [] ρ' σ H ∧ r Xp ρ' (kE X.K H [] ρ' σ H Q) ∧ ∀ x cls dx H', Xp x → Frm [] H H' → XRep X.K H' x cls dx → E cls dx H')
    hg hm F.kp lk hcd' (.all fun us hl => hb _ _ _ _ _ _ us hl) Sg hNg hva (hG cdv) TB hcode hmT (fun p hp e => hT p hp _ hmT e) hr L hdef hbind
    (fun A outer s H E f c' hr2 => ⟨fun pins s' σ H' Q I ⟨ρ', Xp, S, q, hE⟩ => (hbody Xp H' A outer s H E f c' hr2 hE).pe.run pins s' σ H' Q I ⟨ρ', S, q⟩⟩) hdb hd hcd) (fun ρ P P' w ⟨h1, Xp, h3, h4⟩ => ⟨h1, Xp, mo Xp _ _ _ (fun w1 ρ1 q => by obtain ⟨d, rfl, q⟩ := q.el; exact w _ _ q) h3, fun x hx => by obtain ⟨d, h5, h6⟩ := h4 x hx; exact ⟨d, h5, w _ _ h6⟩⟩) fun σ H Q ρ hl S ⟨tk, Xp, h3, h4⟩ => ?_
  refine ⟨S.hasTabs tk.1, fun H1 x1 t1 => ?_⟩
  have S1 := S.tabs hB (hl.trans hn) tk x1 t1
  refine ⟨noOwn ρ, Xp, S1.data, mo Xp _ _ _ (fun w ρ2 hh => ?_) h3, fun x cls dx H' hx fr rx => ?_⟩
  · obtain ⟨d, ew, q⟩ := hh.el
    subst ew
    intro v H2 k2 o2 S2 r2
    refine ⟨by rw [sizeLine_eq]; show 2 ≤ 16777216; decide, ?_⟩
    intro o p hod hp
    have sm : Same H1 H2 := S2.frm.same
    have sm2 := same_upd (o := .frz o (.tup [.str "told", v])) hp
    refine q _ _ (((keep_extN x1).trans (Keep.of sm)).trans (Keep.of sm2)) (OwnEq.refl _) ((S1.same sm).same sm2) ⟨p, _, rfl, .inl ⟨o, hod, upd_same⟩, .str "told", [v], rfl, rfl, v, [], rfl, Rep.keep (Keep.of sm2) d r2, rfl⟩
  · obtain ⟨d, h5, h6⟩ := h4 x hx
    refine ⟨x, d, rx, h5, fun H'' v sm rv => ?_⟩
    exact h6 v H'' ((keep_extN x1).trans (fr.keep.trans (Keep.of sm))) (OwnEq.refl _) ((S1.same fr.same).same sm) rv
end
/-- the name of a code object made in the def x -/
def lamQ (x : Str) : Str := x ++ ".<locals>." ++ "<lambda>"
/-- the def x's own table is one of T -/
structure TabO (base : Heap) (mg : Str → Option Value) (K : PySem.W.Frag) (T : Tbs) (x : Str) : Prop where
  b : LamX.TabB base mg (He.cT K (x, none)).1 (He.cT K (x, none)).2
  m : ((He.cT K (x, none)).2, lamQ x) ∈ T
/-! ### defs that hold lambdas: what they promise -/
/-- as spF, the tables T before and after -/
def spFT (K : PySem.W.Frag) (T : Tbs) (S : FS) : Sp := fun vs H Q _ => ∃ g, RepL K H (S.args g) vs ∧ S.pre g ∧ LamX.Tabs T H ∧ ∀ d v H', S.post g d → LamX.ExtN H H' → LamX.Tabs T H' → Rep K H' d v → Q v H'
/-- as spS, the tables T before and after -/
def spST (K : PySem.W.Frag) (T : Tbs) (S : SS) : Sp := fun vs H Q _ => ∃ g p vs0 s vr, vs = .ref p :: vr ∧ H p = some (.lst vs0) ∧ RepL K H s vs0 ∧ S.s0 g s ∧ RepL K H (S.args g) vr ∧ S.pre g ∧ LamX.Tabs T H ∧
  (∀ d s' v H' vs', S.post g d → S.s1 g s' → Frm [p] (noT H) H' → LamX.Tabs T H' → H' p = some (.lst vs') → RepL K H' s' vs' → Rep K H' d v → Q v H')
section
variable {K : PySem.W.Frag} {B H H1 : Hp} {M : List Addr} {ρ : En} {σ : L2.St} {n : Nat} {T : Tbs}
/-- tables behind the slots -/
theorem Sta.withTabs (S : Sta K H M ρ σ H) (hl : σ.length ≤ ρ.length) (hM : ∀ p ∈ M, ∃ vs, H p = some (.lst vs)) (t : LamX.Tabs T H) : Sta K (noT H) M (ρ ++ tabL T) σ H := by
  have look : ∀ {i : Nat} {s : Slot}, (ρ ++ tabL T)[i]? = some s → ρ[i]? = some s ∨ (ρ.length ≤ i ∧ ∃ P q, s = .tab P q ∧ (P, q) ∈ T) := fun {i s} e => by
    by_cases hi : i < ρ.length
    · rw [List.getElem?_append_left hi] at e
      exact .inl e
    · rw [List.getElem?_append_right (by omega)] at e
      refine .inr ⟨by omega, ?_⟩
      unfold tabL at e
      rw [List.getElem?_map] at e
      obtain ⟨t, ht, e⟩ := Option.map_eq_some_iff.mp e
      exact ⟨t.1, t.2, e.symm, List.mem_of_getElem? ht⟩
  refine ⟨frm_noT, fun i s e => ?_, fun i j p q ds es ei ej => ?_, fun i p ds e => ?_, S.mh, fun i P q e => ?_⟩
  · rcases look e with h | ⟨_, P, q, rfl, h⟩
    · exact S.ok i s h
    · exact t _ h
  · rcases look ei with h | ⟨_, P, q, h, _⟩
    · rcases look ej with h2 | ⟨_, P, q, h2, _⟩
      · exact S.dis i j p q ds es h h2
      · cases h2
    · cases h
  · rcases look e with h | ⟨_, P, q, h, _⟩
    · rcases S.new i p ds h with z | z
      · left
        unfold noT
        rw [z]
      · exact .inr z
    · cases h
  · rcases look e with h | ⟨h, _⟩
    · exact S.tbi i P q h
    · exact Nat.le_trans hl h
/-- the state behind a call that changed the list of slot i and tables -/
theorem Sta.calledT {i : Nat} {p : Addr} {s s' : List D} {vs' : List V} (S : Sta K B M ρ σ H) (hB : NoTb B) (hn : σ.length = n) (t : TOk n T M ρ) (e : ρ[i]? = some (.own p s)) (fr : Frm [p] (noT H) H1) (tt : LamX.Tabs T H1) (hp : H1 p = some (.lst vs')) (r : RepL K H1 s' vs') : Sta K B M (ρ.set i (.own p s')) σ H1 := by
  have hlt : i < ρ.length := (List.getElem?_eq_some_iff.mp e).1
  obtain ⟨vs, hpv, _⟩ := S.own_at e
  have kp : Keep H H1 := fun b o h im => fr b o (noT_of h fun ps z => by subst z; exact im) (.inl im)
  have look : ∀ {j : Nat} {q fs}, (ρ.set i (Slot.own p s'))[j]? = some (Slot.own q fs) → ∃ fs', ρ[j]? = some (Slot.own q fs') := fun {j q fs} h => by
    by_cases hj : j = i
    · subst hj
      rw [List.getElem?_set_self hlt] at h
      cases h
      exact ⟨s, e⟩
    · rw [List.getElem?_set_ne (Ne.symm hj)] at h
      exact ⟨fs, h⟩
  refine ⟨fun b o hb im => ?_, fun j t' ej => ?_, fun j k q q' fs gs ej ek hjk => ?_, fun j q fs ej => ?_, fun q hq => ?_, fun j P q h => S.tbi j P q (tab_set h fun _ _ z => by cases z)⟩
  · have h2 := S.frm b o hb im
    by_cases hbp : b = p
    · rw [hbp, hpv] at h2
      cases h2
      rcases S.new i p s e with n | n
      · rw [hbp, n] at hb
        cases hb
      · rcases im with im | im
        · exact im.elim
        · exact absurd (hbp ▸ n) im
    · exact fr b o (noT_of h2 fun ps z => hB b ps (z ▸ hb)) (.inr (by simpa using hbp))
  · by_cases hj : j = i
    · subst hj
      rw [List.getElem?_set_self hlt] at ej
      cases ej
      obtain ⟨h2, _⟩ := S.ok j _ e
      exact ⟨h2, vs', hp, r⟩
    · rw [List.getElem?_set_ne (Ne.symm hj)] at ej
      refine SlotOk.keep kp (fun q fs es => ?_) (fun P q et => by
        subst et
        exact tt _ (TOk.at_ t.1 (by rw [← hn]; exact S.tbi j _ _ ej) ej)) (S.ok j t' ej)
      subst es
      obtain ⟨_, us, hu, ru⟩ := S.ok j _ ej
      exact ⟨us, fr q _ (noT_of hu fun _ z => by cases z) (.inr (by simpa using S.dis j i q p fs s ej e hj)), RepL.keep kp fs ru⟩
  · obtain ⟨a, h1⟩ := look ej
    obtain ⟨b, h2⟩ := look ek
    exact S.dis j k q q' a b h1 h2 hjk
  · obtain ⟨a, h1⟩ := look ej
    exact S.new j q a h1
  · by_cases hqp : q = p
    · exact ⟨_, by rw [hqp]; exact hp⟩
    · obtain ⟨ds, e0⟩ := own0_at t.2 hq
      obtain ⟨us, hu, _⟩ := S.own_at e0
      exact ⟨_, fr q _ (noT_of hu fun _ z => by cases z) (.inr (by simpa using hqp))⟩
end
section
variable {P : Program} {w : World} {K : PySem.W.Frag} {mg : Str → Option Value} {base : Heap} {x qual : Str} {params : Arguments} {body : List Stmt} {scope : Scope} {f : Addr} {fd : FuncData} {T : Tbs}
theorem FunD.okc {CX : CXT} {dvs : List V} {N ps : List Str} {k : Nat} {sp : Sp} (F : FunD K x qual params body scope dvs [] (He.fAd K (x, none)) fd) (S : FnScope N ps scope) (len : ∀ vs H Q E, sp vs H Q E → vs.length = ps.length)
    (hbody : ∀ (A : Around) (outer : List Env) (s : Shared) (H : Hp) (vs : List V) (Q : VK) (E : XK), Room k (A.deeper (envOfC qual scope s.heap.objs.size (He.fAd K (x, none)) (.ref (He.cT K (x, none)).1))) → sp vs H Q E →
      ∃ t, PSs (cxOf CX P w K mg base N qual scope (He.fAd K (x, none)) (.ref (He.cT K (x, none)).1) A outer s H E) body t ∧ t { nx := fun _ H' => Q .non H', rt := Q } (start N vs) H) : FnOk P w K mg base CX (k + 1) (He.fAd K (x, none)) fd ps sp := by
  obtain ⟨oc, od, dV, kV, doc, pm, an, cdv, ct, osl, rfl, lk, hcd, _, _⟩ := F.ex
  obtain ⟨c, rfl⟩ := He.codeIn_ref hcd
  have ec : (He.cT K (x, none)).1 = c := He.codeOf_eq lk rfl
  rw [ec] at hbody
  exact fn_of lk hcd S len fun A outer s H vs Q E hr hsp => hbody A outer s H vs Q E hr hsp
theorem start_len {N : List Str} {vs : List V} (h : vs.length ≤ N.length) : (L2.start N vs).length = N.length := by
  unfold L2.start
  simp
  omega
theorem fnFT_ok {dvs : List V} {N ps : List Str} {k : Nat} (F : FunD K x qual params body scope dvs [] (He.fAd K (x, none)) fd) (Sc : FnScope N ps scope) (S : FS) (len : ∀ g, (S.args g).length = ps.length) (hps : ps.length ≤ N.length)
    (h : ∀ (A : Around) (outer : List Env) (s : Shared) (H : Hp) (E : XK) (g : S.α), Room k (A.deeper (envOfC qual scope s.heap.objs.size (He.fAd K (x, none)) (.ref (He.cT K (x, none)).1))) → S.pre g →
      ∃ r, DSs (cxOf (L2N.CX P w) P w K mg base N qual scope (He.fAd K (x, none)) (.ref (He.cT K (x, none)).1) A outer s H E) (noT H) [] body r ∧ r { nx := fun ρ => S.post g .non ∧ ρ.drop N.length = tabL T, rt := fun d ρ => S.post g d ∧ ρ.drop N.length = tabL T } (ini N.length (S.args g) ++ tabL T)) :
    FnOk P w K mg base (L2N.CX P w) (k + 1) (He.fAd K (x, none)) fd ps (spFT K T S) := by
  refine FunD.okc F Sc (fun vs H Q E ⟨g, r, _⟩ => (RepL.length r).trans (len g)) fun A outer s H vs Q E hr ⟨g, r, pre, tt, q⟩ => ?_
  obtain ⟨rs, hd, hm⟩ := h A outer s H E g hr pre
  have hl := RepL.length r
  have sl : (L2.start N vs).length = N.length := start_len (by rw [hl, len g]; exact hps)
  have il : (ini N.length (S.args g)).length = N.length := by
    unfold ini
    have := len g
    simp
    omega
  refine ⟨_, hd.pss, _, _, (sta_ini r).withTabs (by rw [sl, il]; exact Nat.le_refl _) (fun p hp => absurd hp (by simp)) tt, hm, ⟨fun ρ σ H' _ S' ⟨hp, t⟩ => q .non .non H' hp (frm_ext S'.frm) (S'.hasTabs t) rfl, fun d ρ σ v H' _ S' rv ⟨hp, t⟩ => q d v H' hp (frm_ext S'.frm) (S'.hasTabs t) rv, fun _ _ _ _ _ z => z, fun _ _ _ _ _ z => z, fun _ _ _ _ _ _ _ _ _ z => z.elim⟩⟩
theorem fnST_ok {dvs : List V} {N ps : List Str} {k : Nat} (F : FunD K x qual params body scope dvs [] (He.fAd K (x, none)) fd) (Sc : FnScope N ps scope) (S : SS) (len : ∀ g, (S.args g).length + 1 = ps.length) (hps : ps.length ≤ N.length) (hN : 0 < N.length)
    (h : ∀ (A : Around) (outer : List Env) (s : Shared) (H : Hp) (E : XK) (g : S.α) (p : Addr) (ss : List D), Room k (A.deeper (envOfC qual scope s.heap.objs.size (He.fAd K (x, none)) (.ref (He.cT K (x, none)).1))) → S.pre g → S.s0 g ss →
      ∃ r, DSs (cxOf (L2N.CX P w) P w K mg base N qual scope (He.fAd K (x, none)) (.ref (He.cT K (x, none)).1) A outer s H E) (noT H) [p] body r ∧ r { nx := fun ρ => S.post g .non ∧ (∃ s', ρ[0]? = some (.own p s') ∧ S.s1 g s') ∧ ρ.drop N.length = tabL T, rt := fun d ρ => S.post g d ∧ (∃ s', ρ[0]? = some (.own p s') ∧ S.s1 g s') ∧ ρ.drop N.length = tabL T } (iniS N.length p ss (S.args g) ++ tabL T)) :
    FnOk P w K mg base (L2N.CX P w) (k + 1) (He.fAd K (x, none)) fd ps (spST K T S) := by
  refine FunD.okc F Sc (fun vs H Q E ⟨g, p, vs0, s, vr, e, _, _, _, r, _⟩ => by rw [e, List.length_cons, RepL.length r]; exact len g) fun A outer s H vs Q E hr ⟨g, p, vs0, ss, vr, e, hp, r0, hs, r, pre, tt, q⟩ => ?_
  subst e
  obtain ⟨rs, hd, hm⟩ := h A outer s H E g p ss hr pre hs
  have hl := RepL.length r
  have lg := len g
  have sl : (L2.start N (.ref p :: vr)).length = N.length := start_len (by rw [List.length_cons, hl, lg]; exact hps)
  have il : (iniS N.length p ss (S.args g)).length = N.length := by
    unfold iniS
    simp
    omega
  refine ⟨_, hd.pss, _, _, (sta_iniS hN hp r0 r).withTabs (by rw [sl, il]; exact Nat.le_refl _) (fun q hq => by rw [List.mem_singleton.mp hq]; exact ⟨_, hp⟩) tt, hm, ⟨fun ρ σ H' _ S' ⟨hp, ⟨s', e0, hs'⟩, t⟩ => ?_, fun d ρ σ v H' _ S' rv ⟨hp, ⟨s', e0, hs'⟩, t⟩ => ?_, fun _ _ _ _ _ z => z, fun _ _ _ _ _ z => z, fun _ _ _ _ _ _ _ _ _ z => z.elim⟩⟩
  · obtain ⟨vs', hv, rr⟩ := S'.own_at e0
    exact q .non s' .non H' vs' hp hs' S'.frm (S'.hasTabs t) hv rr rfl
  · obtain ⟨vs', hv, rr⟩ := S'.own_at e0
    exact q d s' v H' vs' hp hs' S'.frm (S'.hasTabs t) hv rr rv
end
/-! ### calls of such defs -/
section
variable {X : Cx} {B : Hp} {M : List Addr} {e a b c : Expr} {es : List Expr} {pos : Pos} {T : Tbs}
def rCallFT (n : Nat) (T : Tbs) (M : List Addr) (S : FS) (ra : RA) : RE := fun ρ Q => ra ρ fun ws ρ1 => ∃ g, ws = dats (S.args g) ∧ S.pre g ∧ TOk n T M ρ1 ∧ ∀ d, S.post g d → Q (.d d) ρ1
theorem de_callFT {x : Str} {k n : Nat} {ps : List Str} {S : FS} {ra : RA} {p : Pos} (hB : NoTb B) (G : Has X.prog X.w X.K X.mg X.base x k ps (spFT X.K T S)) (hr : Room k X.A) (ha : DA X B M (a :: es) ra) (hn : X.N.length = n := by rfl) (hg : Gl X x := by rfl) (hdb : (x == ("__debug__" : Str)) = false := by decide)
    (he : starEach (a :: es) X.env = (false, eval a X.env) :: starEach es X.env := by rfl) (hpl : (backTo pos (starEach es X.env)).any (·.1) = false := by rfl) :
    DE X B M (.Call (.Name x p) (a :: es) [] pos) (rCallFT n T M S ra) := by
  obtain ⟨f, fd, hm, hk, hb, F⟩ := G
  refine DE.mkL (pe_call F hr hg hm hk hb .nil passN ha.pa hdb he hpl) (fun ρ P P' w q => ha.mo ρ _ _ (fun ws ρ1 ⟨g, e1, pre, tk, h1⟩ => ⟨g, e1, pre, tk, fun d hd => w _ _ (h1 d hd)⟩) q) fun σ H Q ρ hl Sx q => ?_
  refine intoA ha Sx q fun ws ρ1 vs H1 ⟨g, e1, pre, tk, h1⟩ k1 o1 S1 r1 => ?_
  subst e1
  rw [List.append_nil]
  refine ⟨g, dats_ok r1, pre, S1.hasTabs tk.1, fun d v H' hd x tt rv => ?_⟩
  exact h1 d hd v H' (k1.trans (keep_extN x)) o1 (S1.tabs hB (hl.trans hn) tk x tt) rv
def rCallST (n : Nat) (T : Tbs) (M : List Addr) (S : SS) (i : Nat) (ra : RA) : RE := fun ρ Q => kOwn i (fun _ _ => ra ρ fun ws ρ1 => kOwn i (fun p s => ∃ g, ws = dats (S.args g) ∧ S.s0 g s ∧ S.pre g ∧ TOk n T M ρ1 ∧ ∀ d s', S.post g d → S.s1 g s' → Q (.d d) (ρ1.set i (.own p s'))) ρ1) ρ
theorem de_callST {x : Str} {k n : Nat} {ps : List Str} {S : SS} {ra : RA} {p ps' : Pos} {y : Str} {i : Nat} (hB : NoTb B) (G : Has X.prog X.w X.K X.mg X.base x k ps (spST X.K T S)) (hr : Room k X.A) (hy : DE X B M (.Name y ps') (rVar i)) (ha : DA X B M es ra) (hn : X.N.length = n := by rfl) (hg : Gl X x := by rfl) (hdb : (x == ("__debug__" : Str)) = false := by decide)
    (he : starEach (.Name y ps' :: es) X.env = (false, eval (.Name y ps') X.env) :: starEach es X.env := by rfl) (hpl : (backTo pos (starEach es X.env)).any (·.1) = false := by rfl) : DE X B M (.Call (.Name x p) (.Name y ps' :: es) [] pos) (rCallST n T M S i ra) := by
  obtain ⟨f, fd, hm, hk, hb, F⟩ := G
  refine DE.mkL (pe_call F hr hg hm hk hb .nil passN (pa_cons hy.pe ha.pa he) hdb he hpl) (fun ρ P P' w q => q.imp fun _ _ q => ha.mo ρ _ _ (fun ws ρ1 q => q.imp fun p s ⟨g, e1, hs, pre, tk, h1⟩ => ⟨g, e1, hs, pre, tk, fun d s' hd hs' => w _ _ (h1 d s' hd hs')⟩) q) fun σ H Q ρ hl Sx hh => ?_
  obtain ⟨p0, s0, e0, q⟩ := hh.el
  refine into hy Sx (P := fun w ρ' => w = .o i ∧ ρ' = ρ) (rVar.mk (w := .o i) (by unfold rd; rw [e0]) ⟨rfl, rfl⟩) fun w ρ' vo H1 ⟨ew, eρ⟩ k1 o1 S1 r1 => ?_
  subst ew eρ
  refine intoA ha S1 q fun ws ρ1 vs H2 hh k2 o2 S2 r2 => ?_
  obtain ⟨p, s, e2, g, e1, hs, pre, tk, h1⟩ := hh.el
  subst e1
  obtain ⟨p', s', e3, ev⟩ := WOk.keep k2 o2 r1
  rw [e2] at e3
  cases e3
  obtain ⟨vs0, hp, rr⟩ := S2.own_at e2
  refine ⟨g, p, vs0, s, vs, by rw [ev, List.append_nil], hp, rr, hs, dats_ok r2, pre, S2.hasTabs tk.1, fun d s2 v H' vs' hd hs2 fr tt hp' rr' rv => ?_⟩
  have kp : Keep H2 H' := fun b o h im => fr b o (noT_of h fun ps z => by subst z; exact im) (.inl im)
  exact h1 d s2 hd hs2 v H' ((k1.trans k2).trans kp) ((o1.trans o2).trans (own_mut e2)) (S2.calledT hB (hl.trans hn) tk e2 fr tt hp' rr') rv
end
end N
/-! NW -/
set_option Elab.async false
set_option linter.all false
set_option maxRecDepth 100000
set_option maxHeartbeats 1000000
/-! NW: the law's script (a list of ints, wherever it stands), the law itself. -/
namespace N
open PySem PySem.Spec PyProof.Rows L2
section
variable {X : Cx} {B : Hp} {M : List Addr} {e a b c : Expr} {es : List Expr} {pos : Pos}
theorem sql_frm {K : PySem.W.Frag} {H H' : Hp} {a : Addr} {xs : List V} (fr : Frm M H H') (hM : a ∉ M) (h : SqL K H a xs) : SqL K H' a xs := by
  rcases h with (h | ⟨o, h⟩) | h
  · exact .inl (.inl (fr _ _ h (.inr hM)))
  · exact .inl (.inr ⟨o, fr _ _ h (.inl trivial)⟩)
  · exact .inr h
/-- over the list of ints at a -/
def iRaw (a : Addr) (ns : List Int) (r : RE) : RI := fun ρ P => r ρ fun w ρ1 => w = .d (.obj a) ∧ P ns.length (fun k d => ∃ i, ns[k]? = some i ∧ d = .int i) (fun _ => True) ρ1
theorem di_raw {tg : Expr} {a : Addr} {ns : List Int} {r : RE} (hs : SqL X.K B a (ns.map V.int)) (hM : a ∉ M) (h : DE X B M e r) : DI X B M tg e (iRaw a ns r) := by
  refine ⟨pi_imp (pi_seq h.pe) fun σ H R ⟨ρ, S, q⟩ => ?_, fun ρ P P' w p => h.mo ρ _ _ (fun w1 ρ1 ⟨e1, q1⟩ => ⟨e1, w _ _ _ _ q1⟩) p⟩
  refine into h S q fun w ρ1 v H1 ⟨e1, q1⟩ k1 o1 S1 r1 => ?_
  subst e1
  obtain rfl : v = V.ref a := r1
  refine ⟨a, rfl, .inl ⟨⟨_, sql_frm S1.frm hM hs⟩, q1 _ H1 k1 o1 S1 ⟨fun k ρ σ H kk S o lt => ?_, fun k ρ σ H x H' kk S o lt y => ?_, fun ρ σ H kk S o => ?_⟩⟩⟩
  · have hl : k < (ns.map V.int).length := by rw [List.length_map]; exact lt
    exact ⟨_, (ns.map V.int)[k], sql_frm S.frm hM hs, List.getElem?_eq_getElem hl⟩
  · obtain ⟨e2, y⟩ := y
    subst e2
    have h2 := y _ (sql_frm S.frm hM hs)
    rw [List.getElem?_map] at h2
    obtain ⟨i, hi, ex⟩ := Option.map_eq_some_iff.mp h2
    exact ⟨Same.refl _, _, ⟨i, hi, rfl⟩, ex.symm⟩
  · exact ⟨_, sql_frm S.frm hM hs, by rw [List.length_map]; exact Nat.le_refl _⟩
/-- a new list, given back -/
def rRetL (n : Nat) (r : RN) : RS := fun e ρ => r ρ fun ds ρ1 => n ≤ ρ1.length ∧ ∀ p, e.ro ds (ρ1 ++ [.own p ds])
theorem ds_retL (n : Nat) {r : RN} (h : DN X B M e r) (hn : X.N.length = n := by rfl) : DS X B M (.Return (some e) pos) (rRetL n r) :=
  ⟨ps_impL (ps_ret h.pe) fun D σ H hl ⟨ρ, en, S, q, ok⟩ => ⟨ρ, S, h.mo ρ _ _ (fun ds ρ1 ⟨h1, q1⟩ => by
    intro p H' k o S' nw
    exact ok.ro ρ1.length p ds _ σ H' k (S'.ghost nw (by omega)) (by rw [List.getElem?_append_right (Nat.le_refl _), Nat.sub_self]; rfl) (q1 p)) q⟩⟩
end
/-- a def of the script: it gives a new list of which st holds -/
def spRaw (K : PySem.W.Frag) (st : List D → Prop) : Sp := fun vs H Q _ => ∃ (a : Addr) (ns : List Int), vs = [.ref a] ∧ ns.length ≤ 1000 ∧ SqL K H a (ns.map V.int) ∧ ∀ s p vs' H', st s → Frm [] H H' → H p = none → H' p = some (.lst vs') → RepL K H' s vs' → Q (.ref p) H'
section
variable {P : Program} {w : World} {K : PySem.W.Frag} {mg : Str → Option Value} {base : Heap} {x qual x0 : Str} {params : Arguments} {body : List Stmt} {scope : Scope} {f : Addr} {fd : FuncData}
theorem fnRaw_ok {dvs : List V} {N : List Str} {k : Nat} {st : List D → Prop} (F : FunD K x qual params body scope dvs [] f fd) (Sc : FnScope N [x0] scope)
    (h : ∀ (cdv : Value) (A : Around) (outer : List Env) (s : Shared) (H : Hp) (E : XK) (a : Addr) (ns : List Int), Room k (A.deeper (envOfC qual scope s.heap.objs.size f cdv)) → ns.length ≤ 1000 → SqL K H a (ns.map V.int) →
      ∃ r, DSs (cxOf (L2N.CX P w) P w K mg base N qual scope f cdv A outer s H E) H [] body r ∧ r { nx := fun _ => False, rt := fun _ _ => False, ro := fun ds _ => st ds } (ini N.length [.obj a])) :
    FnOk P w K mg base (L2N.CX P w) (k + 1) f fd [x0] (spRaw K st) := by
  refine F.ok Sc (fun vs H Q E ⟨a, ns, e, _⟩ => by rw [e]; rfl) fun cdv A outer s H vs Q E hr ⟨a, ns, e, hl, hs, q⟩ => ?_
  subst e
  obtain ⟨rs, hd, hm⟩ := h cdv A outer s H E a ns hr hl hs
  refine ⟨_, hd.pss, ini N.length [.obj a], _, sta_ini ⟨.ref a, [], rfl, rfl, rfl⟩, hm, ⟨fun ρ σ H' _ S' hp => hp.elim, fun d ρ σ v H' _ S' rv hp => hp.elim, fun _ _ _ _ _ z => z, fun _ _ _ _ _ z => z, fun i p ds ρ σ H' _ S' e hp => ?_⟩⟩
  obtain ⟨vs', hv, rr⟩ := S'.own_at e
  rcases S'.new i p ds e with n | n
  · exact q ds p vs' H' hp S'.frm n hv rr
  · simp at n
/-- the law's promise: whatever the script, True -/
def spLaw (K : PySem.W.Frag) (Ts : List Addr) : Sp := fun vs H Q _ => ∃ (a : Addr) (ns : List Int), vs = [.ref a] ∧ ns.length ≤ 1000 ∧ SqL K H a (ns.map V.int) ∧ (∀ P ∈ Ts, H P = some (.tbl #[])) ∧ ∀ H', Q (.bl true) H'
/-- the slots behind the law's first statement -/
def iniL (n : Nat) (p : Addr) (s : List D) (T : Tbs) : En := .un :: .own p s :: (List.replicate (n - 2) .un ++ tabL T)
theorem iniL_at {n : Nat} {p : Addr} {s : List D} {T : Tbs} {i : Nat} {t : Slot} (hn : 2 ≤ n) (e : (iniL n p s T)[i]? = some t) : t = .un ∨ (i = 1 ∧ t = .own p s) ∨ (n ≤ i ∧ ∃ P q, t = .tab P q ∧ (P, q) ∈ T) := by
  unfold iniL at e
  match i, e with
  | 0, e => exact .inl (by simpa using e.symm)
  | 1, e => exact .inr (.inl ⟨rfl, by simpa using e.symm⟩)
  | i + 2, e =>
    rw [List.getElem?_cons_succ, List.getElem?_cons_succ] at e
    by_cases hi : i < n - 2
    · rw [List.getElem?_append_left (by rw [List.length_replicate]; exact hi)] at e
      exact .inl (List.mem_replicate.mp (List.mem_of_getElem? e)).2
    · rw [List.getElem?_append_right (by rw [List.length_replicate]; omega)] at e
      unfold tabL at e
      rw [List.getElem?_map] at e
      obtain ⟨u, hu, e⟩ := Option.map_eq_some_iff.mp e
      exact .inr (.inr ⟨by omega, u.1, u.2, e.symm, List.mem_of_getElem? hu⟩)
theorem sta_iniL {H : Hp} {σ : L2.St} {n : Nat} {p : Addr} {s : List D} {vs : List V} {T : Tbs} (hn : 2 ≤ n) (hl : σ.length ≤ n) (hp : H p = some (.lst vs)) (r : RepL K H s vs) (ht : LamX.Tabs T H) : Sta K noH [] (iniL n p s T) (σ.set 1 (some (.ref p))) H := by
  have fr : Frm [] noH H := fun b o e _ => nomatch (show (none : Option HO) = some o from e)
  refine ⟨fr, fun i t e => ?_, fun i j p' q' ds es ei ej hij => ?_, fun i p' ds e => .inl rfl, fun p hp => absurd hp (by simp), fun i P q e => ?_⟩
  · rcases iniL_at hn e with rfl | ⟨rfl, rfl⟩ | ⟨_, P, q, rfl, h⟩
    · exact trivial
    · refine ⟨?_, vs, hp, r⟩
      by_cases h : 1 < σ.length
      · exact .inr (List.getElem?_set_self h)
      · exact .inl (List.getElem?_eq_none_iff.mpr (by rw [List.length_set]; omega))
    · exact ht _ h
  · rcases iniL_at hn ei with h | ⟨rfl, _⟩ | ⟨_, P, q, h, _⟩
    · cases h
    · rcases iniL_at hn ej with h | ⟨rfl, _⟩ | ⟨_, P, q, h, _⟩
      · cases h
      · exact absurd rfl hij
      · cases h
    · cases h
  · rw [List.length_set]
    rcases iniL_at hn e with h | ⟨_, h⟩ | ⟨h, _⟩
    · cases h
    · cases h
    · exact Nat.le_trans hl h
/-- THE LAW: its first statement takes the script, the rest is read over data -/
theorem law_ok {N : List Str} {k j : Nat} {st : List D → Prop} {y sn xs : Str} {rest : List Stmt} {p1 p2 p3 p4 p5 : Pos} {dvs : List V} {T : Tbs}
    (F : FunD K x qual params (.Assign [.Name y p1] (.Call (.Name sn p2) [.Name xs p3] [] p4) p5 :: rest) scope dvs [] (He.fAd K (x, none)) fd) (Sc : FnScope N [xs] scope)
    (hst : Has P w K mg base sn j [x0] (spRaw K st)) (hjk : j ≤ k) (hn : 2 ≤ N.length) (hN0 : N[0]? = some xs) (hN1 : N[1]? = some y) (hl0 : scope.names.lookup xs = some .local ∨ scope.names.lookup xs = some .cell) (hl1 : Loc scope y) (hg : scope.names.lookup sn = some .globalImplicit)
    (hsw : ∀ env : Env, env.scope = scope → swapsWith (.Call (.Name sn p2) [.Name xs p3] [] p4) (some (.Name y p1)) p5.line env = pure false) (hdx : (xs == ("__debug__" : Str)) = false) (hcx : (xs == ("__classdict__" : Str)) = false) (hds : (sn == ("__debug__" : Str)) = false)
    (h : ∀ (A : Around) (outer : List Env) (s : Shared) (H : Hp) (E : XK), Room k (A.deeper (envOfC qual scope s.heap.objs.size (He.fAd K (x, none)) (.ref (He.cT K (x, none)).1))) →
      ∃ r, DSs (cxOf (L2N.CX P w) P w K mg base N qual scope (He.fAd K (x, none)) (.ref (He.cT K (x, none)).1) A outer s H E) noH [] rest r ∧ ∀ p ss, st ss → r { nx := fun _ => False, rt := fun d _ => d = .bl true } (iniL N.length p ss T)) :
    FnOk P w K mg base (L2N.CX P w) (k + 1) (He.fAd K (x, none)) fd [xs] (spLaw K (T.map (·.1))) := by
  refine FunD.okc F Sc (fun vs H Q E ⟨a, ns, e, _⟩ => by rw [e]; rfl) fun A outer s H vs Q E hr ⟨a, ns, e, hl, hs, hT, q⟩ => ?_
  subst e
  obtain ⟨rs, hd, hm⟩ := h A outer s H E hr
  obtain ⟨fs, fds, gm, kp, hb, Fs⟩ := hst
  have hv0 : Vis scope xs := by
    rcases hl0 with z | z
    · exact .inl z
    · exact .inr (.inl z)
  refine ⟨_, pss_cons (ps_set (i := 1) Sc.nd hN1 hl1 (pe_call Fs (hr.mono hjk) hg gm kp hb .nil passN (pa_cons (pe_var (i := 0) hN0 hv0 hdx hcx) pa_nil rfl) hds rfl rfl) (hsw _ rfl) (.inl rfl)) hd.pss, ?_⟩
  refine ⟨.ref a, ?_, a, ns, rfl, hl, hs, fun ss p vs' H' hss fr hn' hp rr => ?_⟩
  · rfl
  refine ⟨iniL N.length p ss T, _, sta_iniL hn (by rw [start_len (by show 1 ≤ _; omega)]; exact Nat.le_refl _) hp rr (fun t ht => LamX.TabS.nil (fr _ _ (hT t.1 (List.mem_map.mpr ⟨t, ht, rfl⟩)) (.inr (by simp)))), hm p ss hss, ⟨fun ρ σ H2 _ S z => z.elim, fun d ρ σ v H2 _ S rv z => ?_, fun _ _ _ _ _ z => z, fun _ _ _ _ _ z => z, fun _ _ _ _ _ _ _ _ _ z => z.elim⟩⟩
  subst z
  obtain rfl : v = V.bl true := rv
  exact q H2
end
end N
/-! NE -/
set_option Elab.async false
set_option linter.all false
set_option maxRecDepth 100000
set_option maxHeartbeats 2000000
/-! NE: enumerate of lists and tuples. -/
namespace N
open PySem PySem.Spec PyProof.Rows L2
def SqB (K : PySem.W.Frag) (t : Bool) (H : Hp) (a : Addr) (xs : List V) : Prop := match t with
  | true => SqT K H a xs
  | false => SqL K H a xs
def HeapSeq (t : Bool) (h : Heap) (a : Addr) (its : Array Value) : Prop := match t with
  | true => h.IsTuple a its
  | false => h.IsList a its
def IterB (t : Bool) (h : Heap) (it a : Addr) (i : Nat) : Prop := match t with
  | true => h.IsTupleIter it a i
  | false => h.IsListIter it a i
theorem IterB.at_ {t : Bool} {h h' : Heap} {it a : Addr} {i : Nat} (s : IterB t h it a i) (k : ∀ o, h.get? it = some o → h'.get? it = some o) : IterB t h' it a i := by
  cases t with
  | true => exact Heap.IsTupleIter.at s k
  | false => exact Heap.IsListIter.at s k
theorem IterB.obj {t : Bool} {h : Heap} {it a : Addr} {i : Nat} (s : IterB t h it a i) : ∃ o, h.get? it = some o ∧ ∃ vs, o.data = .fields vs := by
  cases t with
  | true =>
    obtain ⟨o, ho, hc, hd⟩ := (s : h.IsTupleIter it a i)
    exact ⟨o, ho, _, hd⟩
  | false =>
    obtain ⟨o, ho, hc, hd⟩ := (s : h.IsListIter it a i)
    exact ⟨o, ho, _, hd⟩
theorem seqB {X : Cx} {pins : List (Addr × Obj)} {σ : L2.St} {H : Hp} {s : Shared} {t : Bool} {a : Addr} {xs : List V} (I : Inv X pins σ H s) (h : SqB X.K t H a xs) : ∃ its : List Value, Vals xs its ∧ HeapSeq t s.heap a its.toArray := by
  cases t with
  | true =>
    obtain ⟨its, r, p, _⟩ := I.tuple h
    exact ⟨its, r, p⟩
  | false =>
    obtain ⟨its, r, p, _⟩ := I.list h
    exact ⟨its, r, p.isList⟩
theorem seqB_inj {X : Cx} {pins : List (Addr × Obj)} {σ : L2.St} {H : Hp} {s : Shared} {t : Bool} {a : Addr} {xs ys : List V} (I : Inv X pins σ H s) (h : SqB X.K t H a xs) (h' : SqB X.K t H a ys) : xs = ys := by
  cases t with
  | true => exact I.tuple_inj h h'
  | false => exact I.list_inj h h'
theorem drawsB {prog : Program} {w : World} {A : Around} (hh : A.handled = none) (t : Bool) (it l : Addr) (hne : l ≠ it) (items : Array Value) :
    Draws prog w A it [it, l] items.size (fun i v => items[i]? = some v) (fun i h => IterB t h it l i ∧ HeapSeq t h l items) := by
  cases t with
  | true => exact Draws.tuple hh it l hne items
  | false => exact Draws.list hh it l hne items
def IteN (K : PySem.W.Frag) (t : Bool) (a : Addr) : It :=
  ⟨fun i H => ∃ (xs : List V) (x : V), SqB K t H a xs ∧ xs[i]? = some x,
   fun i H v H' => ∃ (T : Addr) (o : Obj) (x : V), v = .ref T ∧ o.dict = none ∧ H T = none ∧ H' = upd H T (.frz o (.tup [.int (i : Nat), x])) ∧ ∀ xs, SqB K t H a xs → xs[i]? = some x,
   fun i H => ∃ xs : List V, SqB K t H a xs ∧ xs.length = i⟩
theorem turn_enumN {P : Program} {w : World} {K : PySem.W.Frag} {elts : List Expr} {kk : Nat} {tpos : Pos} (t : Bool) (a e it : Addr) :
    Turn P w K (.Tuple elts kk tpos) (IteN K t a) [e, it] e (fun i h => (∃ old, IsEnum h e it ((i : Nat) : Int) old) ∧ IterB t h it a i ∧ e ≠ it ∧ a ≠ it ∧ e ≠ a) where
  mem := by simp
  obj := fun i h st b hb => by
    obtain ⟨⟨old, he⟩, hi, _⟩ := st
    have e' : b = e ∨ b = it := by simpa using hb
    rcases e' with z | z
    · rw [z]; exact ⟨_, he, fun v q => nomatch q⟩
    · obtain ⟨o, ho, vs, hv⟩ := hi.obj
      rw [z]; exact ⟨o, ho, fun v q => by rw [hv] at q; cases q⟩
  keep := fun i h h' st k => let ⟨⟨old, he⟩, hi, hne⟩ := st; ⟨⟨old, k e (by simp) _ he⟩, hi.at_ fun o q => k it (by simp) o q, hne⟩
  item := by
    intro X hP hw hK hc i pins s σ H E I hf st hg
    subst hP hw hK
    obtain ⟨⟨old, he⟩, hit, hne, hai, hea⟩ := st
    obtain ⟨xs, x, hq, hx⟩ := hg
    obtain ⟨its, rv, p⟩ := seqB I hq
    obtain ⟨u, hu, ru⟩ := rv.get hx
    have hel : e < s.heap.objs.size := Heap.lt_size he
    have hil : it < s.heap.objs.size := by obtain ⟨_, q, _⟩ := hit.obj; exact Heap.lt_size q
    have hlt : i < its.toArray.size := by
      have := (List.getElem?_eq_some_iff.mp hu).1
      simpa using this
    refine wpAny_pyNext_enum_itemD (drawsB (show X.A.in1.handled = none from I.ok.hd hc) t it a hai its.toArray) he ⟨hit, p⟩ hlt hne (by simp [hne, hea]) fun x' h' tk hx' ho hst' hT hsz hk => ?_
    have ex : x' = u := by
      have : its.toArray[i]? = some x' := hx'
      rw [List.getElem?_toArray, hu] at this
      exact (Option.some.inj this).symm
    subst ex
    refine ⟨_, rfl, wpAny_letOwnedTupleGo_enum (s := { s with heap := h', toks := tk + 1 }) ho fun h'' he' sb => ?_⟩
    have hT2 : h''.get? s.heap.objs.size = some { cls := .type "tuple", data := .seq #[.int i tk, x'] } := (sb.2 _ (Nat.ne_of_gt hel)).trans hT
    have new : ObjOk X.prog X.w (upd H s.heap.objs.size (.frz { cls := .type "tuple", data := .seq #[.int i tk, x'] } (.tup [.int (i : Nat), x]))) h'' s.heap.objs.size (.frz { cls := .type "tuple", data := .seq #[.int i tk, x'] } (.tup [.int (i : Nat), x])) :=
      ⟨hT2, ⟨by show 2 ≤ sizeLine; decide, [.int i tk, x'], .cons ⟨_, rfl⟩ (.cons ru .nil), ⟨_, hT2, rfl, _, rfl⟩⟩⟩
    have I1 : Inv X pins σ (upd H s.heap.objs.size (.frz { cls := .type "tuple", data := .seq #[.int i tk, x'] } (.tup [.int (i : Nat), x]))) { s with heap := h'', toks := tk + 1 } :=
      I.turnedNew (ch := [e, it]) (fun b ob hb q => (sb.2 b (fun z => hb (by simp [z]))).trans (hk b ob (fun z => hb (by simp [z])) (fun z => hb (by simp [z])) q)) hf (Nat.le_refl _) new
    refine ⟨.ref s.heap.objs.size, _, I1, rfl, ⟨_, _, x, rfl, rfl, I.hok.fresh (Nat.le_refl _), rfl, fun ys hy => by rw [seqB_inj I hy hq]; exact hx⟩, ⟨⟨x', ?_⟩, hst'.1.at_ fun o q => (sb.2 it (Ne.symm hne)).trans q, hne, hai, hea⟩, fun b hb => ?_⟩
    · have e1 : ((i + 1 : Nat) : Int) = (i : Int) + 1 := by omega
      rw [e1]; exact he'
    · have hb' : b < s.heap.objs.size := by
        have e' : b = e ∨ b = it := by simpa using hb
        rcases e' with z | z
        · rw [z]; exact hel
        · rw [z]; exact hil
      rw [upd_ne (Nat.ne_of_lt hb')]
      exact (hf b hb).1
  done := by
    intro X hP hw hK hc i pins s σ H E I hf st hg
    subst hP hw hK
    obtain ⟨⟨old, he⟩, hit, hne, hai, hea⟩ := st
    obtain ⟨xs, hq, hx⟩ := hg
    obtain ⟨its, rv, p⟩ := seqB I hq
    obtain ⟨f0, f1, f2, f3, f4, f5⟩ := hf it (by simp)
    have hl := rv.length
    have hsz : its.toArray.size = i := by simp; omega
    exact wpAny_pyNext_enum_endD (drawsB (show X.A.in1.handled = none from I.ok.hd hc) t it a hai its.toArray) he (by rw [hsz]; exact ⟨hit, p⟩) fun h' eb => ⟨rfl, I.turned (t' := s.toks) (fun b o hb q => eb b o hb q) f0 f1 f3 f4 f5⟩
  self := fun A i s Q E st h => let ⟨⟨_, he⟩, _⟩ := st; wpAny_pyIter_enum he h
theorem F.enum1 (v : Value) : checkTypeCall "enumerate" ⟨[v], []⟩ = pure () := F.typeCall_enumerate_1 v
set_option maxHeartbeats 4000000 in
theorem meets_enumerate_newB1 {v : Value} {o : Obj} {H : Heap → Prop} (B : Begins v o H) :
    Meets (Builtin.«enumerate.__new__» ⟨[.type "enumerate", v], []⟩) (fun _ R s => H s.heap ∧
      R (.ok (.ret (.ref (s.heap.push o).objs.size))) { s with heap := (s.heap.push o).push { cls := .type "enumerate", data := .fields #[.none, .bool false, .ref s.heap.objs.size, rawInt 0, .none, .none] } }) :=
  .of_wp fun prog w A R s h => by
    obtain ⟨hp, g, d, tk, os⟩ := s; obtain ⟨h1, h⟩ := h
    have hsub := sub_enumerate
    have q1 : ∀ {A' : Around} {E : Value → Shared → Prop} {Q : Value → Shared → Prop}, Q (.ref hp.objs.size) ⟨hp.push o, g, d, tk, os⟩ → wpAny (model prog w) A' (pyIter v) Q E ⟨hp, g, d, tk, os⟩ :=
      fun q => B.iter prog w _ _ ⟨hp, g, d, tk, os⟩ _ h1 q
    wp_walk using q1
    refine wpAny_stack_any fun st => wpAny_pure ?_
    split
    · rename_i c _ _ _ _ _
      cases (c == Value.type "enumerate")
      · wp_walk using q1
        exact ⟨_, rfl, h⟩
      · wp_walk using q1
        exact ⟨_, rfl, h⟩
    · wp_walk using q1
      exact ⟨_, rfl, h⟩
theorem call_enumB {prog : Program} {w : World} {A : Around} {E : Value → Shared → Prop} {s : Shared} {v : Value} {o : Obj} {H : Heap → Prop} {Q : Value → Shared → Prop} (B : Begins v o H) (h1 : H s.heap)
    (h : ∀ h', IsEnum h' (s.heap.objs.size + 1) s.heap.objs.size 0 .none → h'.get? s.heap.objs.size = some o → h'.objs.size = s.heap.objs.size + 2 →
      (∀ b o, s.heap.get? b = some o → h'.get? b = some o) → Q (.ref (s.heap.objs.size + 1)) { s with heap := h' }) :
    wpAny (model prog w) A (call (.type "enumerate") [v]) Q E s := by
  refine callType_new F.called_enumerate (by decide) (F.typeCall_enumerate_1 _) (F.newCall_enumerate_1 _) (fun obj => F.args_object_init_2 obj _) F.entry_enumerate_new
    (meets_enumerate_newB1 B) ⟨h1, ?_⟩
  have hz : (s.heap.push o).objs.size = s.heap.objs.size + 1 := Heap.size_push ..
  show _ ∧ _
  rw [hz]
  have he : IsEnum ((s.heap.push o).push { cls := .type "enumerate", data := .fields #[.none, .bool false, .ref s.heap.objs.size, rawInt 0, .none, .none] }) (s.heap.objs.size + 1) s.heap.objs.size 0 .none := by
    have := Heap.get?_push_size (s.heap.push o) (o := { cls := .type "enumerate", data := .fields #[.none, .bool false, .ref s.heap.objs.size, rawInt 0, .none, .none] }) rfl
    rw [hz] at this; exact this
  refine ⟨⟨_, he, rfl⟩, h _ he (Heap.get?_push_of_some _ (Heap.get?_push_size _ B.free)) (by rw [Heap.size_push, hz]) fun b o x => Heap.get?_push_of_some _ (Heap.get?_push_of_some _ x)⟩
def iEnumN (K : PySem.W.Frag) (ta : TA) : TI := fun σ H R => ta σ H fun vs H1 => ∃ t a xs, vs = [.ref a] ∧ SqB K t H1 a xs ∧ R (IteN K t a) H1
theorem pi_enumN {X : Cx} {e : Expr} {ta : TA} {p pos tpos : Pos} {elts : List Expr} {kk : Nat} (hg : Gl X "enumerate") (hm : X.mg "enumerate" = none) (ha : PA X [e] ta) (hs : starEach [e] X.env = [(false, eval e X.env)] := by rfl) :
    PI X (.Tuple elts kk tpos) (.Call (.Name "enumerate" p) [e] [] pos) (iEnumN X.K ta) := by
  refine ⟨fun pins s σ H R I h => ?_⟩
  refine Call_ (ld_blt I hg hm boot_enumerate (PyProof.Rows.callWith_type1 (thn (ha.run pos pins s σ H _ I h) fun us s1 ⟨vs, H1, I1, r1, q1⟩ => ?_) hs rfl))
  obtain ⟨t, a, xs, ex, hq, q⟩ := q1
  subst ex
  cases r1 with
  | cons r rr =>
    cases rr
    cases r
    obtain ⟨its, rv, p'⟩ := seqB I1 hq
    have fin : ∀ h', IsEnum h' (s1.heap.objs.size + 1) s1.heap.objs.size 0 .none → IterB t h' s1.heap.objs.size a 0 → (∀ b o, s1.heap.get? b = some o → h'.get? b = some o) → a < s1.heap.objs.size →
        wpAny (model X.prog X.w) X.A (pyIter (.ref (s1.heap.objs.size + 1))) (PIE X pins σ (.Tuple elts kk tpos) R) X.xe { s1 with heap := h' } := fun h' he hit hk hlt => wpAny_pyIter_enum he (by
      have I2 : Inv X pins σ H1 { s1 with heap := h' } := I1.kept (t' := s1.toks) hk
      refine ⟨s1.heap.objs.size + 1, [s1.heap.objs.size + 1, s1.heap.objs.size], _, _, H1, rfl, I2, turn_enumN t a (s1.heap.objs.size + 1) s1.heap.objs.size, ⟨⟨.none, he⟩, hit, Nat.succ_ne_self _, Nat.ne_of_lt hlt, Nat.ne_of_gt (Nat.lt_succ_of_lt hlt)⟩, fun b hb => ?_, q⟩
      have e' : b = s1.heap.objs.size + 1 ∨ b = s1.heap.objs.size := by simpa using hb
      have hle : s1.heap.objs.size ≤ b := by
        rcases e' with z | z
        · rw [z]; exact Nat.le_add_right _ _
        · rw [z]; exact Nat.le_refl _
      exact I1.fpOk hle (I1.hok.fresh hle))
    cases t with
    | true =>
      obtain ⟨o, ho, _⟩ := id (show s1.heap.IsTuple a its.toArray from p')
      exact call_enumB (begins_tuple a its.toArray) p' fun h' he hit hsz hk => fin h' he ⟨_, hit, rfl, rfl⟩ hk (Heap.lt_size ho)
    | false =>
      obtain ⟨o, ho, _⟩ := id (show s1.heap.IsList a its.toArray from p')
      exact call_enumB (begins_list a its.toArray) p' fun h' he hit hsz hk => fin h' he ⟨_, hit, rfl, rfl⟩ hk (Heap.lt_size ho)
theorem walk_enumN {K : PySem.W.Frag} {t : Bool} {a : Addr} {xs : List V} : Walk (IteN K t a) xs.length (fun H => SqB K t H a xs)
    (fun i H v H' => ∃ (T : Addr) (o : Obj) (x : V), v = .ref T ∧ H T = none ∧ H' = upd H T (.frz o (.tup [.int (i : Nat), x])) ∧ xs[i]? = some x) :=
  ⟨fun i H hi h => ⟨xs, xs[i], h, List.getElem?_eq_getElem hi⟩, fun H h => ⟨xs, h, rfl⟩, fun i H x H' hi h ⟨T, o, y, e, _, n, e2, hx⟩ => ⟨T, o, y, e, n, e2, hx xs h⟩⟩
section
variable {X : Cx} {B : Hp} {M : List Addr} {e a b c : Expr} {es : List Expr} {pos : Pos}
/-- the k-th pair of enumerate -/
def enIt (ds : List D) : Nat → D → Prop := fun k d => ∃ x, ds[k]? = some x ∧ d = .tup [.int (k : Nat), x]
def iEn (ra : RA) : RI := fun ρ P => ra ρ fun ws ρ1 => ∃ w, ws = [w] ∧ kSq (sq ρ1 w) fun ds => P ds.length (enIt ds) (okW ρ1 ds w) ρ1
theorem walks_en {K : PySem.W.Frag} {H1 : Hp} {a : Addr} {ds : List D} {ok : En → Prop} {t : Bool}
    (h : ∀ ρ σ H, Keep H1 H → Sta K B M ρ σ H → ok ρ → ∃ vs, SqV K H t a vs ∧ RepL K H ds vs) : Walks K B M H1 (IteN K t a) ds.length (enIt ds) ok := by
  have cv : ∀ {H vs}, SqV K H t a vs → SqB K t H a vs := fun {H vs} s => by
    cases t with
    | true => exact TpN.sq s
    | false => exact .inl s
  refine ⟨fun k ρ σ H kk S o lt => ?_, fun k ρ σ H x H' kk S o lt y => ?_, fun ρ σ H kk S o => ?_⟩
  · obtain ⟨vs, hs, rr⟩ := h ρ σ H kk S o
    have : k < vs.length := by rw [RepL.length rr]; exact lt
    exact ⟨vs, vs[k], cv hs, List.getElem?_eq_getElem this⟩
  · obtain ⟨vs, hs, rr⟩ := h ρ σ H kk S o
    obtain ⟨T, oo, x0, rfl, hd, nT, rfl, y⟩ := y
    have hdk : ds[k]? = some ds[k] := List.getElem?_eq_getElem lt
    obtain ⟨v, hv, rv⟩ := RepL.get rr hdk
    have hx := y vs (cv hs)
    rw [hv] at hx
    have hx : v = x0 := Option.some.inj hx
    subst hx
    have sm := same_upd (o := .frz oo (.tup [.int (k : Nat), v])) nT
    exact ⟨sm, _, ⟨_, hdk, rfl⟩, T, _, rfl, .inl ⟨oo, hd, upd_same⟩, .int (k : Nat), [v], rfl, rfl, v, [], rfl, Rep.keep (Keep.of sm) _ rv, rfl⟩
  · obtain ⟨vs, hs, rr⟩ := h ρ σ H kk S o
    exact ⟨vs, cv hs, RepL.length rr⟩
theorem okW_read {K : PySem.W.Frag} {H1 H2 : Hp} {a : Addr} {vs : List V} {w : W} {t : Bool} {ds : List D} {ρ1 ρ2 : En} {σ2 : L2.St} (r1 : WOk K H1 ρ1 w (.ref a)) (e1 : N.sq ρ1 w = some (t, ds)) (s : SqV K H1 t a vs) (rr : RepL K H1 ds vs) (kk : Keep H1 H2) (S2 : Sta K B M ρ2 σ2 H2) (ok2 : okW ρ1 ds w ρ2) : ∃ vs, SqV K H2 t a vs ∧ RepL K H2 ds vs := by
  cases w with
  | o i =>
    obtain ⟨p, e2, e3⟩ := ok2
    obtain ⟨p', fs, e4, ev⟩ := r1
    rw [e2] at e4
    cases e4
    cases ev
    have h2 : (match ρ1[i]? with
      | some (.own _ ds) => some (false, ds)
      | _ => none) = some (t, ds) := e1
    rw [e2] at h2
    cases h2
    obtain ⟨us, hu, ru⟩ := S2.own_at e3
    exact ⟨us, .inl hu, ru⟩
  | d x =>
    refine ⟨vs, ?_, RepL.keep kk ds rr⟩
    cases x with
    | tup es =>
      cases e1
      exact TpN.keep kk s
    | lst es =>
      cases e1
      obtain ⟨a', vs', ea, hz, _⟩ := r1
      cases ea
      obtain ⟨o, ho⟩ := hz
      have h1 : Rd H1 a (.lst vs) := s
      have ev : vs' = vs := by
        rcases h1 with h1 | ⟨o', h1⟩
        · rw [ho] at h1; cases h1
        · rw [ho] at h1; cases h1; rfl
      subst ev
      exact .inr ⟨o, kk _ _ ho trivial⟩
    | _ => cases e1
/-- over enumerate(xs) -/
theorem di_enum {p tpos : Pos} {elts : List Expr} {kk : Nat} {ra : RA} (hm : X.mg "enumerate" = none) (ha : DA X B M [a] ra) (hg : Gl X "enumerate" := by rfl) (hs : starEach [a] X.env = [(false, eval a X.env)] := by rfl) : DI X B M (.Tuple elts kk tpos) (.Call (.Name "enumerate" p) [a] [] pos) (iEn ra) := by
  refine ⟨pi_imp (pi_enumN hg hm ha.pa hs) fun σ H R ⟨ρ, S, q⟩ => ?_, fun ρ P P' w p => ha.mo ρ _ _ (fun ws ρ1 ⟨w1, e, q1⟩ => ⟨w1, e, q1.imp fun ds p1 => w _ _ _ _ p1⟩) p⟩
  refine intoA ha S q fun ws ρ1 xs H1 ⟨w1, e, hh⟩ k1 o1 S1 r1 => ?_
  subst e
  obtain ⟨t, ds, e1, q1⟩ := hh.el
  obtain ⟨v, vr, rfl, r1, rn⟩ := r1
  cases rn
  obtain ⟨a, vs, rfl, s, rr⟩ := sq_read S1 r1 e1
  refine ⟨t, a, vs, rfl, ?_, q1 _ _ k1 o1 S1 (walks_en fun ρ2 σ2 H2 kk S2 ok2 => okW_read r1 e1 s rr kk S2 ok2)⟩
  cases t with
  | true => exact TpN.sq s
  | false => exact .inl s
end
end N
/-! NY -/
set_option Elab.async false
set_option linter.all false
set_option maxRecDepth 100000
set_option maxHeartbeats 2000000
/-! NY: membership of data, dicts that are read, calls with keywords. -/
namespace N
open PySem PySem.Spec PyProof.Rows L2
section
variable {X : Cx} {B : Hp} {M : List Addr} {e a b c : Expr} {es : List Expr} {pos : Pos}
/-! ### x in xs, data of any depth, xs a list -/
def oInD (neg : Bool) : O2 := fun w1 w2 ρ P => ∃ p qs, pdW ρ w1 = some p ∧ pdW ρ w2 = some (.list qs) ∧ SeqAt.shaped p = true ∧ SeqAt.shaped (.list qs) = true ∧ P (.bl (if neg then !(qs.any fun z => PyData.eqv z p) else qs.any fun z => PyData.eqv z p))
theorem mo_oInD {neg : Bool} : MonoO (oInD neg) := fun x y ρ P P' h ⟨p, q, e1, e2, s1, s2, r⟩ => ⟨p, q, e1, e2, s1, s2, h _ r⟩
theorem tells_inD {K : PySem.W.Frag} : Tells2 K (rInD K) (oInD false) := fun B M ρ σ H w1 w2 x y Q P S r1 r2 ⟨p, q, e1, e2, s1, s2, h⟩ hq => ⟨p, q, dpW_of S r1 e1, dpW_of S r2 e2, s1, s2, hq _ _ H h (Same.refl _) rfl⟩
theorem tells_notinD {K : PySem.W.Frag} : Tells2 K (rNotInD K) (oInD true) := fun B M ρ σ H w1 w2 x y Q P S r1 r2 ⟨p, q, e1, e2, s1, s2, h⟩ hq => ⟨p, q, dpW_of S r1 e1, dpW_of S r2 e2, s1, s2, hq _ _ H h (Same.refl _) rfl⟩
theorem de_inD {k : Nat} (hr : Room k X.A) {ra rb : RE} (ha : DE X B M a ra) (hb : DE X B M b rb) (hm : behindInMarks .In b = false := by rfl) : DE X B M (.Compare a [.In] [b] pos) (r2 ra rb (oInD false)) := de_cmp (op_inD (by have := hr.un; omega)) tells_inD mo_oInD ha hb hm
theorem dt_inD {k : Nat} (hr : Room k X.A) {ra rb : RE} (ha : DE X B M a ra) (hb : DE X B M b rb) (hm : behindInMarks .In b = false := by rfl) : DT X B M (.Compare a [.In] [b] pos) (rTB (r2 ra rb (oInD false))) := dt_cmp (op_inD (by have := hr.un; omega)) tells_inD mo_oInD ha hb hm
theorem dt_notinD {k : Nat} (hr : Room k X.A) {ra rb : RE} (ha : DE X B M a ra) (hb : DE X B M b rb) (hm : behindInMarks .NotIn b = false := by rfl) : DT X B M (.Compare a [.NotIn] [b] pos) (rTB (r2 ra rb (oInD true))) := dt_cmp (op_notInD (by have := hr.un; omega)) tells_notinD mo_oInD ha hb hm
/-! ### d[k] of a dict that stays, ints to ints -/
def rDIx (ra rb : RE) : RE := fun ρ Q => ra ρ (kD fun x ρ1 => rb ρ1 (kInt fun k ρ2 => ∃ kvs v, x = .dic kvs ∧ valV kvs (.inl k : Key) = some (.int v) ∧ Q (.d (.int v)) ρ2))
theorem de_dix {k : Nat} (hr : Room k X.A) {ra rb : RE} (ha : DE X B M a ra) (hb : DE X B M b rb) (hs : NoSl b := by intro _ _; rfl) : DE X B M (.Subscript a b pos) (rDIx ra rb) := by
  refine DE.mk' (pe_dget (by have := hr.units; omega) ha.pe hb.pe hs) (fun ρ P P' w q => ha.mo ρ _ _ (fun w1 ρ1 q1 => by
    obtain ⟨x, rfl, q1⟩ := q1.el
    exact hb.mo ρ1 _ _ (fun w2 ρ2 q2 => by
      obtain ⟨k, rfl, kvs, v, e1, e2, q2⟩ := q2.el
      exact ⟨kvs, v, e1, e2, w _ _ q2⟩) q1) q) fun σ H Q ρ S q => ?_
  refine into ha S q fun w1 ρ1 v1 H1 h1 k1 o1 S1 r1 => ?_
  obtain ⟨x, rfl, h1⟩ := h1.el
  refine into hb S1 h1 fun w2 ρ2 v2 H2 h2 k2 o2 S2 r2 => ?_
  obtain ⟨k, rfl, kvs, v, rfl, ev, q2⟩ := h2.el
  obtain ⟨p, rfl, o, ho, hp⟩ := r1
  refine ⟨p, .int v, rfl, .inl ⟨kvs, .inl k, .inr ⟨o, k2 _ _ hp trivial⟩, r2, ev.symm⟩, q2 _ _ (k1.trans k2) (o1.trans o2) S2 rfl⟩
/-! ### f(e, .., k = v, ..) in the parameters' order -/
/-- the values of keywords -/
structure DK (X : Cx) (B : Hp) (M : List Addr) (ks : List Keyword) (r : RA) : Prop where
  pk : PK X ks (tDA X.K B M r)
  mo : MonoA r
  len : ∀ ρ P, r ρ P → r ρ fun ws ρ' => ws.length = ks.length ∧ P ws ρ'
theorem dk_nil : DK X B M [] rNil := ⟨⟨fun pos pins s σ H Q I ⟨ρ, S, q⟩ => pk_nil.run pos pins s σ H Q I (q [] H (Keep.refl _) (OwnEq.refl _) S rfl)⟩, fun ρ P P' h p => h _ _ p, fun ρ P p => ⟨rfl, p⟩⟩
theorem dk_cons {ks : List Keyword} {nm : Option Str} {kpos : Pos} {ra : RE} {rr : RA} (ha : DE X B M a ra) (hr : DK X B M ks rr) : DK X B M (⟨nm, a, kpos⟩ :: ks) (rCons ra rr) := by
  refine ⟨⟨fun pos pins s σ H Q I ⟨ρ, S, q⟩ => (pk_cons ha.pe hr.pk).run pos pins s σ H Q I ?_⟩, fun ρ P P' h p => ha.mo ρ _ _ (fun w1 ρ1 q => hr.mo ρ1 _ _ (fun ws ρ2 q2 => h _ _ q2) q) p,
    fun ρ P p => ha.mo ρ _ _ (fun w1 ρ1 q => hr.mo ρ1 _ _ (fun ws ρ2 ⟨l, q2⟩ => ⟨congrArg Nat.succ l, q2⟩) (hr.len ρ1 _ q)) p⟩
  refine into ha S q fun w1 ρ1 v H1 p1 k1 o1 S1 r1 => ?_
  refine ⟨ρ1, S1, hr.mo ρ1 _ _ (fun ws ρ2 p2 vs H2 k2 o2 S2 r2 => ?_) p1⟩
  exact p2 (v :: vs) H2 (k1.trans k2) (o1.trans o2) S2 ⟨v, vs, rfl, WOk.keep k2 o2 r1, r2⟩
/-- the def of that name, called with n positional values and keywords ks, in the parameters' order -/
def HasK (P : Program) (w : World) (K : PySem.W.Frag) (mg : Str → Option Value) (base : Heap) (x : Str) (k n : Nat) (ps ks : List Str) (sp : Sp) : Prop :=
  ∃ f fd, mg x = some (.ref f) ∧ PySem.W.keepIn K (.ref f) = true ∧ KBn K fd ps n ks (fun us ws => us ++ ws) (fun us ws => us ++ ws) ∧ FnOk P w K mg base (L2N.CX P w) k f fd ps sp
def rCallK (S : FS) (n m : Nat) (ra rk : RA) (Xp : Exn → Prop) : RE := fun ρ Q => ra ρ fun ws ρ1 => rk ρ1 fun zs ρ2 => ws.length = n ∧ zs.length = m ∧ ∃ g, ws ++ zs = dats (S.args g) ∧ S.pre g ∧ (∀ d, S.post g d → Q (.d d) ρ2) ∧ ∀ x, S.exc g x → Xp x
theorem WOks.length : ∀ {K : PySem.W.Frag} {H : Hp} {ρ : En} {ws : List W} {vs : List V}, WOks K H ρ ws vs → vs.length = ws.length
  | _, _, _, [], _, h => by rw [show _ = [] from h]; rfl
  | _, _, _, w :: ws, _, h => by
    obtain ⟨v, vr, rfl, _, rr⟩ := h
    rw [List.length_cons, List.length_cons, WOks.length rr]
theorem de_callKX {x : Str} {k n : Nat} {ps ks : List Str} {kws : List Keyword} {S : FS} {ra rk : RA} {p : Pos} {E : XK} {Xp : Exn → Prop} (G : HasK X.prog X.w X.K X.mg X.base x k n ps ks (spF X.K S)) (hr : Room k X.A) (hx : Passes (L2N.CX X.prog X.w) X E)
    (hE : ∀ x cls dx H', Xp x → Frm M B H' → XRep X.K H' x cls dx → E cls dx H') (ha : DA X B M (a :: es) ra) (hk : DK X B M kws rk) (hall : (backToKw pos (keywordEach kws X.env)).all (·.1.isSome) = true := by rfl) (hks : (backToKw pos (keywordEach kws X.env)).filterMap (·.1) = ks := by rfl) (hg : Gl X x := by rfl) (hdb : (x == ("__debug__" : Str)) = false := by decide)
    (he : starEach (a :: es) X.env = (false, eval a X.env) :: starEach es X.env := by rfl) (hpl : ((backTo pos (starEach (a :: es) X.env)).any (·.1) || (backToKw pos (keywordEach kws X.env)).any (·.1.isNone)) = false := by rfl) :
    DE X B M (.Call (.Name x p) (a :: es) kws pos) (rCallK S n ks.length ra rk Xp) := by
  obtain ⟨f, fd, hm, hkp, hb, F⟩ := G
  refine DE.mk' (pe_callN F hr hg hm hkp hb hx ha.pa hk.pk hall hks hdb he hpl) (fun ρ P P' w q => ha.mo ρ _ _ (fun ws ρ1 q1 => hk.mo ρ1 _ _ (fun zs ρ2 ⟨l1, l2, g, e, pre, h1, h2⟩ => ⟨l1, l2, g, e, pre, fun d hd => w _ _ (h1 d hd), h2⟩) q1) q) fun σ H Q ρ Sx q => ?_
  refine intoA ha Sx q fun ws ρ1 vs H1 q1 k1 o1 S1 r1 => ?_
  refine ⟨ρ1, S1, hk.mo ρ1 _ _ (fun zs ρ2 ⟨l1, l2, g, e1, pre, h1, h2⟩ us H2 k2 o2 S2 r2 => ?_) q1⟩
  have r12 := woks_app (WOks.keep k2 o2 r1) r2
  rw [e1] at r12
  refine ⟨(WOks.length r1).trans l1, (WOks.length r2).trans l2, g, dats_ok r12, pre, fun d v H' hd fr rv => ?_, fun x cls dx H' hx fr rx => ?_⟩
  · exact h1 d hd v H' ((k1.trans k2).trans fr.keep) (o1.trans o2) (S2.same fr.same) rv
  · exact hE x cls dx H' (h2 x hx) (S2.frm.trans (Frm.of fr.same)) rx
end
section
variable {P : Program} {w : World} {K : PySem.W.Frag} {mg : Str → Option Value} {base : Heap} {x qual : Str} {params : Arguments} {body : List Stmt} {scope : Scope} {f : Addr} {fd : FuncData}
theorem vals_app : ∀ {vs zs : List V} {us ws : List Value}, Vals vs us → Vals zs ws → Vals (vs ++ zs) (us ++ ws)
  | _, _, _, _, .nil, h => h
  | _, _, _, _, .cons r rr, h => .cons r (vals_app rr h)
theorem hasK_of {ps ks : List Str} {k n : Nat} {sp : Sp} (F : FunD K x qual params body scope [] [] f fd) (gm : mg x = some (.ref f)) (ok : FnOk P w K mg base (L2N.CX P w) k f fd ps sp)
    (h : ∀ (kV doc pm : Value) (an : Option Addr) (cdv ct : Value) (us ws : List Value), us.length = n → ws.length = ks.length → bindArgs (PySem.W.fnOf x qual params body scope .none kV doc pm an cdv ct) ⟨us, ks.zip ws⟩ = pure (ps.zip (us ++ ws))) : HasK P w K mg base x k n ps ks sp := by
  refine ⟨f, fd, gm, F.kp, ⟨fun s us ws _ l1 l2 => ?_, fun r1 r2 => vals_app r1 r2⟩, ok⟩
  obtain ⟨oc, od, dV, kV, doc, pm, an, cdv, ct, osl, rfl, lk, hcd, hD, hK⟩ := F.ex
  rcases hD with ⟨_, rfl⟩ | ⟨e, _⟩
  · exact .of_eq (h kV doc pm an cdv ct us ws l1 l2)
  · exact absurd rfl e
end
end N
/-! NU -/
set_option Elab.async false
set_option linter.all false
set_option maxRecDepth 100000
set_option maxHeartbeats 2000000
/-! NU: tuples again and again; two names from a tuple or a list. -/
namespace N
open PySem PySem.Spec PyProof.Rows L2
theorem tuple_mul1 (l : Addr) (items : Array Value) (n : Nat) (dd : Option Addr) (sl : Array (Option Value)) (u : Tok) :
    Meets (Builtin.«tuple.__mul__» ⟨[.ref l, .int 1 u], []⟩) (fun _ R s => s.heap.get? l = some { cls := .type "tuple", dict := dd, data := .seq items n, slots := sl } ∧ R (.ok (.ret (Value.ref l))) s) :=
  .of_wp fun prog w A R s h => by
    obtain ⟨hp, g, d, tk, os⟩ := s
    obtain ⟨hl, h⟩ := h
    have f1 := AutoSeq1.idx_int
    have c0 : (decide ((1 : Int) < -(2 ^ 63)) || decide ((1 : Int) ≥ 2 ^ 63)) = false := by decide
    have c1 : (items.isEmpty || (1 : Int) == 1) = true := by simp
    wp_walk using wpAny_loadPart' hl
    repeat (first
      | (refine wpAny_ite_false (decide_eq_false (by rw [c0]; exact Bool.false_ne_true)) ?_; wp_walk using wpAny_loadPart' hl)
      | (refine wpAny_ite_true (decide_eq_true c1) ?_; wp_walk using wpAny_loadPart' hl))
    exact ⟨_, rfl, h⟩
def rRepTN (K : PySem.W.Frag) : R2 := fun x y H Q => ∃ l k xs, x = .ref l ∧ y = .int k ∧ SqT K H l xs ∧ xs ≠ [] ∧ 1 ≤ k ∧ k < 2 ^ 62 ∧ xs.length * k.toNat ≤ 1000000 ∧ (k = 1 → Q (.ref l) H) ∧ (k ≠ 1 → NewT Q H (List.replicate k.toNat xs).flatten)
theorem op_repTN {X : Cx} : OpR X (binaryOp .Mult) (rRepTN X.K) := by
  intro pins s σ H x y v u Q I rx ry h
  obtain ⟨l, k, xs, rfl, rfl, hT, hne, h1, h2, hz, q1, q⟩ := h
  cases rx
  obtain ⟨t, rfl⟩ := ry
  obtain ⟨its, r, ⟨⟨cls, dd, data, sl⟩, ho, hc, n, hd⟩, hs⟩ := I.tuple hT
  simp only at hc hd
  subst hc hd
  by_cases hk1 : k = 1
  · subst hk1
    refine wpAny_binaryOp_repeat_ref (T := "tuple") (U := "int") (by decide) ⟨_, ho, rfl⟩ (fun s' => typeIs_int s' 1 t) noFill_tuple_mul F.fills_int_mul F.slot_int_rmul repeat_tuple F.slot_int_index.lookup
      (call_meets F.slot_int_rmul (typeIs_int s 1 t) F.entry_int_rmul (F.args_int_rmul_2 _ _) (int_rmul_tuple 1 t l its.toArray n dd sl)
        ⟨ho, rfl, ⟨_, ho, rfl⟩, call_meets F.slot_tuple_mul ⟨_, ho, rfl⟩ F.entry_tuple_mul (F.args_tuple_mul_2 _ _) (tuple_mul1 l its.toArray n dd sl t) ⟨ho, ?_⟩⟩)
    exact ⟨.ref l, H, I, rfl, q1 rfl⟩
  have hle : its.length = xs.length := r.length.symm
  have hn : its ≠ [] := fun e => hne (by
    rw [e] at hle
    exact List.eq_nil_of_length_eq_zero hle.symm)
  have hi : its.toArray.isEmpty = false := by
    cases its with
    | nil => exact absurd rfl hn
    | cons a b => rfl
  have hsz0 : its.toArray.size = xs.length := by rw [List.size_toArray, hle]
  have hm : ((its.toArray.size : Nat) : Int) * k ≤ 1000000 := by
    rw [hsz0]
    have : ((xs.length * k.toNat : Nat) : Int) ≤ 1000000 := by omega
    rw [Int.natCast_mul, Int.toNat_of_nonneg (by omega)] at this
    exact this
  have flen : (List.replicate k.toNat its).flatten.length ≤ sizeLine := by
    rw [PyProof.Rows.lm_len_rep_flat, hle, sizeLine_eq, Nat.mul_comm]
    omega
  have c0 : (decide (k < -(2 ^ 63)) || decide (k ≥ 2 ^ 63)) = false := by
    rw [decide_eq_false (by omega), decide_eq_false (by omega)] <;> rfl
  have c1 : (its.toArray.isEmpty || k == 1) = false := by
    rw [hi, Bool.false_or]
    exact beq_eq_false_iff_ne.mpr (by omega)
  have c2 : (decide (k ≤ 0) || its.toArray.isEmpty) = false := by
    rw [hi, Bool.or_false]
    exact decide_eq_false (by omega)
  have c4 : Builtin.Tuple.tupleTooMany (((its.toArray.size : Nat) : Int) * k) = false := by
    unfold Builtin.Tuple.tupleTooMany
    rw [sizeLine_eq]
    exact decide_eq_false (by omega)
  refine wpAny_binaryOp_repeat_ref (T := "tuple") (U := "int") (by decide) ⟨_, ho, rfl⟩ (fun s' => typeIs_int s' k t) noFill_tuple_mul F.fills_int_mul F.slot_int_rmul repeat_tuple F.slot_int_index.lookup
    (call_meets F.slot_int_rmul (typeIs_int s k t) F.entry_int_rmul (F.args_int_rmul_2 _ _) (int_rmul_tuple k t l its.toArray n dd sl)
      ⟨ho, rfl, ⟨_, ho, rfl⟩, call_meets F.slot_tuple_mul ⟨_, ho, rfl⟩ F.entry_tuple_mul (F.args_tuple_mul_2 _ _) (tuple_mulW l its.toArray n dd sl k t c0 c1 c2 (by omega) c4 (by rw [size_rep, List.size_toArray]; exact flen)) ⟨ho, ?_⟩⟩)
  rw [size_rep]
  exact laid_tupN (k := s.toks) I (r.rep k.toNat) (by rw [PyProof.Rows.lm_len_rep_flat, sizeLine_eq, Nat.mul_comm]; omega) (q hk1)
section
variable {X : Cx} {B : Hp} {M : List Addr} {e a b c : Expr} {es : List Expr} {pos : Pos}
/-- t * k -/
def oRepT : O2 := fun w1 w2 ρ P => match w1, w2 with
  | .d (.tup ds), .d (.int k) => ds ≠ [] ∧ 1 ≤ k ∧ k < 2 ^ 62 ∧ ds.length * k.toNat ≤ 1000000 ∧ P (.tup (List.replicate k.toNat ds).flatten)
  | _, _ => False
theorem oRepT.el {w1 w2 : W} {ρ : En} {P : D → Prop} (h : oRepT w1 w2 ρ P) : ∃ ds k, w1 = .d (.tup ds) ∧ w2 = .d (.int k) ∧ ds ≠ [] ∧ 1 ≤ k ∧ k < 2 ^ 62 ∧ ds.length * k.toNat ≤ 1000000 ∧ P (.tup (List.replicate k.toNat ds).flatten) := by
  unfold oRepT at h
  split at h
  · exact ⟨_, _, rfl, rfl, h⟩
  · exact h.elim
theorem mo_oRepT : MonoO oRepT := fun x y ρ P P' h q => by
  obtain ⟨ds, k, rfl, rfl, h1, h2, h3, h4, q⟩ := q.el
  exact ⟨h1, h2, h3, h4, h _ q⟩
theorem tells_repT {K : PySem.W.Frag} : Tells2 K (rRepTN K) oRepT := fun B M ρ σ H w1 w2 x y Q P S r1 r2 hh q => by
  obtain ⟨ds, k, rfl, rfl, h1, h2, h3, h4, hp⟩ := hh.el
  obtain ⟨a, vs, rfl, ht, rr⟩ := r1
  have hl := RepL.length rr
  refine ⟨a, k, vs, rfl, r2, TpN.sq ht, fun z => h1 (by rw [z] at hl; exact List.length_eq_zero_iff.mp hl.symm), h2, h3, by rw [hl]; exact h4, fun e => ?_, fun e o p hod hp' => ?_⟩
  · subst e
    have e1 : (List.replicate (1 : Int).toNat ds).flatten = ds := by simp
    rw [e1] at hp
    exact q _ _ H hp (Same.refl _) ⟨a, vs, rfl, ht, rr⟩
  · have sm := same_upd (o := .frz o (.tup (List.replicate k.toNat vs).flatten)) hp'
    exact q _ _ _ hp sm ⟨p, _, rfl, .inl ⟨o, hod, upd_same⟩, RepL.keep (Keep.of sm) _ (RepL.flat rr _)⟩
theorem de_repT {ra rb : RE} (ha : DE X B M a ra) (hb : DE X B M b rb) : DE X B M (.BinOp a .Mult b pos) (r2 ra rb oRepT) := de_op op_repTN tells_repT mo_oRepT ha hb
/-! ### a, b = a tuple or a list -/
def kPU (Q : D → D → Prop) : D → Prop := fun d => match d with
  | .tup [x, y] => Q x y
  | .lst [x, y] => Q x y
  | _ => False
theorem kPU.el {Q : D → D → Prop} {d : D} (h : kPU Q d) : ∃ x y, (d = .tup [x, y] ∨ d = .lst [x, y]) ∧ Q x y := by
  unfold kPU at h
  split at h
  · exact ⟨_, _, .inl rfl, h⟩
  · exact ⟨_, _, .inr rfl, h⟩
  · exact h.elim
def rTupAsgU (i j : Nat) (r : RE) : RS := fun e ρ => r ρ (kD fun d ρ1 => kPU (fun x y => e.nx ((ρ1.set i (.v x)).set j (.v y))) d)
theorem pg_or {tg : Expr} {w w' : TG} (h : PG X tg w) (h' : PG X tg w') : PG X tg (fun v σ H Q => w v σ H Q ∨ w' v σ H Q) := ⟨fun pins s σ H v u Q I r q => q.elim (fun q => h.run pins s σ H v u Q I r q) (fun q => h'.run pins s σ H v u Q I r q)⟩
theorem ds_tup2U {i j : Nat} {x y : Str} {r : RE} {px py pt : Pos} {kt} (hN : X.N.Nodup) (he : DE X B M e r) (hc : X.calm = true := by rfl) (hi : X.N[i]? = some x := by rfl) (hj : X.N[j]? = some y := by rfl) (hx : Loc X.env.scope x := by first | exact Or.inl rfl | exact Or.inr rfl) (hy : Loc X.env.scope y := by first | exact Or.inl rfl | exact Or.inr rfl)
    (hn : (assignEach [.Name x px, .Name y py] X.env).length = 2 := by rfl) (hst : (assignEach [.Name x px, .Name y py] X.env).findIdx? (·.1) = none := by rfl)
    (hs1 : (assignEach [.Name x px, .Name y py] X.env).map (·.2) = assign (.Name x px) X.env :: (assignEach [.Name y py] X.env).map (·.2) := by rfl) (hs2 : (assignEach [.Name y py] X.env).map (·.2) = assign (.Name y py) X.env :: (assignEach [] X.env).map (·.2) := by rfl)
    (hs : swapsWithSole [.Tuple [.Name x px, .Name y py] kt pt] e pos.line X.env = pure false := by rfl) (hw : swappedStores [.Tuple [.Name x px, .Name y py] kt pt] e X.env = pure none := by rfl)
    (h1 : (assignEach [.Tuple [.Name x px, .Name y py] kt pt] X.env).map (·.2) = [assign (.Tuple [.Name x px, .Name y py] kt pt) X.env] := by rfl)
    (hfx : X.fn x = true ∨ X.env.scope.names.lookup x = some .local := by first | exact .inl rfl | exact .inr rfl | assumption) (hfy : X.fn y = true ∨ X.env.scope.names.lookup y = some .local := by first | exact .inl rfl | exact .inr rfl | assumption) :
    DS X B M (.Assign [.Tuple [.Name x px, .Name y py] kt pt] e pos) (rTupAsgU i j r) :=
  have gs := pgs_cons (pg_name (pos := px) hN hi hx hfx) (pgs_cons (pg_name (pos := py) hN hj hy hfy) pgs_nil hs2) hs1
  DS.mk' (ps_asg he.pe (pg_or (pg_tup (pos := pt) (k := kt) hc gs hn hst) (pg_unl (pos := pt) (k := kt) hc gs hn hst)) hs hw h1) fun D σ H ρ en S q ok => into he S q fun w ρ1 v H1 hh k1 o1 S1 r1 => by
    obtain ⟨d, e0, hh⟩ := hh.el
    obtain ⟨x, y, e1, q1⟩ := hh.el
    subst e0
    rcases e1 with e1 | e1
    · subst e1
      obtain ⟨a, vs, ev, hs, v1, vr, rfl, r1, v2, vr2, rfl, r2, r3⟩ := r1
      obtain rfl : vr2 = [] := r3
      exact .inl ⟨a, _, ev, TpN.sq hs, rfl, v1, _, rfl, v2, _, rfl, rfl, ok.nx _ _ H1 k1 ((S1.put r1).put r2) q1⟩
    · subst e1
      obtain ⟨a, vs, ev, hs, v1, vr, rfl, r1, v2, vr2, rfl, r2, r3⟩ := r1
      obtain rfl : vr2 = [] := r3
      exact .inr ⟨a, _, ev, FzL.sq hs, rfl, v1, _, rfl, v2, _, rfl, rfl, ok.nx _ _ H1 k1 ((S1.put r1).put r2) q1⟩
end
end N
/-! NZ -/
set_option Elab.async false
set_option linter.all false
set_option maxRecDepth 100000
set_option maxHeartbeats 4000000
/-! NZ: an own exception class over an own base of ValueError, whose __init__ says super().__init__(text); self.f = f. -/
namespace N
open PySem PySem.Spec PySem.W PySem.Calls PyProof.Rows
section
variable {prog : Program} {w : World} {A : Around} {E : Value → Shared → Prop} {h : Heap} {g : Array GenState} {d : Drawn} {t : Nat} {os : OsState}
/-- the built-in __init__ bound to the new object, called -/
theorem call_mw {u e t0 C : Addr} {nm q : Str} {Nm : Addr} {bs bm : List Value} {hdct : Bool} {sn : List Str} {sub : List Value} {ab : Bool} {col : Option Bool} {dd : Option Addr} {k0 k1 k2 k3 k5 : Option Value} {rest : List Value} {Q : Value → Shared → Prop}
    (hC : h.get? C = some (excClassObj nm q C Nm bs bm hdct sn sub ab col dd k0 k1 k2 k3 k5 "ValueError.__new__")) (he : h.get? e = some (HandSPX.excO C t0)) (hu : h.get? u = some (kxs_mw "ValueError.__init__" e)) (hrest : rest.length ≤ sizeLine)
    (hq : ∀ h' t1, (∀ b o, b ≠ e → h.get? b = some o → h'.get? b = some o) → h'.get? e = some (HandSPX.excO C t1) → Q .none ⟨h', g, d, t, os⟩) :
    wpAny (model prog w) A (call (.ref u) rest) Q E ⟨h, g, d, t, os⟩ := by
  refine wpAny_call (codeAny_of_tree ?_)
  show wpAny _ A.in1 (callAny (.ref u) ⟨rest, []⟩) _ _ _
  simp only [callAny]
  refine wpAny_bind (wpAny_load hu ?_)
  simp only [kxs_mw, show (Value.type "method-wrapper" == Value.type "method" || Value.type "method-wrapper" == Value.type "builtin_function_or_method" || Value.type "method-wrapper" == Value.type "method-wrapper") = true by decide, if_true]
  refine W.KFB.if_so (by decide) ?_
  refine wpAny_bind (ESX.check_bound F.excBase_ValueError hC he rfl ?_)
  refine wpAny_bind (wpAny_pure (wpAny_pure ?_))
  refine ⟨Code.quiet_builtin _ (by decide +kernel), codeAny_builtin F.excBase_ValueError.initEntry ?_⟩
  rw [Around.under_plainId F.excBase_ValueError.init.plain _]
  wp_walk
  refine hq _ h.objs.size (fun b o hb ho => ?_) ?_
  · rw [Heap.get?_update_other _ _ (Ne.symm hb)]
    exact Heap.get?_push_of_some _ ho
  · rw [Heap.get?_update_self _ (Heap.get?_push_of_some _ he) rfl]
    rfl
abbrev iniB (f txt : Str) (j : Nat) (q0 q1 q2 q3 q4 q5 q6 q7 q8 q9 : Pos) : List Stmt :=
  [.Expr (.Call (.Attribute (.Call (.Name "super" q0) [] [] q1) "__init__" q2) [.Constant (.str txt) j q3] [] q4) q5, .Assign [.Attribute (.Name "self" q6) f q7] (.Name f q8) q9]
theorem ini_run {K : Frag} {R : Result → Shared → Prop} {f txt file : Str} {j : Nat} {q0 q1 q2 q3 q4 q5 q6 q7 q8 q9 : Pos} {fI C cc cda a t0 : Addr} {u : Value} {fd : FuncData} {mg mb : Str → Option Value} {a0 a1 : Arg} {of oc ocl : Obj} {vs : Array Value} {tf : Tok} {cd : ClassData}
    {nm q : Str} {Nm : Addr} {bs bm : List Value} {sn : List Str} {sub : List Value} {ab : Bool} {col : Option Bool} {dd : Option Addr} {k0 k1 k2 k3 k5 : Option Value}
    (hroom : A.depth < recursionLimit) (X : K.In h) (G : h.Ns mainGlobals mg) (Bn : h.Ns builtinsNs mb) (NL : h.NoLimit)
    (hf : K.lookup fI = some of) (hfd : of.data = .func fd) (hbody : fd.body = .stmts (iniB f txt j q0 q1 q2 q3 q4 q5 q6 q7 q8 q9)) (hpar : fd.params.posonlyargs ++ fd.params.args = [a0, a1]) (ha0 : a0.arg = "self")
    (hbind : ∀ x y s, BindsTo s fd ⟨[x, y], []⟩ [(("self" : Str), x), (f, y)]) (hgl : fd.globals = mainGlobals) (hbl : fd.builtins = builtinsNs) (hcl : fd.closure = [(("__class__" : Str), cc)]) (hcode : fd.code = .ref cda) (hcr : codeIn K fd.code fd.qualname = true)
    (hoc : K.lookup cda = some oc) (hvs : oc.data = .fields vs) (hv2 : vs[2]? = some (.str file tf)) (hfile : (prog.main.file == file) = true) (htop : (prog.main.scope.names.lookup ("super" : Str)).isSome = false)
    (hcc : K.lookup cc = some ocl) (hccd : ocl.data = .cell (some (.ref C)))
    (hnc : ∀ x ∈ fd.scope.names, x.2 ≠ .cell) (hks : fd.scope.names.lookup ("super" : Str) = some .globalImplicit) (hkc : fd.scope.names.lookup ("__class__" : Str) = some .free) (hka : fd.scope.names.lookup ("self" : Str) = some .local) (hkf : fd.scope.names.lookup f = some .local)
    (hco : fd.scope.isCoroutine = false) (hgen : fd.scope.isGenerator = false) (hk : fd.scope.kind = .function) (hfs : f ≠ "self") (hfdb : (f == ("__debug__" : Str)) = false)
    (hmg : mg "super" = none) (hmb : mb "super" = some (.type "super"))
    (hCK : K.lookup C = some (excClassObj nm q C Nm bs bm true sn sub ab col dd k0 k1 k2 k3 k5 "ValueError.__new__")) (hbm : HandSPX.refsVE bm = true) (hsub : mroIn K C (.ref C) = some true) (hop : nsIn K cStatics "thirdparty.any" = some none)
    (hsup : ks_superIn K C C "__init__" = some (some (.builtin "ValueError.__init__"))) (hVE : subIn K (.ref C) (.type "ValueError") = some true) (hsa : findIn K (.ref C) "__setattr__" = some (some (.builtin "object.__setattr__"))) (hno : findIn K (.ref C) f = some none)
    {pl : Env → Sem Bool} (hme : ∀ L, eval (.Call (.Attribute (.Call (.Name "super" q0) [] [] q1) "__init__" q2) [.Constant (.str txt) j q3] [] q4) (callEnv fd L fI) = (do
      let ov ← attributeBase (.Call (.Name "super" q0) [] [] q1) "__init__" (callEnv fd L fI) (eval (.Call (.Name "super" q0) [] [] q1) (callEnv fd L fI))
      standAt q2.atName
      let (g, first) ← holding [ov] (getMethod ov "__init__" (pl (callEnv fd L fI)))
      callWith q4 g first (backTo q4 (starEach [.Constant (.str txt) j q3] (callEnv fd L fI))) []))
    (hin : ∀ L, interactive (callEnv fd L fI) = false) (hs1 : ∀ L, swapsWith (.Call (.Attribute (.Call (.Name "super" q0) [] [] q1) "__init__" q2) [.Constant (.str txt) j q3] [] q4) none q5.line (callEnv fd L fI) = pure false)
    (hs2 : ∀ L, swapsWith (.Name f q8) (some (.Attribute (.Name "self" q6) f q7)) q9.line (callEnv fd L fI) = pure false)
    (hst : ∀ L, starEach [.Constant (.str txt) j q3] (callEnv fd L fI) = [(false, eval (.Constant (.str txt) j q3) (callEnv fd L fI))])
    (ha : h.get? a = some (HandSPX.excO C t0)) (haC : a ≠ C) (hKa : K.lookup a = none)
    (hq : ∀ h' t' dx t1, (∀ b o, b ≠ a → h.get? b = some o → h'.get? b = some o) → h.objs.size ≤ dx → dx ≠ a → h'.get? a = some ({ cls := .ref C, dict := some dx, data := .fields #[.ref t1, .none, .none, .none, .bool false, .none] } : Obj) →
      h'.Ns1 dx (fun y => if y = f then some u else none) → R (.ok (.ret .none)) ⟨h', g, d, t', os⟩) :
    codeAny (model prog w) A (.call (.ref fI) ⟨[.ref a, u], []⟩) R ⟨h, g, d, t, os⟩ := by
  refine ks_codeAny_call_defAt (fd := fd) (body := iniB f txt j q0 q1 q2 q3 q4 q5 q6 q7 q8 q9) (binds := [(("self" : Str), .ref a), (f, u)]) hroom (X _ _ hf) hfd NL (codeRec_of X hcr) hbody (hbind _ _ _) hnc (fun x hx => ?_) (fun h0 hns k1 => ?_) hco hgen hk
  · simp only [List.mem_cons, List.not_mem_nil, or_false] at hx
    rcases hx with rfl | rfl
    · exact hka
    · exact hkf
  have kind : ∀ x k, fd.scope.names.lookup x = some k → (callEnv fd h.objs.size fI).kindOf x = some k := fun x k e => e
  have X1 : K.In h0 := X.keeps k1
  have hself : (fun x : Str => List.lookup x ([(("self" : Str), Value.ref a), (f, u)] : List (Str × Value)).reverse) "self" = some (.ref a) := by
    show (match ("self" : Str) == f with | true => some u | false => List.lookup ("self" : Str) [(("self" : Str), Value.ref a)]) = _
    rw [show (("self" : Str) == f) = false from by simpa using fun e => hfs e.symm]
    rfl
  have hfv : (fun x : Str => List.lookup x ([(("self" : Str), Value.ref a), (f, u)] : List (Str × Value)).reverse) f = some u := by
    show (match f == f with | true => some u | false => List.lookup f [(("self" : Str), Value.ref a)]) = _
    rw [beq_self_eq_true]
  have hD1 := X1 _ _ hCK
  have hcd : clsIn K C = some { name := nm, bases := bs, mro := .ref C :: bm, ns := Nm, qualname := q, hasDict := true, slotNames := sn, subclasses := sub, abstract := ab, collection := col, hasDel := false } := by unfold clsIn; rw [hCK] <;> rfl
  refine ks_wpAt_execs_cons (ks_wpAt_Expr_any (ks_wpAt_MethodCall (pl := pl _) ?_ (hme _)) (hin _) (hs1 _))
  refine ks_wpAt_super_base (of := of) (oc := oc) (kind _ _ hks) (kind _ _ hkc) (by decide) rfl (X1 _ _ hf) hfd (ar := a0) (by rw [hpar]; rfl) (by show fd.code = _; exact hcode) (X1 _ _ hoc) hvs hv2 hfile htop ?_
  refine ks_loadName_global hk (kind _ _ hks) (loadGlobal_builtin (by show h0.Ns fd.globals mg; rw [hgl]; exact G.keeps k1) hmg (by show h0.Ns fd.builtins mb; rw [hbl]; exact Bn.keeps k1) hmb ⟨rfl, ?_⟩)
  refine wpAny_loadName_free hk (kind _ _ hkc) (by show List.lookup _ fd.closure = some cc; rw [hcl]; rfl) ⟨_, X1 _ _ hcc, hccd⟩ ?_
  rw [ha0]
  refine wpAny_loadName_local hk (kind _ _ hka) hns hself ?_
  refine ks_wpAny_isType_cls hD1 rfl ⟨rfl, ?_⟩
  refine ks_wpAny_call_super hD1 rfl (k1 _ _ ha) rfl (fun c e => by cases e) (looks_mroIn X1 hsub) (fun h1 hso k2 => ?_)
  have X2 : K.In h1 := X1.keeps k2
  have ha2 := k2 _ _ (k1 _ _ ha)
  have I2 : InstAt h1 a (HandSPX.excO C t0) C none := ⟨ha2, rfl, rfl, trivial⟩
  have hal : alongIn K "__init__" (((Value.ref C :: bm).dropWhile (· != .ref C)).drop 1) = some (some (.builtin "ValueError.__init__")) := by
    have e := hsup
    unfold ks_superIn at e
    rw [hcd] at e
    exact e
  refine kxs_getMethod kxs_ValueError hso (looks_opaque X2 hop) (l₀ := .ref C :: bm) (fun A Q E s k q => wpAny_bind ((looks_clsIn X2 hcd) A _ E s k (wpAny_pure q))) rfl X2 hal (I2.type.andThen (looks_subIn X2 hVE)) haC (by decide) ?_
  dsimp only
  rw [hst]
  have hmw : (h1.push (kxs_mw "ValueError.__init__" a)).get? h1.objs.size = some (kxs_mw "ValueError.__init__" a) := Heap.get?_push_at rfl rfl
  have k3' : ∀ b o, h1.get? b = some o → (h1.push (kxs_mw "ValueError.__init__" a)).get? b = some o := fun b o e => Heap.get?_push_of_some _ e
  have X3 : K.In (h1.push (kxs_mw "ValueError.__init__" a)) := X2.keeps k3'
  refine kxs_callWith (i := "ValueError.__init__") (x := a) rfl (evalArgs_plain (spliced_cons (Constant_str (k := j) (pos := q3) (spliced_nil ⟨hmw, ?_⟩))))
  refine call_mw (X3 _ _ hCK) (k3' _ _ ha2) hmw (by rw [sizeLine_eq]; show 1 ≤ 16777216; decide) fun h3 t1 k3 ha3 => ?_
  dsimp only
  have kk : ∀ b o, b ≠ a → h0.get? b = some o → h3.get? b = some o := fun b o hb e => k3 b o hb (k3' _ _ (k2 _ _ e))
  have hL : h.objs.size ≠ a := Ne.symm (Nat.ne_of_lt (Heap.lt_size ha))
  have hns3 : h3.Ns h.objs.size (fun x : Str => List.lookup x ([(("self" : Str), Value.ref a), (f, u)] : List (Str × Value)).reverse) := by
    obtain ⟨o, es, ep, e1, r⟩ := hns
    exact ⟨o, es, ep, kk _ _ hL e1, r⟩
  have X4 : K.In h3 := fun b o e => kk b o (fun z => by rw [z, hKa] at e; cases e) (X1 _ _ e)
  refine ks_wpAt_execs_cons (ks_wpAt_Assign_Attr (wpAt_of_wpAny (wpAny_Name (wpAny_loadName_local hk (kind _ _ hkf) hns3 hfv ?_) hfdb)) (hs2 _))
  refine wpAny_Name (wpAny_loadName_local hk (kind _ _ hka) hns3 hself ?_)
  refine set_plain X4 (ox := HandSPX.excO C t1) (od := none) ⟨ha3, rfl, rfl, trivial⟩ hsa ?_
  refine HandSPX.exc_osa X4 ha3 hcd (show HandSPX.refsVE (.ref C :: bm) = true from hbm) rfl hno (fun h' tk' dx k4 dn dne hx hn => ?_)
  have sz : h.objs.size ≤ h3.objs.size := by
    have hLh : ∃ o, h3.get? h.objs.size = some o := by
      obtain ⟨o, es, ep, e1, r⟩ := hns3
      exact ⟨o, e1⟩
    obtain ⟨o, e1⟩ := hLh
    exact Nat.le_of_lt (Heap.lt_size e1)
  have fin := hq h' tk' dx t1 (fun b o hb e => k4 b o hb (kk b o hb (k1 b o e))) (Nat.le_trans sz dn) dne hx hn
  dsimp only
  exact wpAt_of_wpAny (wpAny_pure fin)
end
/-- the own __init__ of the class at C, at fI: it sets the field f to what it is handed -/
def IniOk (P : Program) (w : World) (K : Frag) (mg : Str → Option Value) (base : Heap) (C fI : Addr) (f : Str) : Prop := L2.Mod K mg base → ∀ (A : Around) (R : Result → Shared → Prop) (h : Heap) (g : Array GenState) (d : Drawn) (t : Nat) (os : OsState) (a t0 : Addr) (u : Value), A.depth < recursionLimit →
  (∀ b o, base.get? b = some o → h.get? b = some o) → h.get? a = some (HandSPX.excO C t0) → base.get? a = none →
  (∀ h' t' dx t1, (∀ b o, b ≠ a → h.get? b = some o → h'.get? b = some o) → h.objs.size ≤ dx → dx ≠ a → h'.get? a = some ({ cls := .ref C, dict := some dx, data := .fields #[.ref t1, .none, .none, .none, .bool false, .none] } : Obj) →
    h'.Ns1 dx (fun y => if y = f then some u else none) → R (.ok (.ret .none)) ⟨h', g, d, t', os⟩) →
  codeAny (model P w) A (.call (.ref fI) ⟨[.ref a, u], []⟩) R ⟨h, g, d, t, os⟩
open L2 in
theorem pmk_ini {X : Cx} {x f : Str} {e : Expr} {te : TE} {C fI : Addr} {k : Nat} {p pos : Pos} (T : OexC X.K C) (FI : IniOk X.prog X.w X.K X.mg X.base C fI f) (iC : findIn X.K (.ref C) "__init__" = some (some (.ref fI))) (tI : typeIn X.K (.ref fI) = some (.type "function"))
    (hr : Room (k + 1) X.A) (hg : Gl X x) (hm : X.mg x = some (.ref C)) (he : PE X e te) (hdb : (x == ("__debug__" : Str)) = false := by decide) (hse : starEach [e] X.env = (false, eval e X.env) :: starEach [] X.env := by rfl) (hpl : (backTo pos (starEach [] X.env)).any (·.1) = false := by rfl) :
    L2N.PMk X (.Call (.Name x p) [e] [] pos) (fun σ H Q => te σ H fun y H1 => ∀ d, H1 d = none → Q (.ref C) (some d) (upd H1 d (.xd [(f, y)]))) := by
  intro pins s σ H Q I h
  obtain ⟨nm, q, N, bs, bm, sn, sub, ab, col, dd, k0, k1, k2, k3, k5, hC, hbm⟩ := T.cls
  have ha : PA X [e] (tCons te tNil) := pa_cons he pa_nil hse
  refine wpAny_Call_Name_kw (ld_glob I hg hm ?_ hdb)
  refine PySem.W.callWith_K (h₀ := X.base) I.ok.mod.kin T.kC (thn (ha.run pos pins s σ H (fun vs H1 => match vs with
    | [y] => ∀ d, H1 d = none → Q (.ref C) (some d) (upd H1 d (.xd [(f, y)]))
    | _ => False) I h) fun us s1 ⟨vs, H1, I1, r1, q1⟩ => ⟨I1.kIn, ?_⟩) hse hpl
  show wpAny _ _ (call (.ref C) us) _ _ _
  obtain ⟨y, ev, q2⟩ : ∃ y, vs = [y] ∧ ∀ d, H1 d = none → Q (.ref C) (some d) (upd H1 d (.xd [(f, y)])) := by
    match vs, q1 with
    | [y], q1 => exact ⟨y, rfl, q1⟩
  subst ev
  clear q1
  obtain ⟨u, eu, ru⟩ : ∃ u, us = [u] ∧ RelV y u := by
    cases r1 with
    | cons ru rn =>
      cases rn
      exact ⟨_, rfl, ru⟩
  subst eu
  obtain ⟨hp, g, dr, tk, os⟩ := s1
  have hn : H1 (hp.objs.size + 1) = none := I1.hok.fresh (Nat.le_succ _)
  have kk : ∀ b o, hp.get? b = some o → ((hp.push (PySem.W.kdv_tup [u])).push (PySem.HandSPX.excO C hp.objs.size)).get? b = some o := fun b o e => Heap.get?_push_of_some _ (Heap.get?_push_of_some _ e)
  have hget : ((hp.push (PySem.W.kdv_tup [u])).push (PySem.HandSPX.excO C hp.objs.size)).get? (hp.objs.size + 1) = some (PySem.HandSPX.excO C hp.objs.size) := by heap_get
  have hnone : ∀ {b : Addr} {o : Obj}, hp.get? b = some o → b ≠ hp.objs.size + 1 := fun {b o} z => Nat.ne_of_lt (Nat.lt_succ_of_lt (Heap.lt_size z))
  have hbase : X.base.get? (hp.objs.size + 1) = none := by
    cases z : X.base.get? (hp.objs.size + 1) with
    | none => rfl
    | some o => exact absurd rfl (hnone (I1.bk _ _ z))
  refine wpAny_call (PySem.HandSPX.call_own F.excBase_ValueError (fun Y => PySem.HandSPX.refsVE_contains Y bm hbm) (I1.kIn _ _ hC) (PySem.W.looks_findIn I1.kIn iC) (fun self => PySem.W.bind_fn I1.kIn self tI) (by rw [sizeLine_eq]; show 1 ≤ 16777216; decide) ?_)
  refine FI I1.mod _ _ _ g dr tk os (hp.objs.size + 1) hp.objs.size u (Nat.lt_of_le_of_lt (Nat.le_trans (Nat.le_add_right _ _) (Nat.le_add_right _ _)) (hr.make C [u] []).dp) (fun b o z => kk b o (I1.bk b o z)) hget hbase fun h2 t2 dx t1 k4 dn dne hx hns => ?_
  have kh : ∀ b o, hp.get? b = some o → h2.get? b = some o := fun b o z => k4 b o (hnone z) (kk b o z)
  obtain ⟨G, g1', g2'⟩ := restrict h2 fun b => decide (b ≠ hp.objs.size + 1)
  have gk : ∀ b, b ≠ hp.objs.size + 1 → G.get? b = h2.get? b := fun b hb => g1' b (decide_eq_true hb)
  have ge : G.get? (hp.objs.size + 1) = none := g2' _ (by simp)
  have hszd : hp.objs.size ≤ dx := by
    exact Nat.le_trans (Nat.le_of_lt (Nat.lt_of_succ_lt (Heap.lt_size hget))) dn
  have nd : H1 dx = none := I1.hok.fresh hszd
  have okd : ObjOk X.prog X.w H1 G dx (.xd [(f, y)]) := by
    refine ⟨fun z => if z = f then some u else none, hns.at fun o z => (gk _ dne).trans z, fun g' => ?_⟩
    rw [lookup_put]
    show RelO (if g' = f then some y else List.lookup g' []) (if g' = f then some u else none)
    by_cases e : g' = f
    · rw [if_pos e, if_pos e]
      exact ru
    · rw [if_neg e, if_neg e]
      trivial
  have J : Inv X pins σ (upd H1 dx (.xd [(f, y)])) ⟨G, g, dr, t2, os⟩ := I1.laid (t' := t2) (a := dx) (o := .xd [(f, y)]) (h' := G) (fun b o z => (gk b (hnone z)).trans (kh b o z)) hszd okd
  refine ⟨rfl, hp.objs.size + 1, _, _, ⟨G, g, dr, t2, os⟩, _, .ref C, some dx, rfl, J, fun b o z => ?_, ge, hx, ⟨rfl, rfl, fun vs hv => by cases hv; rfl⟩, rfl, rfl, ?_, rfl, I1.bare, raises_own T.exC T.tyC, q2 dx nd⟩
  · by_cases hba : b = hp.objs.size + 1
    · rw [hba, ge] at z
      cases z
    · exact (gk b hba).symm.trans z
  · rw [upd_ne (Ne.symm dne)]
    exact hn
/-! ### the clause that has caught it -/
open L2 in
theorem call_isEd {X : Cx} {a D dd : Addr} {oe : Obj} {pn : List (Addr × Obj)} (C : ExcC X.K D) (hz : Zc (.ref D) (some dd) oe) (hf : ∃ vs, oe.data = .fields vs) : CallR (X.suite a ((a, oe) :: pn)) (.builtin "isinstance") (fun xs H Q => (∃ fs, H dd = some (.xd fs)) ∧ rIsE X.K D a xs H Q) := by
  intro pins s σ H xs us Q I r ⟨⟨fs, hdd⟩, c, cv, b, hxs, hcv, e, q⟩
  subst hxs
  cases r with
  | cons rx rr =>
    cases rr with
    | cons rt rr =>
      cases rr
      cases rx
      have ec := hcv _ rt
      subst ec
      obtain ⟨hget, _⟩ := I.pin (a, oe) (List.mem_append.mpr (.inl List.mem_cons_self))
      obtain ⟨vs, hv⟩ := hf
      have hx : ObjOk X.prog X.w H s.heap dd (.xd fs) := I.hok dd _ hdd
      obtain ⟨mA, hns, _⟩ := hx
      obtain ⟨od, ho, _⟩ := lookIn_ns hns
      have J : InstAt s.heap a oe D (some od) := ⟨hget, hz.1, by unfold notCls; rw [hv] <;> rfl, by rw [hz.2]; exact ho⟩
      obtain ⟨cd, hcd, _⟩ := any_some C.hd
      exact kia_one (kitx_exc (by rw [hcd]; rfl) C.hg C.hk C.hs C.ha C.hn C.ht C.hm) I.kIn J e (fun z => nomatch z) fun tk => ⟨.bl b, H, I.kept (t' := tk) fun _ _ z => z, rfl, q⟩
end N
namespace N
open PySem PySem.Spec PyProof.Rows L2
section
variable {X : Cx} {B : Hp} {M : List Addr} {e a b c : Expr} {es : List Expr} {pos : Pos}
theorem de_isEd {C a dd : Addr} {fs : List (Str × V)} {oe : Obj} {pn : List (Addr × Obj)} {e : Expr} {es : List Expr} {pos p : Pos} {ra : RA} (hC : ExcC X.K C) (hz : L2N.Zn (.ref C) (some dd) oe) (hf : ∃ vs, oe.data = .fields vs) (hB : B dd = some (.xd fs)) (hm : X.mg "isinstance" = none) (ha : DA (X.suite a ((a, oe) :: pn)) B [] (e :: es) ra)
    (hg : Gl (X.suite a ((a, oe) :: pn)) "isinstance" := by rfl) (he : starEach (e :: es) X.env = (false, eval e X.env) :: starEach es X.env := by rfl) (hpl : (backTo pos (starEach es X.env)).any (·.1) = false := by rfl) :
    DE (X.suite a ((a, oe) :: pn)) B [] (.Call (.Name "isinstance" p) (e :: es) [] pos) (rA ra (oIsE X.K C a)) := by
  refine DE.mk' (pe_callB (call_isEd hC hz.zc hf) hg hm (by decide +kernel) ha.pa (by decide) (by decide) he hpl) (fun ρ P P' w q => ha.mo ρ _ _ (fun ws ρ1 ⟨c, b, e1, k, p⟩ => ⟨c, b, e1, k, w _ _ p⟩) q) fun σ H Q ρ S q => ?_
  refine intoA ha S q fun ws ρ1 vs H1 ⟨c, b, e1, k, pp⟩ k1 o1 S1 r1 => ?_
  subst e1
  obtain ⟨v, vr, rfl, r1, v2, vr2, rfl, r2, r3⟩ := r1
  obtain rfl : vr2 = [] := r3
  obtain rfl : v = V.ref a := r1
  obtain rfl : v2 = V.ref c := r2
  exact ⟨⟨fs, S1.frm dd _ hB (.inr (by simp))⟩, .ref c, .ref c, b, rfl, fun u hu => hu, k, pp _ H1 k1 o1 S1 rfl⟩
theorem de_isTd {C a dd : Addr} {fs : List (Str × V)} {oe : Obj} {pn : List (Addr × Obj)} {e : Expr} {es : List Expr} {pos p : Pos} {ra : RA} (hC : ExcC X.K C) (hz : L2N.Zn (.ref C) (some dd) oe) (hf : ∃ vs, oe.data = .fields vs) (hB : B dd = some (.xd fs)) (hm : X.mg "isinstance" = none) (ha : DA (X.suite a ((a, oe) :: pn)) B [] (e :: es) ra)
    (hg : Gl (X.suite a ((a, oe) :: pn)) "isinstance" := by rfl) (he : starEach (e :: es) X.env = (false, eval e X.env) :: starEach es X.env := by rfl) (hpl : (backTo pos (starEach es X.env)).any (·.1) = false := by rfl) :
    DE (X.suite a ((a, oe) :: pn)) B [] (.Call (.Name "isinstance" p) (e :: es) [] pos) (rA ra (oIsT X.K C a)) := by
  refine DE.mk' (pe_callB (call_isEd hC hz.zc hf) hg hm (by decide +kernel) ha.pa (by decide) (by decide) he hpl) (fun ρ P P' w q => ha.mo ρ _ _ (fun ws ρ1 ⟨c, b, e1, k, p⟩ => ⟨c, b, e1, k, w _ _ p⟩) q) fun σ H Q ρ S q => ?_
  refine intoA ha S q fun ws ρ1 vs H1 ⟨n, b, e1, k, pp⟩ k1 o1 S1 r1 => ?_
  subst e1
  obtain ⟨v, vr, rfl, r1, v2, vr2, rfl, r2, r3⟩ := r1
  obtain rfl : vr2 = [] := r3
  obtain rfl : v = V.ref a := r1
  obtain rfl : v2 = V.ty n := r2
  exact ⟨⟨fs, S1.frm dd _ hB (.inr (by simp))⟩, .ty n, .type n, b, rfl, fun u hu => hu, k, pp _ H1 k1 o1 S1 rfl⟩
/-- e.f, e the caught exception -/
def rXf (re : RE) (a : Addr) (d : D) : RE := fun ρ Q => re ρ fun w ρ1 => w = .d (.obj a) ∧ Q (.d d) ρ1
theorem de_xf {C a dd : Addr} {f : Str} {v : V} {d : D} {oe : Obj} {pn : List (Addr × Obj)} {e : Expr} {re : RE} (T : XfC X.K C) (hno : PySem.W.findIn X.K (.ref C) f = some none) (hz : L2N.Zn (.ref C) (some dd) oe) (hf : ∃ vs, oe.data = .fields vs) (hB : B dd = some (.xd [(f, v)])) (hd : Rep X.K B d v)
    (he : DE (X.suite a ((a, oe) :: pn)) B [] e re) (hb : attributeBase e f X.env (eval e X.env) = eval e X.env := by rfl) :
    DE (X.suite a ((a, oe) :: pn)) B [] (.Attribute e f pos) (rXf re a d) := by
  refine DE.mk' (pe_xf T hno hz.zc hf he.pe hb) (fun ρ P P' w q => he.mo ρ _ _ (fun w1 ρ1 ⟨e1, p⟩ => ⟨e1, w _ _ p⟩) q) fun σ H Q ρ S q => ?_
  refine into he S q fun w1 ρ1 v1 H1 ⟨e1, pp⟩ k1 o1 S1 r1 => ?_
  subst e1
  obtain rfl : v1 = V.ref a := r1
  exact ⟨rfl, rfl, dd, [(f, v)], v, rfl, S1.frm dd _ hB (.inr (by simp)), by simp [List.lookup], pp _ H1 k1 o1 S1 (Rep.keep S1.frm.keep d hd)⟩
/-- raise X(e), X's own __init__ sets the field f -/
theorem ds_raiseF {x f : Str} {C fI : Addr} {k : Nat} {E : XK} {Xp : Exn → Prop} {p pos2 : Pos} {re : RE} (tk : L2N.Takes X (fun cls d _ H => E cls d H)) (hE : ∀ x cls dx H', Xp x → Frm M B H' → XRep X.K H' x cls dx → E cls dx H') (T : OexC X.K C) (F : IniOk X.prog X.w X.K X.mg X.base C fI f)
    (iC : PySem.W.findIn X.K (.ref C) "__init__" = some (some (.ref fI))) (tI : PySem.W.typeIn X.K (.ref fI) = some (.type "function")) (hr : Room (k + 1) X.A) (he : DE X B M e re) (gC : X.mg x = some (.ref C)) (hc : X.calm = true := by rfl) (hg : Gl X x := by rfl) (hdb : (x == ("__debug__" : Str)) = false := by decide)
    (hse : starEach [e] X.env = (false, eval e X.env) :: starEach [] X.env := by rfl) (hpl : (backTo pos2 (starEach [] X.env)).any (·.1) = false := by rfl) :
    DS X B M (.Raise (some (.Call (.Name x p) [e] [] pos2)) none pos) (fun _ ρ => re ρ (kD fun d _ => Xp ⟨C, some (f, d)⟩)) := by
  refine DS.mk' (L2N.ps_raise hc tk (pmk_ini T F iC tI hr hg gC he.pe hdb hse hpl)) fun D σ H ρ en S hx ok => ?_
  refine into he S hx fun w1 ρ1 v1 H1 hh k1 o1 S1 r1 => ?_
  obtain ⟨d, ew, pp⟩ := hh.el
  subst ew
  intro dx hdx
  have sm := same_upd (o := .xd [(f, v1)]) hdx
  exact hE _ _ _ _ pp (S1.same sm).frm ⟨rfl, dx, v1, rfl, upd_same, Rep.keep (Keep.of sm) d r1⟩
end
end N
/-! NO -/
set_option Elab.async false
set_option linter.all false
set_option maxRecDepth 100000
set_option maxHeartbeats 4000000
/-! NO: what the head tells of an own exception class whose __init__ sets a field. -/
namespace N
open PySem PySem.Spec PySem.W PySem.Calls PyProof.Rows L2
/-- the class at C stands over own classes and ValueError -/
def clsVE (K : Frag) (C : Addr) : Bool := match K.lookup C with
  | some ⟨.type "type", _, .cls cd, sl⟩ => (match cd.mro, sl.toList with
    | .ref C' :: bm, [_, _, _, _, some (.builtin n), _] => C' == C && (n == "ValueError.__new__" && (!cd.hasDel && (HandSPX.refsVE bm && cd.hasDict)))
    | _, _ => false)
  | _ => false
theorem clsVE_ok {K : Frag} {C : Addr} (q : clsVE K C = true) : ∃ nm q N bs bm sn sub ab col dd k0 k1 k2 k3 k5, K.lookup C = some (excClassObj nm q C N bs bm true sn sub ab col dd k0 k1 k2 k3 k5 "ValueError.__new__") ∧ HandSPX.refsVE bm = true := by
  unfold clsVE at q
  split at q
  · rename_i dd cd sl ho
    split at q
    · rename_i C' bm k0 k1 k2 k3 n k5 hm hs
      simp only [Bool.and_eq_true, beq_iff_eq, Bool.not_eq_true'] at q
      obtain ⟨rfl, rfl, hdel, hbm, hd⟩ := q
      obtain ⟨nm, bs, mro, ns, qn, hdct, sn, sub, ab, col, del⟩ := cd
      dsimp only at hm hdel hd
      subst hm hdel hd
      have hsl : sl = #[k0, k1, k2, k3, some (.builtin "ValueError.__new__"), k5] := by
        obtain ⟨l⟩ := sl
        simp only at hs
        rw [hs]
      subst hsl
      exact ⟨nm, qn, ns, bs, bm, sn, sub, ab, col, dd, k0, k1, k2, k3, k5, ho, hbm⟩
    · cases q
  · cases q
abbrev FnI : Type := Option (Arguments × FuncBody × Scope × Addr × Addr)
/-- the def at a -/
def fnI (K : Frag) (a : Addr) : FnI := match K.lookup a with
  | some ⟨_, _, .func fd, _⟩ => some (fd.params, fd.body, fd.scope, fd.globals, fd.builtins)
  | _ => none
def codeFile (K : Frag) (c : Addr) (file : Str) : Bool := match K.lookup c with
  | some ⟨_, _, .fields vs, _⟩ => (match (vs[2]? : Option Value) with
    | some (Value.str fl _) => fl == file
    | _ => false)
  | _ => false
def cellAt (K : Frag) (c C : Addr) : Bool := match K.lookup c with
  | some ⟨_, _, .cell (some (.ref C')), _⟩ => C' == C
  | _ => false
/-- the __init__ of the class at C closes over the class; its code is of this file -/
def iniCl (K : Frag) (C fI : Addr) (file : Str) : Bool := match K.lookup fI with
  | some ⟨_, _, .func fd, _⟩ => (match fd.closure, fd.code, fd.defaults with
    | [(x, cc)], .ref cda, .none => x == ("__class__" : Str) && (codeIn K fd.code fd.qualname && (cellAt K cc C && codeFile K cda file))
    | _, _, _ => false)
  | _ => false
/-- all that the class must say -/
def clsF (K : Frag) (C fI : Addr) (f file : Str) : Bool :=
  clsVE K C && (He.eqO (findIn K (.ref C) "__setattr__") (some (some (.builtin "object.__setattr__"))) && (decide (subIn K (.ref C) (.type "BaseException") = some true) && (decide (typeIn K (.ref C) = some (.type "type")) && (keepIn K (.ref C) &&
  (He.eqO (findIn K (.ref C) "__init__") (some (some (.ref fI))) && (decide (typeIn K (.ref fI) = some (.type "function")) && (decide (mroIn K C (.ref C) = some true) && (He.eqO (nsIn K cStatics "thirdparty.any") (some none) &&
  (He.eqO (ks_superIn K C C "__init__") (some (some (.builtin "ValueError.__init__"))) && (decide (subIn K (.ref C) (.type "ValueError") = some true) && (He.eqO (findIn K (.ref C) f) (some none) && iniCl K C fI file)))))))))))
structure ClsF (K : Frag) (C fI : Addr) (f file : Str) : Prop where
  oex : OexC K C
  ini : findIn K (.ref C) "__init__" = some (some (.ref fI))
  tyI : typeIn K (.ref fI) = some (.type "function")
  mro : mroIn K C (.ref C) = some true
  opq : nsIn K cStatics "thirdparty.any" = some none
  sup : ks_superIn K C C "__init__" = some (some (.builtin "ValueError.__init__"))
  ve : subIn K (.ref C) (.type "ValueError") = some true
  no : findIn K (.ref C) f = some none
  cl : iniCl K C fI file = true
theorem clsF_ok {K : Frag} {C fI : Addr} {f file : Str} (h : clsF K C fI f file = true) : ClsF K C fI f file := by
  unfold clsF at h
  obtain ⟨h1, h⟩ := He.ba h
  obtain ⟨h2, h⟩ := He.ba h
  obtain ⟨h3, h⟩ := He.ba h
  obtain ⟨h4, h⟩ := He.ba h
  obtain ⟨h5, h⟩ := He.ba h
  obtain ⟨h6, h⟩ := He.ba h
  obtain ⟨h7, h⟩ := He.ba h
  obtain ⟨h8, h⟩ := He.ba h
  obtain ⟨h9, h⟩ := He.ba h
  obtain ⟨h10, h⟩ := He.ba h
  obtain ⟨h11, h⟩ := He.ba h
  obtain ⟨h12, h13⟩ := He.ba h
  obtain ⟨nm, q, N, bs, bm, sn, sub, ab, col, dd, k0, k1, k2, k3, k5, hC, hb⟩ := clsVE_ok h1
  exact ⟨⟨⟨nm, q, N, bs, bm, sn, sub, ab, col, dd, k0, k1, k2, k3, k5, hC, hb⟩, He.eqO_ok h2, of_decide_eq_true h3, of_decide_eq_true h4, h5⟩, He.eqO_ok h6, of_decide_eq_true h7, of_decide_eq_true h8, He.eqO_ok h9, He.eqO_ok h10, of_decide_eq_true h11, He.eqO_ok h12, h13⟩
abbrev iniPl (q0 q1 : Pos) (env : Env) : Sem Bool := do return (← importBound (.Call (.Name "super" q0) [] [] q1) env).getD true
abbrev iniFd (fd : FuncData) (params : Arguments) (body : List Stmt) (scope : Scope) : FuncData := { fd with params := params, body := .stmts body, scope := scope, globals := mainGlobals, defaults := .none, builtins := builtinsNs }
theorem iniOk_of {P : Program} {w : World} {K : Frag} {mg : Str → Option Value} {base : Heap} {C fI : Addr} {f file txt : Str} {j : Nat} {q0 q1 q2 q3 q4 q5 q6 q7 q8 q9 : Pos} {params : Arguments} {scope : Scope} {a0 a1 : Arg}
    (c : ClsF K C fI f file) (e : fnI K fI = some (params, .stmts (iniB f txt j q0 q1 q2 q3 q4 q5 q6 q7 q8 q9), scope, mainGlobals, builtinsNs))
    (hfile : (P.main.file == file) = true) (htop : (P.main.scope.names.lookup ("super" : Str)).isSome = false) (hmg : mg "super" = none)
    (hpar : params.posonlyargs ++ params.args = [a0, a1] := by rfl) (ha0 : a0.arg = "self" := by rfl)
    (hbind : ∀ (fd : FuncData) (x y : Value), bindArgs (iniFd fd params (iniB f txt j q0 q1 q2 q3 q4 q5 q6 q7 q8 q9) scope) ⟨[x, y], []⟩ = pure [(("self" : Str), x), (f, y)] := by intros; rfl)
    (hnc : ∀ x ∈ scope.names, x.2 ≠ .cell := by decide) (hks : scope.names.lookup ("super" : Str) = some .globalImplicit := by rfl) (hkc : scope.names.lookup ("__class__" : Str) = some .free := by rfl) (hka : scope.names.lookup ("self" : Str) = some .local := by rfl) (hkf : scope.names.lookup f = some .local := by rfl)
    (hco : scope.isCoroutine = false := by rfl) (hgen : scope.isGenerator = false := by rfl) (hk : scope.kind = .function := by rfl) (hfs : f ≠ "self" := by decide) (hfdb : (f == ("__debug__" : Str)) = false := by decide)
    (hme : ∀ (fd : FuncData) L, eval (.Call (.Attribute (.Call (.Name "super" q0) [] [] q1) "__init__" q2) [.Constant (.str txt) j q3] [] q4) (callEnv (iniFd fd params (iniB f txt j q0 q1 q2 q3 q4 q5 q6 q7 q8 q9) scope) L fI) = (do
      let ov ← attributeBase (.Call (.Name "super" q0) [] [] q1) "__init__" (callEnv (iniFd fd params (iniB f txt j q0 q1 q2 q3 q4 q5 q6 q7 q8 q9) scope) L fI) (eval (.Call (.Name "super" q0) [] [] q1) (callEnv (iniFd fd params (iniB f txt j q0 q1 q2 q3 q4 q5 q6 q7 q8 q9) scope) L fI))
      standAt q2.atName
      let (g, first) ← holding [ov] (getMethod ov "__init__" (iniPl q0 q1 (callEnv (iniFd fd params (iniB f txt j q0 q1 q2 q3 q4 q5 q6 q7 q8 q9) scope) L fI)))
      callWith q4 g first (backTo q4 (starEach [.Constant (.str txt) j q3] (callEnv (iniFd fd params (iniB f txt j q0 q1 q2 q3 q4 q5 q6 q7 q8 q9) scope) L fI))) []) := by intros; rfl)
    (hin : ∀ (fd : FuncData) L, interactive (callEnv (iniFd fd params (iniB f txt j q0 q1 q2 q3 q4 q5 q6 q7 q8 q9) scope) L fI) = false := by intros; rfl)
    (hs1 : ∀ (fd : FuncData) L, swapsWith (.Call (.Attribute (.Call (.Name "super" q0) [] [] q1) "__init__" q2) [.Constant (.str txt) j q3] [] q4) none q5.line (callEnv (iniFd fd params (iniB f txt j q0 q1 q2 q3 q4 q5 q6 q7 q8 q9) scope) L fI) = pure false := by intros; rfl)
    (hs2 : ∀ (fd : FuncData) L, swapsWith (.Name f q8) (some (.Attribute (.Name "self" q6) f q7)) q9.line (callEnv (iniFd fd params (iniB f txt j q0 q1 q2 q3 q4 q5 q6 q7 q8 q9) scope) L fI) = pure false := by intros; rfl)
    (hst : ∀ (fd : FuncData) L, starEach [.Constant (.str txt) j q3] (callEnv (iniFd fd params (iniB f txt j q0 q1 q2 q3 q4 q5 q6 q7 q8 q9) scope) L fI) = [(false, eval (.Constant (.str txt) j q3) (callEnv (iniFd fd params (iniB f txt j q0 q1 q2 q3 q4 q5 q6 q7 q8 q9) scope) L fI))] := by intros; rfl) :
    IniOk P w K mg base C fI f := by
  intro M A R h g d t os a t0 u hroom hbk ha hba hq
  obtain ⟨⟨nm, q, N, bs, bm, sn, sub, ab, col, dd, k0, k1, k2, k3, k5, hC, hbm⟩, hsa, _, _, _⟩ := c.oex
  have X : K.In h := fun b o z => hbk b o (M.kin b o z)
  obtain ⟨mb, hb1, hb2⟩ := M.blt
  have hKa : K.lookup a = none := by
    cases z : K.lookup a with
    | none => rfl
    | some o => rw [M.kin a o z] at hba; cases hba
  have haC : a ≠ C := fun z => by
    rw [z, hC] at hKa
    cases hKa
  have cl := c.cl
  unfold iniCl at cl
  unfold fnI at e
  cases z : K.lookup fI with
  | none => rw [z] at e; cases e
  | some o =>
    obtain ⟨oc, od, dt, osl⟩ := o
    rw [z] at e cl
    cases dt with
    | func fd =>
      obtain ⟨n1, n2, n3, n4, n5, n6, n7, n8, n9, n10, n11, n12, n13, n14, n15⟩ := fd
      have e2 : (some (n3, n4, n5, n6, n15) : FnI) = some (params, .stmts (iniB f txt j q0 q1 q2 q3 q4 q5 q6 q7 q8 q9), scope, mainGlobals, builtinsNs) := e
      simp only [Option.some.injEq, Prod.mk.injEq] at e2
      obtain ⟨rfl, rfl, rfl, rfl, rfl⟩ := e2
      dsimp only at cl
      split at cl
      · rename_i x cc cda
        simp only [Bool.and_eq_true, beq_iff_eq] at cl
        obtain ⟨rfl, hcr, hcell, hfl⟩ := cl
        unfold cellAt at hcell
        unfold codeFile at hfl
        split at hcell
        · rename_i c1 c2 C' c3 hcc
          split at hfl
          · rename_i v1 v2 vs v3 hvs
            split at hfl
            · rename_i fl tf hv2
              simp only [beq_iff_eq] at hcell hfl
              subst hcell hfl
              have hnn : ∀ x : Str, x ≠ "__name__" → mb x = bootBuiltins x := hb2
              exact ini_run (cd := default) (fd := iniFd ⟨n1, n2, n3, .stmts (iniB f txt j q0 q1 q2 q3 q4 q5 q6 q7 q8 q9), n5, mainGlobals, [(("__class__" : Str), cc)], .none, n9, n10, n11, n12, .ref cda, n14, builtinsNs⟩ n3 (iniB f txt j q0 q1 q2 q3 q4 q5 q6 q7 q8 q9) n5) (pl := iniPl q0 q1)
                hroom X (M.glob.keeps hbk) (hb1.keeps hbk) (M.nolimit.keeps hbk) z rfl rfl hpar ha0 (fun x y s => BindsTo.of_eq (hbind _ x y)) rfl rfl rfl rfl hcr hvs rfl hv2 hfile htop hcc rfl hnc hks hkc hka hkf hco hgen hk hfs hfdb hmg ((hnn "super" (by decide)).trans (by decide +kernel)) hC hbm c.mro c.opq c.sup c.ve hsa c.no (hme _) (hin _) (hs1 _) (hs2 _) (hst _) ha haC hKa hq
            · cases hfl
          · cases hfl
        · cases hcell
      · cases cl
    | _ => cases e
/-! ### the hook: as hookX, with the statics among K, and the __init__ defs -/
def asS (g : Addr → Option Obj) (n : Nat) : List Addr := He.asD g n ++ [cStatics]
abbrev frS (g : Addr → Option Obj) (n : Nat) : Frag := He.frT g (asS g n)
def iniAt (K : Frag) (x : Str) : FnI := fnI K (He.ma K (He.ga K x) "__init__")
def obsY (n : Nat) (fa : List He.Fa) (fn : List He.DefD) (tf : List He.Defn) (ex : Frag → Bool) (fi : List (Str × FnI)) (g : Addr → Option Obj) : He.AlX × List FnI :=
  ((He.obsT fa fn [] (frS g n), ex (frS g n) && He.tabsB g tf (frS g n)), fi.map fun p => iniAt (frS g n) p.1)
def valY (fn : List He.DefD) (fi : List (Str × FnI)) (w : World) : He.AlX × List FnI := (He.valX fn [] w, fi.map (·.2))
structure SaysY (fa : List He.Fa) (fn : List He.DefD) (tf : List He.Defn) (ex : Frag → Bool) (fi : List (Str × FnI)) (w : World) (h : Heap) (K : Frag) : Prop where
  x : He.SaysX fa fn [] tf ex w h K
  ini : ∀ p ∈ fi, iniAt K p.1 = p.2
theorem saysY_of {n : Nat} {fa : List He.Fa} {fn : List He.DefD} {tf : List He.Defn} {ex : Frag → Bool} {fi : List (Str × FnI)} {w : World} {h : Heap} (e : obsY n fa fn tf ex fi h.get? = valY fn fi w) : SaysY fa fn tf ex fi w h (frS h.get? n) := by
  have e0 : (He.obsT fa fn [] (frS h.get? n), ex (frS h.get? n) && He.tabsB h.get? tf (frS h.get? n)) = He.valX fn [] w := congrArg (fun z => z.1) e
  have e3 : (fi.map fun p => iniAt (frS h.get? n) p.1) = fi.map (·.2) := congrArg (fun z => z.2) e
  obtain ⟨h1, h2⟩ := He.ba (show (ex (frS h.get? n) && He.tabsB h.get? tf (frS h.get? n)) = true from congrArg (fun z : He.AlX => z.2) e0)
  have at_ : ∀ p ∈ tf, codeHdIn (frS h.get? n) (He.cT (frS h.get? n) p).1 (He.cT (frS h.get? n) p).2 = true ∧ ∃ o, h.get? (He.cT (frS h.get? n) p).2 = some o ∧ He.emptyTab o = true := fun p hp => by
    obtain ⟨h3, h4⟩ := He.ba (List.all_eq_true.mp h2 p hp)
    split at h4
    · exact ⟨h3, _, by assumption, h4⟩
    · cases h4
  refine ⟨⟨congrArg (fun z : He.AlX => z.1) e0, h1, fun p hp => (at_ p hp).1, fun p hp => ?_, fun p hp => ?_⟩, fun p hp => List.map_inj_left.mp e3 p hp⟩
  · obtain ⟨o, q, z⟩ := (at_ p hp).2
    exact He.frT_none q z
  · obtain ⟨o, q, z⟩ := (at_ p hp).2
    rw [q, He.emptyTab_eq z]
def hookY (n : Nat) (fa : List He.Fa) (fn : List He.DefD) (tf : List He.Defn) (ex : Frag → Bool) (fi : List (Str × FnI)) : Hook where
  α := He.AlX × List FnI
  obs := fun s => obsY n fa fn tf ex fi s.heap.get?
  val := fun w => valY fn fi w
  says := fun w h => ∃ K : Frag, K.In h ∧ SaysY fa fn tf ex fi w h K
  of := fun _ _ e => ⟨_, He.frT_in, saysY_of e⟩
  keeps := fun _ _ _ ⟨K, hK, c⟩ k => ⟨K, Frag.In.keeps hK k, ⟨⟨c.x.t, c.x.more, c.x.hd, c.x.out, fun p hp => k _ _ (c.x.empty p hp)⟩, c.ini⟩⟩
theorem obsY_eq {n : Nat} {fa : List He.Fa} {fn : List He.DefD} {tf : List He.Defn} {ex : Frag → Bool} {fi : List (Str × FnI)} {g : Addr → Option Obj} {s : Shared} (h : ∀ a, g a = s.heap.get? a) : obsY n fa fn tf ex fi g = (hookY n fa fn tf ex fi).obs s := by
  have e : g = s.heap.get? := funext h
  rw [e] <;> rfl
/-- the first def of a class -/
def initS (s : Stmt) : Stmt := match s with
  | .ClassDef _ _ _ b _ _ _ _ _ _ _ => b.headD (.Pass ⟨0, 0, 0, 0⟩)
  | s => s
def iniV (s : Stmt) : FnI := some (defArgs s, .stmts (defBody s), defScope s, mainGlobals, builtinsNs)
section
open L2
theorem answer_givesF {X : Cx} {Ans : Exn → D → Prop} {Ng : List Str} {x a wn en q : Str} {sg : Scope} {g CW : Addr} {cdg : Value} {j : Nat} {kt} {b0 : Stmt} {sts : List Stmt} {p0 p1 p2 p3 p4 p5 p7 p8 : Pos}
    (hge : sg.names.lookup wn = some .globalImplicit) (hme : X.mg wn = some (.ref CW)) (hde : (wn == ("__debug__" : Str)) = false) (h0 : ∀ f : Addr, (L2.start Ng [V.ref f])[0]? = some (some (V.ref f))) (hN : Ng.Nodup) (hi : Ng[1]? = some en) (hln : sg.names.lookup en = some .local)
    (hS : ∀ (y : Exn) (d : D), Ans y d → PySem.W.exmOne X.K (.ref y.C) (.ref CW) = some true ∧ ∀ (A : Around) (st : List Env) (s : Shared) (H : Hp) (a : Addr) (oe : Obj) (pn : List (Addr × Obj)) (dx : Option Addr), L2N.Zn (.ref y.C) dx oe → (∃ vs, oe.data = .fields vs) →
      ∃ r, (∀ B, XRep X.K B y (.ref y.C) dx → DSs ((cxOf C8.CX0 X.prog X.w X.K X.mg X.base Ng x sg g cdg A st s H C8.E0).nox.suite a ((a, oe) :: pn)) B [] (b0 :: sts) r) ∧ r { nx := fun _ => False, rt := fun d' _ => d' = d } (iniE Ng.length a)) :
    LamN.GivesToN X Ng x sg g cdg [.Try [.Return (some (.Tuple [.Constant (.str "told") j p0, .Call (.Name a p1) [] [] p2] kt p5)) p3] [.ExceptHandler (some (.Name wn p4)) (some en) (b0 :: sts) p7] [] [] p8] a q (TTans X.K Ans) := by
  intro f c' s H Q tl act hc h
  have hgl : Gl (cxOf C8.CX0 X.prog X.w X.K X.mg X.base Ng x sg g cdg X.A X.stack s H C8.E0).nox wn := hge
  refine ⟨_, pss_one (L2N.ps_try_as (X := (cxOf C8.CX0 X.prog X.w X.K X.mg X.base Ng x sg g cdg X.A X.stack s H C8.E0).nox) (c := .ref CW) (n := en) (i := 1)
      (tb := fun W G σ H => ∃ Ech : XK, (∀ cls d σ' H', Ech cls d H' → W cls d σ' H') ∧ σ[0]? = some (some (.ref f)) ∧ H c' = some (LamX.CodeO c' q) ∧ tl Ech H fun v H' => [V.str "told", v].length ≤ sizeLine ∧ NewT G.rt H' [.str "told", v])
      (ts := fun a cls dx G σ H => ∃ (y : Exn) (d : D), XRep X.K H y cls dx ∧ Ans y d ∧ (∀ H'' v, Same H H'' → Rep X.K H'' d v → G.rt v H'') ∧ ∃ σ0 : L2.St, σ = σ0.set 1 (some (.ref a)))
      rfl rfl hN hi hln ⟨hgl, hde, .inl hme⟩ LamN.takes0 (fun W pn xe tk _ => ?_) (fun a oe cls dx pn hz hf => ?_)), ?_⟩
  · refine ⟨fun pins s' σ H' G I h' => ?_⟩
    obtain ⟨Ech, hW, h1, h2, h3⟩ := h'
    have hp := act W pn xe Ech p1 p2 tk hW
    have hq := pss_one (ps_ret (pos := p3) (pe_tupN (x1 := kt) (pos := p5) (pa_cons (pe_str (x := "told") (j := j) (pos := p0)) (pa_cons hp pa_nil rfl) rfl)))
    exact hq.run pins s' σ H' G I ⟨h1, h2, h3⟩
  · refine ⟨fun pins s' σ H' G I h' => ?_⟩
    obtain ⟨y, d, hx, ha, hQ, σ0, hσ⟩ := h'
    obtain ⟨_, hsu⟩ := hS y d ha
    have hx2 := hx
    obtain ⟨e1, e2⟩ := hx
    subst e1 hσ
    obtain ⟨r, hd, hr⟩ := hsu X.A X.stack s H a oe pn dx hz hf
    exact (hd H' hx2).pss.run pins s' _ H' G I ⟨iniE Ng.length a, _, sta_iniE, hr, ⟨fun ρ σ H2 k S z => z.elim, fun d' ρ σ v H2 k S rv z => by
      have z : d' = d := z
      subst z
      exact hQ H2 v S.frm.same rv, fun _ _ _ _ _ z => z.elim, fun _ _ _ _ _ z => z.elim, fun _ _ _ _ _ _ _ _ _ z => z.elim⟩⟩
  · refine ⟨_, fun cls dx σ' H' hE => ?_, h0 f, hc, h⟩
    obtain ⟨y, d, hx, ha, hQ⟩ := hE
    obtain ⟨hex, _⟩ := hS y d ha
    exact ⟨true, by rw [hx.1]; exact hex, fun _ a na => ⟨y, d, hx, ha, hQ, σ', rfl⟩, fun z => nomatch z⟩
end
end N
/-! NR -/
set_option Elab.async false
set_option linter.all false
set_option maxRecDepth 100000
set_option maxHeartbeats 2000000
/-! NR: reversed of lists and tuples. -/
namespace N
open PySem PySem.Spec PyProof.Rows L2
section
variable {X : Cx} {B : Hp} {M : List Addr} {e a b c : Expr} {es : List Expr} {pos : Pos}
def revIt (ds : List D) : Nat → D → Prop := fun k d => ds[ds.length - 1 - k]? = some d
def iRev (r : RE) : RI := fun ρ P => r ρ fun w ρ1 => kSq (sq ρ1 w) fun ds => P ds.length (revIt ds) (okW ρ1 ds w) ρ1
def revOf (K : PySem.W.Frag) (t : Bool) (a : Addr) (n : Nat) : It := match t with
  | true => RT.ItvT K a n
  | false => Itv K a n
theorem walks_rev {K : PySem.W.Frag} {H1 : Hp} {a : Addr} {ds : List D} {n : Nat} {ok : En → Prop} {t : Bool} (hn : n = ds.length)
    (h : ∀ ρ σ H, Keep H1 H → Sta K B M ρ σ H → ok ρ → ∃ vs, SqV K H t a vs ∧ RepL K H ds vs) : Walks K B M H1 (revOf K t a n) n (revIt ds) ok := by
  subst hn
  have step : ∀ {vs : List V} {H : Hp} {k : Nat}, RepL K H ds vs → k < ds.length → ∃ v d, ds[ds.length - 1 - k]? = some d ∧ vs[ds.length - 1 - k]? = some v ∧ Rep K H d v := fun {vs H k} rr lt => by
    have hd : ds[ds.length - 1 - k]? = some ds[ds.length - 1 - k] := List.getElem?_eq_getElem (by omega)
    obtain ⟨v, hv, rv⟩ := RepL.get rr hd
    exact ⟨v, _, hd, hv, rv⟩
  cases t with
  | true =>
    refine ⟨fun k ρ σ H kk S o lt => ?_, fun k ρ σ H x H' kk S o lt y => ?_, fun ρ σ H kk S o => Nat.le_refl _⟩
    · obtain ⟨vs, hs, rr⟩ := h ρ σ H kk S o
      obtain ⟨v, d, hd, hv, rv⟩ := step rr lt
      exact ⟨lt, vs, v, TpN.sq hs, hv⟩
    · obtain ⟨vs, hs, rr⟩ := h ρ σ H kk S o
      obtain ⟨v, d, hd, hv, rv⟩ := step rr lt
      obtain ⟨e, y⟩ := y
      subst e
      have := y vs (TpN.sq hs)
      rw [hv] at this
      cases this
      exact ⟨Same.refl _, _, hd, rv⟩
  | false =>
    refine ⟨fun k ρ σ H kk S o lt => ?_, fun k ρ σ H x H' kk S o lt y => ?_, fun ρ σ H kk S o => Nat.le_refl _⟩
    · obtain ⟨vs, hs, rr⟩ := h ρ σ H kk S o
      obtain ⟨v, d, hd, hv, rv⟩ := step rr lt
      exact ⟨lt, vs, v, .inl hs, hv⟩
    · obtain ⟨vs, hs, rr⟩ := h ρ σ H kk S o
      obtain ⟨v, d, hd, hv, rv⟩ := step rr lt
      obtain ⟨e, y⟩ := y
      subst e
      have := y vs (.inl hs)
      rw [hv] at this
      cases this
      exact ⟨Same.refl _, _, hd, rv⟩
/-- over reversed(x) -/
theorem di_rev {tg : Expr} {p : Pos} {r : RE} (hm : X.mg "reversed" = none) (ha : DE X B M a r) (hg : Gl X "reversed" := by rfl) (hs : starEach [a] X.env = (false, eval a X.env) :: starEach [] X.env := by rfl) : DI X B M tg (.Call (.Name "reversed" p) [a] [] pos) (iRev r) := by
  refine ⟨pi_imp (RT.pi_revA hg hm ha.pe hs) fun σ H R ⟨ρ, S, q⟩ => ?_, fun ρ P P' w p => ha.mo ρ _ _ (fun w1 ρ1 q1 => q1.imp fun ds p1 => w _ _ _ _ p1) p⟩
  refine into ha S q fun w ρ1 v H1 hh k1 o1 S1 r1 => ?_
  obtain ⟨t, ds, e1, q1⟩ := hh.el
  obtain ⟨a, vs, rfl, s, rr⟩ := sq_read S1 r1 e1
  have wk := walks_rev (K := X.K) (B := B) (M := M) (H1 := H1) (a := a) (ds := ds) (t := t) (ok := okW ρ1 ds w) (RepL.length rr) fun ρ2 σ2 H2 kk S2 ok2 => okW_read r1 e1 s rr kk S2 ok2
  refine ⟨a, vs, rfl, ?_⟩
  have e := RepL.length rr
  cases t with
  | true =>
    refine .inr ⟨TpN.sq s, ?_⟩
    have z := q1 _ H1 k1 o1 S1 (show Walks X.K B M H1 (revOf X.K true a vs.length) ds.length (revIt ds) (okW ρ1 ds w) from e ▸ wk)
    exact z
  | false =>
    refine .inl ⟨.inl s, ?_⟩
    have z := q1 _ H1 k1 o1 S1 (show Walks X.K B M H1 (revOf X.K false a vs.length) ds.length (revIt ds) (okW ρ1 ds w) from e ▸ wk)
    exact z
end
end N
/-! NS -/
set_option Elab.async false
set_option linter.all false
set_option maxRecDepth 100000
set_option maxHeartbeats 2000000
/-! NS: a def that is lent a list and gives a new one. -/
namespace N
open PySem PySem.Spec PyProof.Rows L2
/-- a list lent; data given, or a new list, which nothing else knows -/
def spP (K : PySem.W.Frag) (S : SS) : Sp := fun vs H Q _ => ∃ g p vs0 s vr, vs = .ref p :: vr ∧ H p = some (.lst vs0) ∧ RepL K H s vs0 ∧ S.s0 g s ∧ RepL K H (S.args g) vr ∧ S.pre g ∧
  (∀ d s' v H' vs', S.post g d → notL d = true → S.s1 g s' → Frm [p] H H' → H' p = some (.lst vs') → RepL K H' s' vs' → Rep K H' d v → Q v H') ∧
  (∀ ds s' q qs H' vs', S.post g (.lst ds) → S.s1 g s' → Frm [p] H H' → H' p = some (.lst vs') → RepL K H' s' vs' → H q = none → H' q = some (.lst qs) → RepL K H' ds qs → Q (.ref q) H')
section
variable {P : Program} {w : World} {K : PySem.W.Frag} {mg : Str → Option Value} {base : Heap} {x qual : Str} {params : Arguments} {body : List Stmt} {scope : Scope} {f : Addr} {fd : FuncData}
theorem fnP_ok {dvs : List V} {N ps : List Str} {k : Nat} (F : FunD K x qual params body scope dvs [] f fd) (Sc : FnScope N ps scope) (S : SS) (len : ∀ g, (S.args g).length + 1 = ps.length) (hN : 0 < N.length)
    (h : ∀ (cdv : Value) (A : Around) (outer : List Env) (s : Shared) (H : Hp) (E : XK) (g : S.α) (p : Addr) (ss : List D), Room k (A.deeper (envOfC qual scope s.heap.objs.size f cdv)) → S.pre g → S.s0 g ss →
      ∃ r, DSs (cxOf (L2N.CX P w) P w K mg base N qual scope f cdv A outer s H E) H [p] body r ∧ r { nx := fun ρ => S.post g .non ∧ ∃ s', ρ[0]? = some (.own p s') ∧ S.s1 g s', rt := fun d ρ => S.post g d ∧ notL d = true ∧ ∃ s', ρ[0]? = some (.own p s') ∧ S.s1 g s', ro := fun ds ρ => S.post g (.lst ds) ∧ ∃ s', ρ[0]? = some (.own p s') ∧ S.s1 g s' ∧ s' ≠ ds } (iniS N.length p ss (S.args g))) :
    FnOk P w K mg base (L2N.CX P w) (k + 1) f fd ps (spP K S) := by
  refine F.ok Sc (fun vs H Q E ⟨g, p, vs0, s, vr, e, _, _, _, r, _⟩ => by rw [e, List.length_cons, RepL.length r]; exact len g) fun cdv A outer s H vs Q E hr ⟨g, p, vs0, ss, vr, e, hp, r0, hs, r, pre, q, qn⟩ => ?_
  subst e
  obtain ⟨rs, hd, hm⟩ := h cdv A outer s H E g p ss hr pre hs
  refine ⟨_, hd.pss, iniS N.length p ss (S.args g), _, sta_iniS hN hp r0 r, hm, ⟨fun ρ σ H' _ S' ⟨hp, s', e0, hs'⟩ => ?_, fun d ρ σ v H' _ S' rv ⟨hp, hn, s', e0, hs'⟩ => ?_, fun _ _ _ _ _ z => z, fun _ _ _ _ _ z => z, fun i p2 ds ρ σ H' _ S' e ⟨hp2, s', e0, hs', hne⟩ => ?_⟩⟩
  · obtain ⟨vs', hv, rr⟩ := S'.own_at e0
    exact q .non s' .non H' vs' hp rfl hs' S'.frm hv rr rfl
  · obtain ⟨vs', hv, rr⟩ := S'.own_at e0
    exact q d s' v H' vs' hp hn hs' S'.frm hv rr rv
  · obtain ⟨vs', hv, rr⟩ := S'.own_at e0
    obtain ⟨qs, hq, rq⟩ := S'.own_at e
    have hi : i ≠ 0 := fun z => by
      subst z
      rw [e0] at e
      cases e
      exact hne rfl
    have hnp : p2 ≠ p := S'.dis i 0 p2 p _ _ e e0 hi
    rcases S'.new i p2 ds e with n | n
    · exact qn ds s' p2 qs H' vs' hp2 hs' S'.frm hv rr n hq rq
    · exact absurd (List.mem_singleton.mp n) hnp
end
section
variable {X : Cx} {B : Hp} {M : List Addr} {e a b c : Expr} {es : List Expr} {pos : Pos}
/-- x = f(store, ..), such a call -/
def rAsgP (j i : Nat) (S : SS) (ra : RA) : RS := fun e ρ => kOwn i (fun _ _ => ra ρ fun ws ρ1 => kOwn i (fun p s => ∃ g, ws = dats (S.args g) ∧ S.s0 g s ∧ S.pre g ∧ ∀ d s', S.post g d → S.s1 g s' → match d with
  | .lst ds => ∀ q, e.nx ((ρ1.set i (.own p s')).set j (.own q ds))
  | d => e.nx ((ρ1.set i (.own p s')).set j (.v d))) ρ1) ρ
theorem ds_setP {x : Str} {k : Nat} {ps : List Str} {S : SS} {ra : RA} {p ps' : Pos} {y z : Str} {i j : Nat} {py pos' : Pos} (hN : X.N.Nodup) (G : Has X.prog X.w X.K X.mg X.base x k ps (spP X.K S)) (hr : Room k X.A) (hy : DE X B M (.Name y ps') (rVar i)) (ha : DA X B M es ra) (hj : X.N[j]? = some z := by rfl) (hz : Loc X.env.scope z := by first | exact Or.inl rfl | exact Or.inr rfl)
    (hs : swapsWith (.Call (.Name x p) (.Name y ps' :: es) [] pos) (some (.Name z py)) pos'.line X.env = pure false := by rfl) (hf : X.fn z = true ∨ X.env.scope.names.lookup z = some .local := by first | exact .inl rfl | exact .inr rfl | assumption)
    (hg : Gl X x := by rfl) (hdb : (x == ("__debug__" : Str)) = false := by decide) (he : starEach (.Name y ps' :: es) X.env = (false, eval (.Name y ps') X.env) :: starEach es X.env := by rfl) (hpl : (backTo pos (starEach es X.env)).any (·.1) = false := by rfl) :
    DS X B M (.Assign [.Name z py] (.Call (.Name x p) (.Name y ps' :: es) [] pos) pos') (rAsgP j i S ra) := by
  obtain ⟨f, fd, hm, hk, hb, F⟩ := G
  refine DS.mk' (ps_set hN hj hz (pe_call F hr hg hm hk hb .nil passN (pa_cons hy.pe ha.pa he) hdb he hpl) hs hf) fun D σ H ρ en Sx hh ok => ?_
  obtain ⟨p0, s0, e0, q⟩ := hh.el
  refine into hy Sx (P := fun w ρ' => w = .o i ∧ ρ' = ρ) (rVar.mk (w := .o i) (by unfold rd; rw [e0]) ⟨rfl, rfl⟩) fun w ρ' vo H1 ⟨ew, eρ⟩ k1 o1 S1 r1 => ?_
  subst ew eρ
  refine intoA ha S1 q fun ws ρ1 vs H2 hh k2 o2 S2 r2 => ?_
  obtain ⟨p, s, e2, g, e1, hs, pre, h1⟩ := hh.el
  subst e1
  obtain ⟨p', s', e3, ev⟩ := WOk.keep k2 o2 r1
  rw [e2] at e3
  cases e3
  obtain ⟨vs0, hp, rr⟩ := S2.own_at e2
  refine ⟨g, p, vs0, s, vs, by rw [ev, List.append_nil], hp, rr, hs, dats_ok r2, pre, fun d s2 v H' vs' hd hn hs2 fr hp' rr' rv => ?_, fun ds s2 q qs H' vs' hd hs2 fr hp' rr' hq hq' rq => ?_⟩
  · have h2 := h1 d s2 hd hs2
    refine ok.nx _ _ H' ((k1.trans k2).trans fr.keep) ((S2.called e2 fr hp' rr').put (i := j) rv) ?_
    cases d with
    | lst ds => cases hn
    | _ => exact h2
  · refine ok.nx _ _ H' ((k1.trans k2).trans fr.keep) ((S2.called e2 fr hp' rr').putO (i := j) hq' rq (S2.fresh_B hq) fun k q' fs ek => ?_) (h1 _ s2 hd hs2 q)
    by_cases hk : k = i
    · subst hk
      have hlt : k < ρ1.length := (List.getElem?_eq_some_iff.mp e2).1
      rw [List.getElem?_set_self hlt] at ek
      cases ek
      intro z
      rw [← z, hp] at hq
      cases hq
    · rw [List.getElem?_set_ne (Ne.symm hk)] at ek
      exact S2.fresh_own hq k q' fs ek
end
end N
/-! NC -/
set_option Elab.async false
set_option linter.all false
set_option maxRecDepth 100000
set_option maxHeartbeats 2000000
/-! NC: a comprehension whose target is a pair. -/
namespace N
open PySem PySem.Spec PyProof.Rows L2
def clr (i i2 : Nat) (ρ : En) : En := (ρ.set i .un).set i2 .un
theorem set_look {ρ : En} {i k : Nat} {s : Slot} (h : (ρ.set i .un)[k]? = some s) : s = .un ∨ ρ[k]? = some s := by
  by_cases hk : k = i
  · subst hk
    have hlt : k < (ρ.set k Slot.un).length := (List.getElem?_eq_some_iff.mp h).1
    rw [List.length_set] at hlt
    rw [List.getElem?_set_self hlt] at h
    cases h
    exact .inl rfl
  · rw [List.getElem?_set_ne (Ne.symm hk)] at h
    exact .inr h
theorem set_un {ρ : En} {i : Nat} {s : Slot} (h : (ρ.set i .un)[i]? = some s) : s = .un := by
  have hlt : i < (ρ.set i Slot.un).length := (List.getElem?_eq_some_iff.mp h).1
  rw [List.length_set] at hlt
  rw [List.getElem?_set_self hlt] at h
  cases h
  rfl
theorem clr_un {i i2 k : Nat} {ρ : En} {s : Slot} (hk : k = i ∨ k = i2) (h : (clr i i2 ρ)[k]? = some s) : s = .un := by
  unfold clr at h
  rcases set_look h with h2 | h2
  · exact h2
  · rcases hk with rfl | rfl
    · exact set_un h2
    · exact set_un h
theorem clr_look {i i2 k : Nat} {ρ : En} {s : Slot} (hs : s ≠ .un) (h : (clr i i2 ρ)[k]? = some s) : ρ[k]? = some s := by
  unfold clr at h
  rcases set_look h with h | h
  · exact absurd h hs
  · rcases set_look h with h | h
    · exact absurd h hs
    · exact h
theorem clr_own {i i2 k : Nat} {ρ : En} {q : Addr} {fs : List D} (h : (clr i i2 ρ)[k]? = some (.own q fs)) : (ρ.set i .un)[k]? = some (.own q fs) := by
  unfold clr at h
  rcases set_look h with h | h
  · cases h
  · exact h
theorem clr_tab {i i2 k : Nat} {ρ : En} {P : Addr} {q : Str} (h : (clr i i2 ρ)[k]? = some (.tab P q)) : ρ[k]? = some (.tab P q) := clr_look (fun z => by cases z) h
theorem own_clr {ρ ρ' : En} {i i2 : Nat} (h : OwnEq ρ ρ') (hi : ∀ p ds, ρ[i]? ≠ some (.own p ds)) (hi2 : ∀ p ds, ρ[i2]? ≠ some (.own p ds)) : OwnEq ρ (clr i i2 ρ') := own_forget (own_forget h hi) hi2
theorem wipe_two (σ : L2.St) (i i2 : Nat) (a b : Option V) : wipe (((wipe σ [i, i2]).set i a).set i2 b) [i, i2] = wipe σ [i, i2] := by
  show (((((σ.set i2 none).set i none).set i a).set i2 b).set i2 none).set i none = (σ.set i2 none).set i none
  rw [List.set_set, List.set_set]
  by_cases h : i = i2
  · subst h
    rw [List.set_set, List.set_set, List.set_set]
  · rw [List.set_comm a none h, List.set_set, List.set_set]
theorem set_own {ρ : En} {i k : Nat} {x : D} {q : Addr} {es : List D} (h : (ρ.set i (.v x))[k]? = some (.own q es)) : ρ[k]? = some (.own q es) := by
  by_cases hk : k = i
  · subst hk
    have hlt : k < (ρ.set k (Slot.v x)).length := (List.getElem?_eq_some_iff.mp h).1
    rw [List.length_set] at hlt
    rw [List.getElem?_set_self hlt] at h
    cases h
  · rw [List.getElem?_set_ne (Ne.symm hk)] at h
    exact h
section
variable {X : Cx} {B : Hp} {M : List Addr} {e a b c : Expr} {es : List Expr} {pos : Pos}
/-- as Walks, for a target that is a pair -/
structure Walks2 (K : PySem.W.Frag) (B : Hp) (M : List Addr) (H1 : Hp) (J : It) (n : Nat) (it : Nat → D → Prop) (ok : En → Prop) : Prop where
  go : ∀ k ρ σ H, Keep H1 H → Sta K B M ρ σ H → ok ρ → k < n → J.go k H
  yld : ∀ k ρ σ H x H', Keep H1 H → Sta K B M ρ σ H → ok ρ → k < n → J.yld k H x H' → Same H H' ∧ ∃ d, it k d ∧ ∀ dx dy, d = .tup [dx, dy] → ∃ (T : Addr) (v1 v2 : V), x = .ref T ∧ SqT K H' T [v1, v2] ∧ Rep K H' dx v1 ∧ Rep K H' dy v2
  stop : ∀ ρ σ H, Keep H1 H → Sta K B M ρ σ H → ok ρ → J.stop n H
theorem Walks.two {K : PySem.W.Frag} {B : Hp} {M : List Addr} {H1 : Hp} {J : It} {n : Nat} {it : Nat → D → Prop} {ok : En → Prop} (w : Walks K B M H1 J n it ok) : Walks2 K B M H1 J n it ok :=
  ⟨w.go, fun k ρ σ H x H' kk S o lt y => by
    obtain ⟨sm, d, hit, rd⟩ := w.yld k ρ σ H x H' kk S o lt y
    refine ⟨sm, d, hit, fun dx dy ed => ?_⟩
    subst ed
    obtain ⟨at3, vs3, ev3, hs3, v1, vr, rfl, rx, v2, vr2, rfl, ry, rn⟩ := rd
    obtain rfl : vr2 = [] := rn
    exact ⟨at3, v1, v2, ev3, TpN.sq hs3, rx, ry⟩, w.stop⟩
structure DI2 (X : Cx) (B : Hp) (M : List Addr) (tg iter : Expr) (ri : RI) : Prop where
  pi : PI X tg iter (fun σ H R => ∃ ρ, Sta X.K B M ρ σ H ∧ ri ρ fun n it ok ρ1 => ∀ J H1, Keep H H1 → OwnEq ρ ρ1 → Sta X.K B M ρ1 σ H1 → Walks2 X.K B M H1 J n it ok → R J H1)
  mo : MonoI ri
theorem DI.two {tg iter : Expr} {ri : RI} (h : DI X B M tg iter ri) : DI2 X B M tg iter ri :=
  ⟨pi_imp h.pi fun σ H R ⟨ρ, S, q⟩ => ⟨ρ, S, h.mo ρ _ _ (fun n it ok ρ1 f J H1 k o S1 w => f J H1 k o S1 w.two) q⟩, h.mo⟩
def rLc2 (i i2 : Nat) (ri : RI) (rt : RT) (re : RE) : RN := fun ρ Q => ri ρ fun n it ok ρ1 => n ≤ 16777216 ∧ ∃ I : Nat → List D → En → Prop, I 0 [] (clr i i2 ρ1) ∧ (∀ k acc ρ2, k ≤ n → I k acc ρ2 → ok ρ2) ∧
  (∀ k d acc ρ2, k < n → it k d → I k acc ρ2 → kP (fun x y => rt ((ρ2.set i (.v x)).set i2 (.v y)) fun b ρ3 => if b = true then re ρ3 (kD fun z ρ4 => I (k + 1) (acc ++ [z]) (clr i i2 ρ4)) else I (k + 1) acc (clr i i2 ρ3)) d) ∧
  (∀ acc ρ2, I n acc ρ2 → Q acc ρ2)
theorem lc_imp2 {i i2 : Nat} {ri : RI} {rt : RT} {re : RE} {te : TE} {tt : TT} (him : MonoI ri) (mt : MonoT rt) (me : MonoE re) (ht : ∀ B' M' σ H Q, tDT X.K B' M' rt σ H Q → tt σ H Q) (he : ∀ B' M' σ H Q, tD X.K B' M' re σ H Q → te σ H Q)
    {σ : L2.St} {H : Hp} {ρ : En} {Q : VK} (S : Sta X.K B M ρ σ H) (hun : ∀ p ds, ρ[i]? ≠ some (.own p ds)) (hun2 : ∀ p ds, ρ[i2]? ≠ some (.own p ds)) (q : rLc2 i i2 ri rt re ρ (kN X.K B M ρ σ H Q)) :
    tLc (fun σ H R => ∃ ρ, Sta X.K B M ρ σ H ∧ ri ρ fun n it ok ρ1 => ∀ J H1, Keep H H1 → OwnEq ρ ρ1 → Sta X.K B M ρ1 σ H1 → Walks2 X.K B M H1 J n it ok → R J H1) (gTup X.K 2 (gCons (gName i) (gCons (gName i2) gNil))) tt te [i, i2] σ H Q := by
  refine ⟨ρ, S, him ρ _ _ (fun n it okk ρ1 ⟨hn, I, i0, iok, istep, iend⟩ => ?_) q⟩
  intro J H1 k1 o1 S1 wk A nA
  have hσ : ∀ (τ : L2.St) (j : Nat), j ≠ i → j ≠ i2 → (wipe τ [i, i2])[j]? = τ[j]? := fun τ j hj hj2 => wipe_out (by simp [hj, hj2])
  have hl2 : ∀ τ : L2.St, (wipe τ [i, i2]).length = τ.length := fun τ => wipe_length τ _
  have fg : ∀ {ρ4 : En} {τ τ' : L2.St} {H4 : Hp} {B4 : Hp} {M4 : List Addr}, Sta X.K B4 M4 ρ4 τ H4 → τ'.length = τ.length → (∀ j, j ≠ i → j ≠ i2 → τ'[j]? = τ[j]?) → Sta X.K B4 M4 (clr i i2 ρ4) τ' H4 := fun {ρ4 τ τ' H4 B4 M4} S hl hh => by
    have S1 := S.forget (σ' := τ.set i none) i (List.length_set ..) (fun j hj => List.getElem?_set_ne (Ne.symm hj))
    refine ⟨S1.frm, fun k s ek => ?_, fun k l q q' fs gs ek el => S1.dis k l q q' fs gs (clr_own ek) (clr_own el), fun k q fs ek => S1.new k q fs (clr_own ek), S1.mh, fun k P q h => by rw [hl]; have := S.tbi k P q (clr_tab h); exact this⟩
    by_cases hk : k = i2
    · have := clr_un (i := i) (i2 := i2) (.inr hk) ek
      rw [this]
      exact trivial
    · by_cases hk1 : k = i
      · have := clr_un (i := i) (i2 := i2) (.inl hk1) ek
        rw [this]
        exact trivial
      · unfold clr at ek
        rw [List.getElem?_set_ne (Ne.symm hk), List.getElem?_set_ne (Ne.symm hk1)] at ek
        rw [hh k hk1 hk]
        exact S.ok k s ek
  have smD : Same H1 (upd H1 A (.lst [])) := same_upd nA
  have nM : A ∉ M := fun h => by
    obtain ⟨o, ho⟩ := S1.mh A h
    rw [nA] at ho
    cases ho
  have nB : B A = none := S1.fresh_B nA
  have end_ : ∀ {ρ2 : En} {H' : Hp}, (∀ k s, k = i ∨ k = i2 → ρ2[k]? = some s → s = .un) → Sta X.K B M ρ2 (wipe σ [i, i2]) H' → Sta X.K B M ρ2 σ H' := fun {ρ2 H'} eu S2 => by
    refine ⟨S2.frm, fun j s ej => ?_, S2.dis, S2.new, S2.mh, fun j P q e => by have := S2.tbi j P q e; rw [wipe_length] at this; exact this⟩
    have h2 := S2.ok j s ej
    by_cases hj : j = i ∨ j = i2
    · rw [eu j s hj ej]
      exact trivial
    · rw [hσ σ j (fun z => hj (.inl z)) (fun z => hj (.inr z))] at h2
      exact h2
  let Inv' : Nat → Hp → Prop := fun k H' => k ≤ n ∧ ∃ acc ρ2, I k acc ρ2 ∧ (∀ k s, k = i ∨ k = i2 → ρ2[k]? = some s → s = .un) ∧ Keep H1 H' ∧ OwnEq ρ ρ2 ∧ Sta X.K B M ρ2 (wipe σ [i, i2]) H' ∧ NewAt X.K B ρ2 H' A acc ∧ acc.length ≤ k
  have unOnly : ∀ (τ : En) k s, k = i ∨ k = i2 → (clr i i2 τ)[k]? = some s → s = .un := fun τ k s hk h => clr_un hk h
  have start0 : Inv' 0 (upd H1 A (.lst [])) := by
    have S2 : Sta X.K B M (clr i i2 ρ1) (wipe σ [i, i2]) H1 := fg S1 (hl2 σ) (hσ σ)
    obtain ⟨S3, n3⟩ := NewAt.laid S2 nA (ds := []) (vs := []) rfl
    exact ⟨Nat.zero_le _, [], _, i0, unOnly ρ1, Keep.of smD, own_clr o1 hun hun2, S3, n3, Nat.le_refl _⟩
  refine ⟨fun k m H' => m = n - k ∧ Inv' k H', ⟨n, rfl, start0⟩, ?_⟩
  rintro k m H' ⟨rfl, hk, acc, ρ2, ik, eu, kk, oo, S2, nw, hl⟩
  have ok2 := iok k acc ρ2 hk ik
  by_cases hlt : k < n
  · refine .inr ⟨wk.go k ρ2 _ H' kk S2 ok2 hlt, Inv' (k + 1), fun H'' h => ⟨n - (k + 1), by omega, rfl, h⟩, fun x H3 y => ?_⟩
    obtain ⟨sm, d, hit, rd⟩ := wk.yld k ρ2 _ H' x H3 kk S2 ok2 hlt y
    obtain ⟨dx, dy, ed, st3⟩ := (istep k d acc ρ2 hlt hit ik).el
    subst ed
    obtain ⟨at3, v1, v2, ev3, hs3, rx, ry⟩ := rd _ _ rfl
    subst ev3
    have S3 := ((S2.same sm).put (i := i) rx).put (i := i2) ry
    refine ⟨at3, [v1, v2], rfl, hs3, rfl, v1, _, rfl, v2, _, rfl, rfl, ?_, ?_⟩
    · exact wipe_two σ i i2 _ _
    have kk3 := kk.trans (Keep.of sm)
    obtain ⟨vs, hD, rD⟩ := nw.at_
    have hD3 : H3 A = some (.lst vs) := sm _ _ hD
    have ow3 : OwnEq ρ ((ρ2.set i (.v dx)).set i2 (.v dy)) := fun j p ds h => by
      obtain ⟨ds', h'⟩ := oo j p ds h
      have hj : j ≠ i := fun z => hun p ds (z ▸ h)
      have hj2 : j ≠ i2 := fun z => hun2 p ds (z ▸ h)
      exact ⟨ds', by rw [List.getElem?_set_ne (Ne.symm hj2), List.getElem?_set_ne (Ne.symm hj)]; exact h'⟩
    have nown : ∀ {ρ3 : En}, (∀ q ∈ ownL ρ3, q ≠ A) → ∀ (j : Nat) q es, ρ3[j]? = some (Slot.own q es) → q ≠ A := fun {ρ3} h j q es e => h q (mem_ownL.mpr ⟨j, es, e⟩)
    have nD2 : A ∉ ownL ((ρ2.set i (Slot.v dx)).set i2 (Slot.v dy)) ++ M := fun h => by
      rcases List.mem_append.mp h with h | h
      · obtain ⟨j, es, e⟩ := mem_ownL.mp h
        exact nw.nO j A es (set_own (set_own e)) rfl
      · exact nM h
    have S3b := Sta.rebase S3
    -- what a part leaves: the list under construction stands
    have left : ∀ {ρ4 : En} {H4 : Hp}, Sta X.K H3 (ownL ((ρ2.set i (Slot.v dx)).set i2 (Slot.v dy)) ++ M) ρ4 (((wipe σ [i, i2]).set i (some v1)).set i2 (some v2)) H4 → OwnEq ((ρ2.set i (.v dx)).set i2 (.v dy)) ρ4 → Keep H3 H4 →
        Sta X.K B M (clr i i2 ρ4) (wipe σ [i, i2]) H4 ∧ NewAt X.K B (clr i i2 ρ4) H4 A acc ∧ OwnEq ρ (clr i i2 ρ4) ∧ H4 A = some (.lst vs) ∧ RepL X.K H4 acc vs := fun {ρ4 H4} S4 o4 k4 => by
      have S5 := Sta.unbase S3 S4
      have S6 : Sta X.K B M (clr i i2 ρ4) (wipe σ [i, i2]) H4 := fg S5 (by rw [List.length_set, List.length_set]) (fun j hj hj2 => by rw [List.getElem?_set_ne (Ne.symm hj2), List.getElem?_set_ne (Ne.symm hj)])
      have hA4 : H4 A = some (.lst vs) := S4.frm A _ hD3 (.inr nD2)
      have rA4 := RepL.keep ((Keep.of sm).trans k4) acc rD
      refine ⟨S6, ⟨⟨vs, hA4, rA4⟩, nB, fun j q es e z => ?_⟩, own_clr (ow3.trans o4) hun hun2, hA4, rA4⟩
      have e := clr_look (fun z => by cases z) e
      rcases S4.new j q es e with h | h
      · rw [z, hD3] at h
        cases h
      · exact nD2 (z ▸ h)
    refine ht _ _ _ _ _ (intoT mt S3b st3 fun b ρ3 H4 q3 k4 o4 S4 => ?_)
    cases b with
    | false =>
      obtain ⟨S6, n6, o6, _, _⟩ := left S4 o4 k4
      exact ⟨hlt, acc, _, q3, unOnly ρ3, kk3.trans k4, o6, S6, n6, by omega⟩
    | true =>
      refine he _ _ _ _ _ ⟨ρ3, S4, me ρ3 _ _ (fun w ρ4 hh => ?_) q3⟩
      obtain ⟨x, ew, i4⟩ := kD.el hh
      subst ew
      intro v H5 k5 o5 S5 r5
      obtain ⟨S6, n6, o6, hA, rA⟩ := left S5 (o4.trans o5) (k4.trans k5)
      refine ⟨vs, hA, ?_, ?_⟩
      · rw [RepL.length rA, sizeLine_eq]
        omega
      · have kA : Keep H5 (upd H5 A (.lst (vs ++ [v]))) := Sta.keep_mut (i := 0) hA
        have S7 : Sta X.K B M (clr i i2 ρ4) (wipe σ [i, i2]) (upd H5 A (.lst (vs ++ [v]))) := by
          refine ⟨fun b o hb im => ?_, fun j s ej => ?_, S6.dis, S6.new, fun p hp => ?_, S6.tbi⟩
          · have hb2 : b ≠ A := fun z => by
              rw [z, nB] at hb
              cases hb
            rw [upd_ne hb2]
            exact S6.frm b o hb im
          · refine SlotOk.keep kA (fun q fs es => ?_) (fun P q et => by
              subst et
              exact tab_upd hA (S6.ok j _ ej)) (S6.ok j s ej)
            subst es
            obtain ⟨_, us, hu, ru⟩ := S6.ok j _ ej
            exact ⟨us, by rw [upd_ne (n6.nO j q fs ej)]; exact hu, RepL.keep kA fs ru⟩
          · have hb2 : p ≠ A := fun z => nM (z ▸ hp)
            rw [upd_ne hb2]
            exact S6.mh p hp
        exact ⟨hlt, acc ++ [x], _, i4, unOnly ρ4, ((kk3.trans k4).trans k5).trans kA, o6, S7, ⟨⟨vs ++ [v], upd_same, RepL.keep kA _ (RepL.snoc rA r5)⟩, nB, n6.nO⟩, by rw [List.length_append, List.length_singleton]; omega⟩
  · have e : k = n := by omega
    subst e
    exact .inl ⟨wk.stop ρ2 _ H' kk S2 ok2, iend acc ρ2 ik A H' (k1.trans kk) oo (end_ eu S2) nw⟩
def rLcF2 (i i2 : Nat) (ri : RI) (rt : RT) (re : RE) : RN := fun ρ Q => free i ρ ∧ free i2 ρ ∧ rLc2 i i2 ri rt re ρ Q
theorem mo_rLc2 {i i2 : Nat} {ri : RI} {rt : RT} {re : RE} (hi : MonoI ri) : MonoN (rLcF2 i i2 ri rt re) := fun ρ P P' w ⟨z, z2, q⟩ => ⟨z, z2, hi ρ _ _ (fun n it ok ρ1 ⟨hn, I, h0, h1, h2, h3⟩ => ⟨hn, I, h0, h1, h2, fun acc ρ2 h => w _ _ (h3 acc ρ2 h)⟩) q⟩
/-- [e for x, y in it if t] -/
theorem dn_lc2 {x y : Str} {px py pt : Pos} {kt : Nat} {elt iter : Expr} {ifs : List Expr} {scope : Scope} {i i2 : Nat} {ri : RI} {rt : RT} {re : RE} (hN : X.N.Nodup) (hi : DI2 X B M (.Tuple [.Name x px, .Name y py] kt pt) iter ri) (ok : BlkOk X.N X.env.scope scope [(x, i), (y, i2)])
    (ht : ∀ (B' : Hp) (M' : List Addr) (s : Shared) (H : Hp) (C : Addr) (cl : List (Str × Addr)) (fp : List Addr), DTs (X.blk s H scope (compEnvC scope cl C X.env) fp) B' M' ifs rt)
    (he : ∀ (B' : Hp) (M' : List Addr) (s : Shared) (H : Hp) (C : Addr) (cl : List (Str × Addr)) (fp : List Addr), DE (X.blk s H scope (compEnvC scope cl C X.env) fp) B' M' elt re)
    (hg : ∀ (s : Shared) (H : Hp) (C : Addr) (cl : List (Str × Addr)) (fp : List Addr), PG (X.blk s H scope (compEnvC scope cl C X.env) fp) (.Tuple [.Name x px, .Name y py] kt pt) (gTup X.K 2 (gCons (gName i) (gCons (gName i2) gNil))))
    (hc : X.calm = true := by rfl) (hs : ∀ x, foldedSetIterable iter X.env x = pure x := by intro _; rfl) :
    DN X B M (.ListComp elt [⟨.Tuple [.Name x px, .Name y py] kt pt, iter, ifs, 0⟩] scope pos) (rLcF2 i i2 ri rt re) := by
  have mt : MonoT rt := (ht B M X.s_0 (fun _ => none) 0 [] []).mo
  have me : MonoE re := (he B M X.s_0 (fun _ => none) 0 [] []).mo
  refine DN.mk' (pe_lc (own := [(x, i), (y, i2)]) (g := gTup X.K 2 (gCons (gName i) (gCons (gName i2) gNil))) (tt := fun σ H Q => ∃ B' M', tDT X.K B' M' rt σ H Q) (te := fun σ H Q => ∃ B' M', tD X.K B' M' re σ H Q) hc hN hi.pi ok hg
    (fun s H C cl fp => ⟨fun pins s' σ H' Q I ⟨B', M', q⟩ => (ht B' M' s H C cl fp).pts.run pins s' σ H' Q I q⟩) (fun s H C cl fp => ⟨fun pins s' σ H' Q I ⟨B', M', q⟩ => (he B' M' s H C cl fp).pe.run pins s' σ H' Q I q⟩) hs) (mo_rLc2 hi.mo) fun σ H Q ρ S ⟨z, z2, q⟩ => ?_
  exact lc_imp2 hi.mo mt me (fun B' M' σ H Q h => ⟨B', M', h⟩) (fun B' M' σ H Q h => ⟨B', M', h⟩) S (free_of z) (free_of z2) q
/-- sum of a list of ints -/
def oSum : OA := fun ws ρ P => ∃ ns : List Int, sq1 ρ ws = some (false, ns.map D.int) ∧ P (.int ns.sum)
theorem repL_ints {K : PySem.W.Frag} {H : Hp} : ∀ {ns : List Int} {vs : List V}, RepL K H (ns.map D.int) vs → vs = ns.map V.int
  | [], vs, r => by
    cases vs with
    | nil => rfl
    | cons v vs => exact absurd (RepL.length r) (by simp)
  | n :: ns, vs, r => by
    obtain ⟨v, vr, rfl, r1, r2⟩ := r
    obtain rfl : v = V.int n := r1
    rw [repL_ints r2]
    rfl
theorem tells_sum {K : PySem.W.Frag} : TellsA K (rSum K) oSum := fun B M ρ σ H ws xs Q P S r ⟨ns, e, p⟩ q => by
  obtain ⟨w1, e1, e2⟩ := sq1_el e
  subst e1
  obtain ⟨v, vr, rfl, r1, r2⟩ := r
  obtain rfl : vr = [] := r2
  obtain ⟨a, vs, rfl, s, rr⟩ := sq_read S r1 e2
  have ev := repL_ints rr
  subst ev
  exact ⟨a, ns, rfl, .inl s, q _ _ H p (Same.refl _) rfl⟩
theorem de_sum {p : Pos} {ra : RA} (hc : X.calm = true) (hm : X.mg "sum" = none) (ha : DA X B M (a :: es) ra) (hg : Gl X "sum" := by rfl) (he : starEach (a :: es) X.env = (false, eval a X.env) :: starEach es X.env := by rfl) (hpl : (backTo pos (starEach es X.env)).any (·.1) = false := by rfl) :
    DE X B M (.Call (.Name "sum" p) (a :: es) [] pos) (rA ra oSum) :=
  de_callB (cr_sum hc) tells_sum (fun ws ρ P P' h ⟨ns, e, p⟩ => ⟨ns, e, h _ p⟩) hg hm (by decide +kernel) ha (by decide) (by decide) he hpl
/-- over zip(xs, ys), two lists -/
def zipIt (as bs : List D) : Nat → D → Prop := fun k d => ∃ x y, as[k]? = some x ∧ bs[k]? = some y ∧ d = .tup [x, y]
def iZp (ra : RA) : RI := fun ρ P => ra ρ fun ws ρ1 => ∃ w1 w2 as bs, ws = [w1, w2] ∧ sq ρ1 w1 = some (false, as) ∧ sq ρ1 w2 = some (false, bs) ∧ P (min as.length bs.length) (zipIt as bs) (fun ρ2 => okW ρ1 as w1 ρ2 ∧ okW ρ1 bs w2 ρ2) ρ1
theorem di_zip {p tpos : Pos} {elts : List Expr} {kk : Nat} {ra : RA} (hm : X.mg "zip" = none) (ha : DA X B M [a, b] ra) (hg : Gl X "zip" := by rfl) (hs : starEach [a, b] X.env = (false, eval a X.env) :: starEach [b] X.env := by rfl) (hpl : (backTo pos (starEach [b] X.env)).any (·.1) = false := by rfl) :
    DI2 X B M (.Tuple elts kk tpos) (.Call (.Name "zip" p) [a, b] [] pos) (iZp ra) := by
  refine ⟨pi_imp (pi_zip hg hm ha.pa hs hpl) fun σ H R ⟨ρ, S, q⟩ => ?_, fun ρ P P' w q => ha.mo ρ _ _ (fun ws ρ1 ⟨w1, w2, as, bs, e, e1, e2, z⟩ => ⟨w1, w2, as, bs, e, e1, e2, w _ _ _ _ z⟩) q⟩
  refine intoA ha S q fun ws ρ1 xs H1 ⟨w1, w2, as, bs, e, e1, e2, z⟩ k1 o1 S1 r1 => ?_
  subst e
  obtain ⟨v, vr, rfl, r1, v2, vr2, rfl, r2, rn⟩ := r1
  obtain rfl : vr2 = [] := rn
  obtain ⟨a1, vs1, rfl, s1, rr1⟩ := sq_read S1 r1 e1
  obtain ⟨a2, vs2, rfl, s2, rr2⟩ := sq_read S1 r2 e2
  have rd : ∀ {ρ2 : En} {σ2 : L2.St} {H2 : Hp}, Keep H1 H2 → Sta X.K B M ρ2 σ2 H2 → okW ρ1 as w1 ρ2 ∧ okW ρ1 bs w2 ρ2 → ∃ us1 us2, SqL X.K H2 a1 us1 ∧ RepL X.K H2 as us1 ∧ SqL X.K H2 a2 us2 ∧ RepL X.K H2 bs us2 := fun {ρ2 σ2 H2} kk S2 ok => by
    obtain ⟨us1, h1, h2⟩ := okW_read r1 e1 s1 rr1 kk S2 ok.1
    obtain ⟨us2, h3, h4⟩ := okW_read r2 e2 s2 rr2 kk S2 ok.2
    exact ⟨us1, us2, .inl h1, h2, .inl h3, h4⟩
  refine ⟨a1, a2, vs1, vs2, rfl, .inl s1, .inl s2, z _ _ k1 o1 S1 ⟨fun k ρ2 σ2 H2 kk S2 ok lt => ?_, fun k ρ2 σ2 H2 x H' kk S2 ok lt y => ?_, fun ρ2 σ2 H2 kk S2 ok => ?_⟩⟩
  · obtain ⟨us1, us2, h1, h2, h3, h4⟩ := rd kk S2 ok
    have l1 : k < us1.length := by rw [RepL.length h2]; omega
    have l2 : k < us2.length := by rw [RepL.length h4]; omega
    exact ⟨us1, us2, us1[k], us2[k], h1, h3, List.getElem?_eq_getElem l1, List.getElem?_eq_getElem l2⟩
  · obtain ⟨us1, us2, h1, h2, h3, h4⟩ := rd kk S2 ok
    obtain ⟨T, x1, x2, rfl, nT, rfl, y1, y2⟩ := y
    have d1 : as[k]? = some as[k] := List.getElem?_eq_getElem (by omega)
    have d2 : bs[k]? = some bs[k] := List.getElem?_eq_getElem (by omega)
    obtain ⟨u1, hu1, ru1⟩ := RepL.get h2 d1
    obtain ⟨u2, hu2, ru2⟩ := RepL.get h4 d2
    have z1 := y1 us1 h1
    have z2 := y2 us2 h3
    rw [hu1] at z1
    rw [hu2] at z2
    cases z1
    cases z2
    have sm := same_upd (o := .tup [x1, x2]) nT
    refine ⟨sm, _, ⟨_, _, d1, d2, rfl⟩, fun dx dy ed => ?_⟩
    have ed := D.tup.inj ed
    simp only [List.cons.injEq, and_true] at ed
    obtain ⟨rfl, rfl⟩ := ed
    exact ⟨T, x1, x2, rfl, .inl (.inl upd_same), Rep.keep (Keep.of sm) _ ru1, Rep.keep (Keep.of sm) _ ru2⟩
  · obtain ⟨us1, us2, h1, h2, h3, h4⟩ := rd kk S2 ok
    exact ⟨us1, us2, h1, h3, by rw [RepL.length h2, RepL.length h4]; omega⟩
end
end N
/-! NV -/
set_option Elab.async false
set_option linter.all false
set_option maxRecDepth 100000
set_option maxHeartbeats 2000000
/-! NV: t[::-1], t a tuple. -/
namespace N
open PySem PySem.Spec PyProof.Rows L2
section
variable {prog : Program} {w : World} {A : Around} {E : Value → Shared → Prop} {s : Shared}
theorem applied_rev {sl : Addr} {u : Tok} {n : Nat} {Q : Int × Int × Nat → Shared → Prop} (hs : s.heap.IsSliceOf sl .none .none (.int (-1) u)) (h : Q ((n : Int) - 1, -1, n) s) :
    wpAny (model prog w) A (Builtin.Slice.sliceApplied (.ref sl) (pure (n : Int))) Q E s := by
  obtain ⟨os, hos, hcs, hds⟩ := id hs
  unfold Builtin.Slice.sliceApplied Builtin.Slice.sliceFields
  refine wpAny_bind (wpAny_bind (wpAny_field hos hds (x := .none) rfl (wpAny_bind (wpAny_field hos hds (x := .none) rfl (wpAny_bind (wpAny_field hos hds (x := .int (-1) u) rfl (wpAny_pure ?_)))))))
  refine wpAny_bind (slicePart_int ?_)
  show wpAny _ _ (if ((-1 : Int) == 0) = true then _ else _) _ _ s
  rw [if_neg (by decide)]
  refine wpAny_bind (slicePart_none (wpAny_bind (slicePart_none (wpAny_bind (wpAny_pure ?_)))))
  have ea : Builtin.Slice.sliceAdjust none none (-1) (n : Int) = ((n : Int) - 1, -1) := by
    unfold Builtin.Slice.sliceAdjust
    simp
  show wpAny _ _ (match Builtin.Slice.sliceAdjust none none (-1) (n : Int) with | (lo, hi) => pure (lo, (-1 : Int), Builtin.Slice.slicePlaces lo hi (-1))) _ _ s
  rw [ea]
  have ep : Builtin.Slice.slicePlaces ((n : Int) - 1) (-1) (-1) = n := by
    unfold Builtin.Slice.slicePlaces
    rw [if_neg (by decide)]
    split <;> simp <;> omega
  show wpAny _ _ (pure ((n : Int) - 1, (-1 : Int), Builtin.Slice.slicePlaces ((n : Int) - 1) (-1) (-1))) _ _ s
  rw [ep]
  exact wpAny_pure h
theorem pick_rev (xs : Array Value) : ((List.range xs.size).filterMap fun (m : Nat) => xs[(((xs.size : Nat) : Int) - 1 + (m : Int) * -1).toNat]?).toArray = xs.toList.reverse.toArray := by
  rw [← PySem.W.krv_pick]
  unfold slicePick
  rw [PySem.W.krv_bounds, PySem.W.krv_sliceRange, List.filterMap_map]
  congr 1
  have e : (fun (m : Nat) => xs[(((xs.size : Nat) : Int) - 1 + (m : Int) * -1).toNat]?) = (fun x => xs[x]?) ∘ fun k => xs.size - 1 - k := by
    funext m
    have : (((xs.size : Nat) : Int) - 1 + (m : Int) * -1).toNat = xs.size - 1 - m := by omega
    show xs[_]? = xs[_]?
    rw [this]
  rw [e]
theorem getItem_rev {t sl : Addr} {items : Array Value} {u : Tok} {Q : Value → Shared → Prop} (ht : IsTup s.heap t items) (hs : s.heap.IsSliceOf sl .none .none (.int (-1) u))
    (h : Q (.ref s.heap.objs.size) { s with heap := s.heap.push { cls := .type "tuple", data := .seq items.toList.reverse.toArray } }) (hsz : items.size ≤ sizeLine) : wpAny (model prog w) A (getItem (.ref t) (.ref sl)) Q E s := by
  have hz : sizeOk (.seq items.toList.reverse.toArray) := by
    show items.toList.reverse.toArray.size ≤ sizeLine
    rw [List.size_toArray, List.length_reverse, Array.length_toList]
    exact hsz
  obtain ⟨os, hos, hcs, hds⟩ := id hs
  have hTs : s.TypeIs (.ref sl) "slice" := ⟨os, hos, hcs⟩
  unfold getItem
  try with_reducible refine wpAny_holding ?_
  first | refine wpAny_bind (wpAny_pure ?_) | skip
  refine wpAny_bind (wpAny_sequenceKey ht.typeIs (by decide) ?_)
  refine wpAny_bind (wpAny_callSpecial?_slot (name := Str.ofString "__getitem__") ht.typeIs PyProof.Rows.slot_tuple_getitem
    (wpAny_call_entry PyProof.Rows.slot_tuple_getitem ht.typeIs entry_tuple_getitem ?_ (args_tuple_getitem _ _)))
  show wpAny _ _ (Builtin.Tuple.tupleItemsOf (.ref t) >>= _) _ _ s
  refine wpAny_bind (tupleItemsOf_ ht ?_)
  refine wpAny_bind (wpAny_typeOf hTs ?_)
  rw [if_pos (by decide)]
  refine wpAny_bind (applied_rev hs ?_)
  show wpAny _ _ (if ((((items.size : Nat) : Int) - 1) == 0 && (-1 : Int) == 1 && items.size == items.size) = true then _ else _) _ _ s
  rw [if_neg (by simp), pick_rev]
  first
    | exact wpAny_bind (m := Builtin.Tuple.tupleExact _) (wpAny_newObj_type (wpAny_pure ⟨_, rfl, wpAny_pure h⟩) hz)
    | exact wpAny_bind (m := Builtin.Tuple.tupleExact _) (wpAny_newObj_type (wpAny_bind (wpAny_pure (wpAny_pure ⟨_, rfl, wpAny_pure h⟩))) hz)
    | exact wpAny_bind (wpAny_bind (m := Builtin.Tuple.tupleExact _) (wpAny_newObj_type (wpAny_pure (wpAny_pure ⟨_, rfl, wpAny_pure h⟩)) hz))
    | exact wpAny_bind (wpAny_bind (m := Builtin.Tuple.tupleExact _) (wpAny_newObj_type (wpAny_pure ⟨_, rfl, wpAny_pure h⟩) hz))
end
section
variable {X : Cx} {B : Hp} {M : List Addr} {e a b c : Expr} {es : List Expr} {pos : Pos}
def tRevT (K : PySem.W.Frag) (te : TE) : TE := fun σ H Q => te σ H fun x H1 => ∃ a xs, x = .ref a ∧ SqT K H1 a xs ∧ NewT Q H1 xs.reverse
theorem pe_revT {e : Expr} {te : TE} {k : Nat} {p1 p2 p3 pos : Pos} (he : PE X e te) : PE X (.Subscript e (.Slice none none (some (.UnaryOp .USub (.Constant (.int 1) k p1) p2)) p3) pos) (tRevT X.K te) := by
  refine ⟨fun pins s σ H Q I h => ?_⟩
  refine Subscript_ (thn (he.run pins s σ H _ I h) fun v s1 ⟨x, H1, I1, r1, q1⟩ => ?_)
  obtain ⟨a, xs, ex, hx, q⟩ := q1
  subst ex
  cases r1
  have hst : PO X (some (.UnaryOp .USub (.Constant (.int 1) k p1) p2)) (tPart (tUn (rU fun i => .int (-i)) (tC (.int 1)))) := po_some (pe_un un_neg pe_int)
  refine wpAny_Slice (thn (po_none.run pins s1 σ H1 (fun o H2 => o = none ∧ H2 = H1) I1 ⟨rfl, rfl⟩) fun vl s2 ⟨l, H2, I2, pl, el, e2⟩ => ?_)
  subst el e2
  refine thn (po_none.run pins s2 σ H2 (fun o H3 => o = none ∧ H3 = H2) I2 ⟨rfl, rfl⟩) fun vu s3 ⟨u, H3, I3, pu, eu, e3⟩ => ?_
  subst eu e3
  refine thn (hst.run pins s3 σ H3 (fun o H4 => o = some (-1) ∧ H4 = H3) I3 ⟨1, rfl, -1, rfl, rfl, rfl⟩) fun vs s4 ⟨o, H4, I4, ps, eo, e4⟩ => ?_
  subst eo e4
  have I5 : Inv X pins σ H4 { s4 with heap := s4.heap.push { cls := .type "slice", data := .fields #[vl, vu, vs] } } := I4.kept (t' := s4.toks) fun b ob q => Heap.get?_push_of_some _ q
  obtain ⟨its, r, ht, hz⟩ := I5.tuple hx
  cases pl
  cases pu
  obtain ⟨t1, rfl⟩ : ∃ t1, vs = .int (-1) t1 := by
    cases ps
    exact ⟨_, rfl⟩
  refine tail_any (ops := [.ref a, .ref s4.heap.objs.size]) ht.typeIs (PyProof.Rows.slot_tuple_getitem.lookup) ?_ (by with_unfolding_all rfl)
  refine getItem_rev ht (Heap.IsSliceOf.new _ .none .none (.int (-1) t1)) ?_ (by rw [List.size_toArray, ← r.length]; exact hz)
  exact laid_tupN (k := s4.toks) I5 r.reverse (by rw [List.length_reverse]; exact hz) q
/-- t[::-1] -/
def rRevT (ra : RE) : RE := fun ρ Q => ra ρ fun w ρ1 => ∃ ds, sq ρ1 w = some (true, ds) ∧ Q (.d (.tup ds.reverse)) ρ1
theorem de_revT {ra : RE} {k : Nat} {p1 p2 p3 : Pos} (ha : DE X B M a ra) : DE X B M (.Subscript a (.Slice none none (some (.UnaryOp .USub (.Constant (.int 1) k p1) p2)) p3) pos) (rRevT ra) := by
  refine DE.mk' (pe_revT ha.pe) (fun ρ P P' w q => ha.mo ρ _ _ (fun w1 ρ1 ⟨ds, e, q⟩ => ⟨ds, e, w _ _ q⟩) q) fun σ H Q ρ S q => ?_
  refine into ha S q fun w1 ρ1 v H1 ⟨ds, e, q⟩ k1 o1 S1 r1 => ?_
  obtain ⟨p, vs, rfl, s, rr⟩ := sq_read S1 r1 e
  refine ⟨p, vs, rfl, TpN.sq s, fun o l hd hl => ?_⟩
  have sm := same_upd (o := .frz o (.tup vs.reverse)) hl
  exact q _ _ (k1.trans (Keep.of sm)) o1 (S1.same sm) ⟨l, _, rfl, .inl ⟨o, hd, upd_same⟩, RepL.reverse (RepL.keep (Keep.of sm) ds rr)⟩
end
end N
/-! NK -/
set_option Elab.async false
set_option linter.all false
set_option maxRecDepth 100000
set_option maxHeartbeats 2000000
/-! NK: f(k = v, ..), no positional value, in any order. -/
namespace N
open PySem PySem.Spec PyProof.Rows L2
/-- the values in the parameters' order -/
def pickL {α : Type} (is : List Nat) (l : List α) : List α := is.filterMap (l[·]?)
theorem vals_pick {vs : List V} {us : List Value} (r : Vals vs us) : ∀ is : List Nat, Vals (pickL is vs) (pickL is us)
  | [] => .nil
  | i :: is => by
    unfold pickL
    rw [List.filterMap_cons, List.filterMap_cons]
    have hl := r.length
    cases h : vs[i]? with
    | none =>
      have h2 : us[i]? = none := List.getElem?_eq_none_iff.mpr (by rw [← hl]; exact List.getElem?_eq_none_iff.mp h)
      rw [h2]
      exact vals_pick r is
    | some v =>
      obtain ⟨u, hu, ru⟩ := r.get h
      rw [hu]
      exact .cons ru (vals_pick r is)
theorem woks_get {K : PySem.W.Frag} {H : Hp} {ρ : En} : ∀ {ws : List W} {vs : List V} {i : Nat} {w : W}, WOks K H ρ ws vs → ws[i]? = some w → ∃ v, vs[i]? = some v ∧ WOk K H ρ w v
  | [], _, _, _, _, e => by simp at e
  | w :: ws, vs, 0, w', h, e => by
    obtain ⟨v, vr, rfl, r, _⟩ := h
    cases e
    exact ⟨v, rfl, r⟩
  | w :: ws, vs, i + 1, w', h, e => by
    obtain ⟨v, vr, rfl, _, rr⟩ := h
    obtain ⟨v2, h1, h2⟩ := woks_get (i := i) rr (by simpa using e)
    exact ⟨v2, by simpa using h1, h2⟩
theorem woks_pick {K : PySem.W.Frag} {H : Hp} {ρ : En} {ws : List W} {vs : List V} (r : WOks K H ρ ws vs) : ∀ is : List Nat, WOks K H ρ (pickL is ws) (pickL is vs)
  | [] => rfl
  | i :: is => by
    unfold pickL
    rw [List.filterMap_cons, List.filterMap_cons]
    cases h : ws[i]? with
    | none =>
      have h2 : vs[i]? = none := List.getElem?_eq_none_iff.mpr (by rw [WOks.length r]; exact List.getElem?_eq_none_iff.mp h)
      rw [h2]
      exact woks_pick r is
    | some w =>
      obtain ⟨v, hv, rv⟩ := woks_get r h
      rw [hv]
      exact ⟨v, _, rfl, rv, woks_pick r is⟩
/-- the def of that name, called with keywords ks alone -/
def HasK0 (P : Program) (w : World) (K : PySem.W.Frag) (mg : Str → Option Value) (base : Heap) (x : Str) (k : Nat) (is : List Nat) (ps ks : List Str) (sp : Sp) : Prop :=
  ∃ f fd, mg x = some (.ref f) ∧ PySem.W.keepIn K (.ref f) = true ∧ KBn K fd ps 0 ks (fun _ ws => pickL is ws) (fun _ zs => pickL is zs) ∧ FnOk P w K mg base (L2N.CX P w) k f fd ps sp
section
variable {X : Cx} {B : Hp} {M : List Addr} {e a b c : Expr} {es : List Expr} {pos : Pos}
theorem pe_callN0 {CX : CXT} {k : Nat} {f : Addr} {fd : FuncData} {ps ks : List Str} {sp : Sp} {E : XK} {x : Str} {p pos : Pos} {kws : List Keyword} {tk : TA} {g : List Value → List Value → List Value} {gV : List V → List V → List V}
    (F : FnOk X.prog X.w X.K X.mg X.base CX k f fd ps sp) (hr : Room k X.A) (hg : Gl X x) (hm : X.mg x = some (.ref f)) (hk : PySem.W.keepIn X.K (.ref f) = true) (hb : KBn X.K fd ps 0 ks g gV) (hx : Passes CX X E)
    (hkw : PK X kws tk) (hall : (backToKw pos (keywordEach kws X.env)).all (·.1.isSome) = true := by rfl) (hks : (backToKw pos (keywordEach kws X.env)).filterMap (·.1) = ks := by rfl) (hdb : (x == ("__debug__" : Str)) = false := by decide)
    (hpl : ((backTo pos (starEach [] X.env)).any (·.1) || (backToKw pos (keywordEach kws X.env)).any (·.1.isNone)) = false := by rfl) :
    PE X (.Call (.Name x p) [] kws pos) (fun σ H Q => tk σ H fun zs H2 => zs.length = ks.length ∧ sp (gV [] zs) H2 Q E) := by
  refine ⟨fun pins s σ H Q I h => ?_⟩
  refine wpAny_Call_Name_kw (ld_glob I hg hm ?_ hdb)
  refine PySem.W.callWith_KW0 (h₀ := X.base) I.ok.mod.kin hk hall (thn (hkw.run pos pins s σ H _ I h) fun ws s2 ⟨zs, H2, I2, rz, l2, q2⟩ => ⟨I2.kIn, ?_⟩) hpl
  rw [hks]
  exact run_fnN F hr hb hx I2 .nil rz rfl l2 q2
def rCallK0 (S : FS) (m : Nat) (is : List Nat) (rk : RA) (Xp : Exn → Prop) : RE := fun ρ Q => rk ρ fun zs ρ2 => zs.length = m ∧ ∃ g, pickL is zs = dats (S.args g) ∧ S.pre g ∧ (∀ d, S.post g d → Q (.d d) ρ2) ∧ ∀ x, S.exc g x → Xp x
theorem de_callKX0 {x : Str} {k : Nat} {is : List Nat} {ps ks : List Str} {kws : List Keyword} {S : FS} {rk : RA} {p : Pos} {E : XK} {Xp : Exn → Prop} (G : HasK0 X.prog X.w X.K X.mg X.base x k is ps ks (spF X.K S)) (hr : Room k X.A) (hx : Passes (L2N.CX X.prog X.w) X E)
    (hE : ∀ x cls dx H', Xp x → Frm M B H' → XRep X.K H' x cls dx → E cls dx H') (hk : DK X B M kws rk) (hall : (backToKw pos (keywordEach kws X.env)).all (·.1.isSome) = true := by rfl) (hks : (backToKw pos (keywordEach kws X.env)).filterMap (·.1) = ks := by rfl) (hg : Gl X x := by rfl) (hdb : (x == ("__debug__" : Str)) = false := by decide)
    (hpl : ((backTo pos (starEach [] X.env)).any (·.1) || (backToKw pos (keywordEach kws X.env)).any (·.1.isNone)) = false := by rfl) :
    DE X B M (.Call (.Name x p) [] kws pos) (rCallK0 S ks.length is rk Xp) := by
  obtain ⟨f, fd, hm, hkp, hb, F⟩ := G
  refine DE.mk' (pe_callN0 F hr hg hm hkp hb hx hk.pk hall hks hdb hpl) (fun ρ P P' w q => hk.mo ρ _ _ (fun zs ρ2 ⟨l2, g, e, pre, h1, h2⟩ => ⟨l2, g, e, pre, fun d hd => w _ _ (h1 d hd), h2⟩) q) fun σ H Q ρ Sx q => ?_
  refine ⟨ρ, Sx, hk.mo ρ _ _ (fun zs ρ2 ⟨l2, g, e1, pre, h1, h2⟩ us H2 k2 o2 S2 r2 => ?_) q⟩
  have r12 := woks_pick r2 is
  rw [e1] at r12
  refine ⟨(WOks.length r2).trans l2, g, dats_ok r12, pre, fun d v H' hd fr rv => ?_, fun x cls dx H' hx fr rx => ?_⟩
  · exact h1 d hd v H' (k2.trans fr.keep) o2 (S2.same fr.same) rv
  · exact hE x cls dx H' (h2 x hx) (S2.frm.trans (Frm.of fr.same)) rx
end
section
variable {P : Program} {w : World} {K : PySem.W.Frag} {mg : Str → Option Value} {base : Heap} {x qual : Str} {params : Arguments} {body : List Stmt} {scope : Scope} {f : Addr} {fd : FuncData}
theorem hasK0_of {ps ks : List Str} {k : Nat} {is : List Nat} {sp : Sp} (F : FunD K x qual params body scope [] [] f fd) (gm : mg x = some (.ref f)) (ok : FnOk P w K mg base (L2N.CX P w) k f fd ps sp)
    (h : ∀ (kV doc pm : Value) (an : Option Addr) (cdv ct : Value) (ws : List Value), ws.length = ks.length → bindArgs (PySem.W.fnOf x qual params body scope .none kV doc pm an cdv ct) ⟨[], ks.zip ws⟩ = pure (ps.zip (pickL is ws))) : HasK0 P w K mg base x k is ps ks sp := by
  refine ⟨f, fd, gm, F.kp, ⟨fun s us ws _ l1 l2 => ?_, fun _ r2 => vals_pick r2 is⟩, ok⟩
  obtain rfl : us = [] := List.length_eq_zero_iff.mp l1
  obtain ⟨oc, od, dV, kV, doc, pm, an, cdv, ct, osl, rfl, lk, hcd, hD, hK⟩ := F.ex
  rcases hD with ⟨_, rfl⟩ | ⟨e, _⟩
  · exact .of_eq (h kV doc pm an cdv ct ws l2)
  · exact absurd rfl e
end
end N
/-! NP -/
set_option Elab.async false
set_option linter.all false
set_option maxRecDepth 100000
set_option maxHeartbeats 2000000
/-! NP: all, any, extend, truth, shifts, a module's tuples, index; a list lent at any place of a call. -/
namespace N
open PySem PySem.Spec PyProof.Rows L2
section
variable {X : Cx} {B : Hp} {M : List Addr} {e a b c : Expr} {es : List Expr} {pos : Pos}
/-- all, any of a list of truth values -/
def oBls (f : List Bool → Bool) : OA := fun ws ρ P => ∃ bs : List Bool, sq1 ρ ws = some (false, bs.map D.bl) ∧ P (.bl (f bs))
theorem repL_bls {K : PySem.W.Frag} {H : Hp} {bs : List Bool} {vs : List V} (r : RepL K H (bs.map D.bl) vs) : vs = bs.map V.bl := RepL.bls r
theorem tells_all {K : PySem.W.Frag} : TellsA K (rAll K) (oBls fun bs => bs.all id) := fun B M ρ σ H ws xs Q P S r ⟨bs, e, p⟩ q => by
  obtain ⟨w1, e1, e2⟩ := sq1_el e
  subst e1
  obtain ⟨v, vr, rfl, r1, r2⟩ := r
  obtain rfl : vr = [] := r2
  obtain ⟨a, vs, rfl, s, rr⟩ := sq_read S r1 e2
  have ev := repL_bls rr
  subst ev
  exact ⟨a, bs, rfl, .inl s, q _ _ H p (Same.refl _) rfl⟩
theorem tells_any {K : PySem.W.Frag} : TellsA K (rAny K) (oBls fun bs => bs.any id) := fun B M ρ σ H ws xs Q P S r ⟨bs, e, p⟩ q => by
  obtain ⟨w1, e1, e2⟩ := sq1_el e
  subst e1
  obtain ⟨v, vr, rfl, r1, r2⟩ := r
  obtain rfl : vr = [] := r2
  obtain ⟨a, vs, rfl, s, rr⟩ := sq_read S r1 e2
  have ev := repL_bls rr
  subst ev
  exact ⟨a, bs, rfl, .inl s, q _ _ H p (Same.refl _) rfl⟩
theorem de_all {p : Pos} {ra : RA} (hc : X.calm = true) (hm : X.mg "all" = none) (ha : DA X B M (a :: es) ra) (hg : Gl X "all" := by rfl) (he : starEach (a :: es) X.env = (false, eval a X.env) :: starEach es X.env := by rfl) (hpl : (backTo pos (starEach es X.env)).any (·.1) = false := by rfl) :
    DE X B M (.Call (.Name "all" p) (a :: es) [] pos) (rA ra (oBls fun bs => bs.all id)) :=
  de_callB (cr_all hc) tells_all (fun ws ρ P P' h ⟨ns, e, p⟩ => ⟨ns, e, h _ p⟩) hg hm (by decide +kernel) ha (by decide) (by decide) he hpl
theorem de_any {p : Pos} {ra : RA} (hc : X.calm = true) (hm : X.mg "any" = none) (ha : DA X B M (a :: es) ra) (hg : Gl X "any" := by rfl) (he : starEach (a :: es) X.env = (false, eval a X.env) :: starEach es X.env := by rfl) (hpl : (backTo pos (starEach es X.env)).any (·.1) = false := by rfl) :
    DE X B M (.Call (.Name "any" p) (a :: es) [] pos) (rA ra (oBls fun bs => bs.any id)) :=
  de_callB (cr_any hc) tells_any (fun ws ρ P P' h ⟨ns, e, p⟩ => ⟨ns, e, h _ p⟩) hg hm (by decide +kernel) ha (by decide) (by decide) he hpl
/-- shifts, masks -/
theorem de_shl {ra rb : RE} (ha : DE X B M a ra) (hb : DE X B M b rb) : DE X B M (.BinOp a .LShift b pos) (r2 ra rb (oI CPow fun i j => .int (i * 2 ^ j.toNat))) := de_op op_shl (tells_I fun _ _ _ => rfl) mo_oI ha hb
theorem de_band {ra rb : RE} (ha : DE X B M a ra) (hb : DE X B M b rb) : DE X B M (.BinOp a .BitAnd b pos) (r2 ra rb (oI0 fun i j => .int (Builtin.bitAnd i j))) := de_op op_and (tells_I0 fun _ _ _ => rfl) mo_oI0 ha hb
/-- a chain of two comparisons as a test -/
theorem chain_imp {op op' : CmpOp} {ra rb rc : RE} {f g : Int → Int → Bool} (ha : DE X B M a ra) (hb : DE X B M b rb) (hc : DE X B M c rc) {σ : L2.St} {H : Hp} {Q : VK} (h : tD X.K B M (rChain ra rb rc f g) σ H Q) : tChain (rI0 fun i j => .bl (f i j)) (rI0 fun i j => .bl (g i j)) (tD X.K B M ra) (tD X.K B M rb) (tD X.K B M rc) σ H Q := by
  obtain ⟨ρ, S, q⟩ := h
  refine into ha S q fun w1 ρ1 v1 H1 q1 k1 o1 S1 r1 => ?_
  refine into hb S1 q1 fun w2 ρ2 v2 H2 hh k2 o2 S2 r2 => ?_
  obtain ⟨i, e1, hh⟩ := hh.el
  obtain ⟨j, e2, q2⟩ := hh.el
  subst e1 e2
  refine ⟨i, j, r1, r2, f i j, rfl, ?_⟩
  by_cases h : f i j = true
  · rw [if_pos h] at q2 ⊢
    refine into hc S2 q2 fun w3 ρ3 v3 H3 hh k3 o3 S3 r3 => ?_
    obtain ⟨k, e3, q3⟩ := hh.el
    subst e3
    exact ⟨j, k, r2, r3, q3 _ H3 ((k1.trans k2).trans k3) ((o1.trans o2).trans o3) S3 rfl⟩
  · rw [if_neg h] at q2 ⊢
    exact q2 _ H2 (k1.trans k2) (o1.trans o2) S2 rfl
theorem dt_chain {op op' : CmpOp} {ra rb rc : RE} {f g : Int → Int → Bool} (ho : OpR X (compareOp op) (rI0 fun i j => .bl (f i j))) (ho' : OpR X (compareOp op') (rI0 fun i j => .bl (g i j))) (ha : DE X B M a ra) (hb : DE X B M b rb) (hc : DE X B M c rc)
    (h1 : lastMarks [op, op'] [b, c] = false := by rfl) : DT X B M (.Compare a [op, op'] [b, c] pos) (rTB (rChain ra rb rc f g)) := by
  have hd : DE X B M (.Compare a [op, op'] [b, c] pos) (rChain ra rb rc f g) := de_chain ho ho' ha hb hc h1
  refine ⟨pt_imp (pt_chain ho ho' ha.pe hb.pe hc.pe h1) fun σ H Q ⟨ρ, S, q⟩ => ?_, mo_rTB hd.mo⟩
  exact chain_imp (op := op) (op' := op') ha hb hc (tb_imp hd S q)
/-- what a thing's truth is -/
def trW (ρ : En) : W → Option Bool
  | .d .non => some false
  | .d (.bl b) => some b
  | .d (.int i) => some (i != 0)
  | w => (sq ρ w).map fun x => !x.2.isEmpty
def rTru (ra : RE) : RT := fun ρ Q => ra ρ fun w ρ1 => ∃ b, trW ρ1 w = some b ∧ Q b ρ1
theorem repL_empty {K : PySem.W.Frag} {H : Hp} {ds : List D} {vs : List V} (r : RepL K H ds vs) : vs.isEmpty = ds.isEmpty := by
  have := RepL.length r
  cases ds <;> cases vs <;> simp at this <;> rfl
theorem dt_truth {ra : RE} (ha : DE X B M a ra) (he : ∀ whole, isTrue a X.env whole = (do let v ← whole; standAt a.pos; holding [v] (truthy v)) := by intro _; rfl) : DT X B M a (rTru ra) := by
  refine ⟨pt_imp (pt_truth ha.pe he) fun σ H Q ⟨ρ, S, q⟩ => ?_, fun ρ P P' w q => ha.mo ρ _ _ (fun w1 ρ1 ⟨b, e, q⟩ => ⟨b, e, w _ _ q⟩) q⟩
  refine into ha S q fun w ρ1 v H1 ⟨b, e, q1⟩ k1 o1 S1 r1 => ?_
  refine ⟨b, ?_, q1 H1 k1 o1 S1⟩
  have seq : ∀ {t : Bool} {ds : List D}, sq ρ1 w = some (t, ds) → TruV X.K v H1 (!ds.isEmpty) := fun {t ds} h => by
    obtain ⟨p, vs, rfl, s, rr⟩ := sq_read S1 r1 h
    rw [← repL_empty rr]
    cases t with
    | true => exact .inr (.inl ⟨vs, TpN.sq s, rfl⟩)
    | false => exact .inl ⟨vs, .inl s, rfl⟩
  have hmap : (sq ρ1 w).map (fun x => !x.2.isEmpty) = some b → TruV X.K v H1 b := fun h => by
    obtain ⟨⟨t, ds⟩, h1, h2⟩ := Option.map_eq_some_iff.mp h
    rw [← h2]
    exact seq h1
  cases w with
  | o i => exact hmap e
  | d x =>
    cases x with
    | non =>
      obtain rfl : v = .non := r1
      exact (Option.some.inj e).symm
    | bl k =>
      obtain rfl : v = .bl k := r1
      exact (Option.some.inj e).symm
    | int k =>
      obtain rfl : v = .int k := r1
      exact (Option.some.inj e).symm
    | _ => exact hmap e
/-- a module's constant that is data -/
theorem de_globD {x : Str} {d : D} (hg : Gl X x) (hm : ∃ v u, X.mg x = some u ∧ RelV v u ∧ ∀ H, Rep X.K H d v) (hd : (x == ("__debug__" : Str)) = false := by decide) : DE X B M (.Name x pos) (rC d) := by
  obtain ⟨v, u, h, r, hh⟩ := hm
  exact de_glob hg h r hh hd
/-- f() -/
theorem de_call0 {x : Str} {k : Nat} {S : FS} {p : Pos} (G : Has X.prog X.w X.K X.mg X.base x k [] (spF X.K S)) (hr : Room k X.A) (hg : Gl X x := by rfl) (hdb : (x == ("__debug__" : Str)) = false := by decide) :
    DE X B M (.Call (.Name x p) [] [] pos) (rCall S rNil fun _ => False) := by
  obtain ⟨f, fd, hm, hk, hb, F⟩ := G
  refine DE.mk' (pe_call0 F hr hg hm hk hb .nil passN hdb) (mo_rCall fun ρ P P' h p => h _ _ p) fun σ H Q ρ Sx q => ?_
  obtain ⟨g, e1, pre, h1, h2⟩ := q
  have r : RepL X.K H (S.args g) [] := dats_ok (ρ := ρ) (by rw [← e1]; rfl)
  exact ⟨g, r, pre, fun d v H' hd fr rv => h1 d hd v H' fr.keep (OwnEq.refl _) (Sx.same fr.same) rv, fun x cls dx H' hx fr rx => h2 x hx⟩
/-- xs.extend(ys) of any list -/
theorem rd_list {H : Hp} {s : Shared} {σ : L2.St} {pins : List (Addr × Obj)} {b : Addr} {zs : List V} (I : Inv X pins σ H s) (h : Rd H b (.lst zs)) : zs.length ≤ sizeLine ∧ ∃ (its : List Value) (n : Nat), Vals zs its ∧ s.heap.get? b = some { cls := .type "list", data := .seq its.toArray n } := by
  rcases h with h | ⟨o, h⟩
  · exact I.hok b _ h
  · exact (I.hok b _ h).2
def rExtR : V → List V → Hp → VK → Prop := fun x vs H Q => ∃ l b xs zs, x = .ref l ∧ vs = [.ref b] ∧ H l = some (.lst xs) ∧ Rd H b (.lst zs) ∧ xs.length + zs.length ≤ sizeLine ∧ Q .non (upd H l (.lst (xs ++ zs)))
theorem mt_extendR : MtM X "list.extend" rExtR := by
  intro pins s σ H x vs v us Q I rx rv h
  obtain ⟨l, b, xs, zs, rfl, rfl, hH, hB, hz, q⟩ := h
  cases rx
  obtain ⟨u, rfl, ru⟩ := rv.one
  cases ru
  obtain ⟨z, its, n, r, e⟩ := I.hok l _ hH
  obtain ⟨z2, its2, n2, r2, e2⟩ := rd_list I hB
  have l1 := r.length
  have l2 := r2.length
  have hsz : its.toArray.size + its2.toArray.size ≤ sizeLine := by rw [List.size_toArray, List.size_toArray]; omega
  have hlong : ¬ (!its.toArray.isEmpty && Builtin.List.listTooLong (its.toArray.size + its2.toArray.size)) = true := by
    rw [notLongL hsz, Bool.and_false]
    exact Bool.false_ne_true
  refine call_meets PySem.F.slot_list_extend ⟨_, e, rfl⟩ PySem.F.entry_list_extend (PySem.F.args_list_extend_2 _ _)
    (AutoSeq1.list_extend_list_list_0 l its.toArray n b its2.toArray n2 hlong (by rw [List.size_toArray]; have := line63; omega) (by have := line63; omega)) ⟨e, e2, ?_⟩
  refine ⟨.non, _, I.lset (its' := its ++ its2) hH e (by simp) (r.append r2) ?_, rfl, q⟩
  rw [List.length_append]
  omega
def rExt (i : Nat) (ra : RE) : RE := fun ρ Q => kOwn i (fun _ _ => ra ρ fun w ρ1 => ∃ zs, sq ρ1 w = some (false, zs) ∧ kOwn i (fun p ds => ds.length + zs.length ≤ 16777216 ∧ Q (.d .non) (ρ1.set i (.own p (ds ++ zs)))) ρ1) ρ
theorem de_extend {y : Str} {i : Nat} {py apos : Pos} {ra : RE} (hy : DE X B M (.Name y py) (rVar i)) (ha : DE X B M a ra)
    (hbase : attributeBase (.Name y py) "extend" X.env (eval (.Name y py) X.env) = eval (.Name y py) X.env := by rfl)
    (hfew : ((backTo pos (starEach [a] X.env)).all (fun x => !x.1) && (backToKw pos (keywordEach [] X.env)).all (fun x => x.1.isSome)
      && decide ([a].length + ([] : List Keyword).length + (if ([] : List Keyword).isEmpty then 0 else 1) < 30)) = true := by rfl)
    (hline : (apos.endLine == pos.line) = true := by rfl) (hs : starEach [a] X.env = (false, eval a X.env) :: starEach [] X.env := by rfl) (hplain : (backTo pos (starEach [] X.env)).any (·.1) = false := by rfl) :
    DE X B M (.Call (.Attribute (.Name y py) "extend" apos) [a] [] pos) (rExt i ra) := by
  refine DE.mk' (pe_bm PySem.F.plainAttrs_list PySem.F.slot_list_extend PySem.F.type_list_extend mt_extendR hy.pe (pa_cons ha.pe pa_nil hs) hbase hfew hline hs hplain) (fun ρ P P' w q => q.imp fun _ _ q => ha.mo ρ _ _ (fun w1 ρ1 ⟨zs, e, q⟩ => ⟨zs, e, q.imp fun p ds ⟨hl, q⟩ => ⟨hl, w _ _ q⟩⟩) q) fun σ H Q ρ S hh => ?_
  obtain ⟨p0, s0, e0, q⟩ := hh.el
  refine own_read hy S e0 fun v H1 k1 S1 ev => ?_
  subst ev
  obtain ⟨vs0, hp0, _⟩ := S1.own_at e0
  refine ⟨tyV_own hp0, ?_⟩
  refine into ha S1 q fun w1 ρ1 v H2 ⟨zs, e1, hh⟩ k2 o2 S2 r2 => ?_
  obtain ⟨p, ds, e2, hl, q2⟩ := hh.el
  obtain ⟨s', e3⟩ := o2 i p0 s0 e0
  rw [e2] at e3
  cases e3
  obtain ⟨vs, hp, rr⟩ := S2.own_at e2
  obtain ⟨a', us, rfl, s, rz⟩ := sq_read S2 r2 e1
  refine ⟨p0, a', vs, us, rfl, rfl, hp, s, by rw [RepL.length rr, RepL.length rz, sizeLine_eq]; exact hl, ?_⟩
  exact q2 _ _ ((k1.trans k2).trans (Sta.keep_mut (i := i) hp)) (o2.trans (own_mut e2)) (S2.mut e2 hp (RepL.append rr rz)) rfl
/-- l.index(x), items data -/
def rIdx (ro ra : RE) : RE := fun ρ Q => ro ρ fun w ρ1 => (∃ ds, sq ρ1 w = some (false, ds)) ∧ ra ρ1 fun w2 ρ2 => ∃ (ds : List PyData) (d : PyData) (j : Nat) (z : PyData), pdW ρ2 w = some (.list ds) ∧ pdW ρ2 w2 = some d ∧ SeqAt.shaped (.list ds) = true ∧ SeqAt.shaped d = true ∧ ds[j]? = some z ∧ PyData.eqv z d = true ∧ (∀ (m : Nat) (z' : PyData), m < j → ds[m]? = some z' → PyData.eqv z' d = false) ∧ Q (.d (.int (j : Nat))) ρ2
theorem de_index {k : Nat} (hr : Room k X.A) {o : Expr} {apos : Pos} {ro ra : RE} (ho : DE X B M o ro) (ha : DE X B M a ra)
    (hbase : attributeBase o "index" X.env (eval o X.env) = eval o X.env := by rfl)
    (hfew : ((backTo pos (starEach [a] X.env)).all (fun x => !x.1) && (backToKw pos (keywordEach [] X.env)).all (fun x => x.1.isSome)
      && decide ([a].length + ([] : List Keyword).length + (if ([] : List Keyword).isEmpty then 0 else 1) < 30)) = true := by rfl)
    (hline : (apos.endLine == pos.line) = true := by rfl) (hs : starEach [a] X.env = (false, eval a X.env) :: starEach [] X.env := by rfl) (hplain : (backTo pos (starEach [] X.env)).any (·.1) = false := by rfl) :
    DE X B M (.Call (.Attribute o "index" apos) [a] [] pos) (rIdx ro ra) := by
  refine DE.mk' (pe_bm PySem.F.plainAttrs_list PySem.F.slot_list_index PySem.F.type_list_index (mt_indexD (by have := hr.un; omega)) ho.pe (pa_cons ha.pe pa_nil hs) hbase hfew hline hs hplain)
    (fun ρ P P' w q => ho.mo ρ _ _ (fun w1 ρ1 ⟨h, q⟩ => ⟨h, ha.mo ρ1 _ _ (fun w2 ρ2 ⟨ds, d, j, z, h1, h2, h3, h4, h5, h6, h7, q⟩ => ⟨ds, d, j, z, h1, h2, h3, h4, h5, h6, h7, w _ _ q⟩) q⟩) q) fun σ H Q ρ S q => ?_
  refine into ho S q fun w ρ1 v H1 ⟨⟨ds, e0⟩, q⟩ k1 o1 S1 r1 => ?_
  obtain ⟨p0, vs0, rfl, s0, _⟩ := sq_read S1 r1 e0
  refine ⟨.inl ⟨rfl, vs0, .inl s0⟩, into ha S1 q fun w2 ρ2 v2 H2 ⟨ps, d, j, z, h1, h2, h3, h4, h5, h6, h7, q⟩ k2 o2 S2 r2 => ?_⟩
  exact ⟨p0, v2, d, ps, j, z, rfl, rfl, dpW_of S2 (WOk.keep k2 o2 r1) h1, dpW_of S2 r2 h2, h3, h4, h5, h6, h7, q _ H2 (k1.trans k2) (o1.trans o2) S2 rfl⟩
end
/-! ### a list lent -/
mutual
/-- no list in it -/
def nol : D → Bool
  | .lst _ => false
  | .tup ds => nolL ds
  | .ins _ _ ds => nolL ds
  | .non => true
  | .bl _ => true
  | .int _ => true
  | .str _ => true
  | .dic _ => true
  | .obj _ => true
  | .ty _ => true
def nolL : List D → Bool
  | [] => true
  | d :: ds => nol d && nolL ds
end
section
variable {K : PySem.W.Frag} {H : Hp} {p : Addr} {o : Obj} {xs : List V}
mutual
theorem Rep.thaw (hp : H p = some (.frz o (.lst xs))) : ∀ (d : D) {v : V}, nol d = true → Rep K H d v → Rep K (upd H p (.lst xs)) d v
  | .non, _, _, h => h
  | .bl _, _, _, h => h
  | .int _, _, _, h => h
  | .str _, _, _, h => h
  | .obj _, _, _, h => h
  | .ty _, _, _, h => h
  | .lst _, _, n, _ => by cases n
  | .dic kvs, _, _, h => by
    obtain ⟨a, rfl, ob, hc, ha⟩ := h
    refine ⟨a, rfl, ob, hc, ?_⟩
    rw [upd_ne (fun z => by rw [z, hp] at ha; cases ha)]
    exact ha
  | .tup ds, _, n, h => by
    obtain ⟨a, vs, rfl, t, r⟩ := h
    refine ⟨a, vs, rfl, ?_, RepL.thaw hp ds n r⟩
    rcases t with ⟨ob, hd, ha⟩ | t
    · refine .inl ⟨ob, hd, ?_⟩
      rw [upd_ne (fun z => by rw [z, hp] at ha; cases ha)]
      exact ha
    · exact .inr t
  | .ins C ns ds, _, n, h => by
    obtain ⟨a, dx, fs, rfl, ha, e, r⟩ := h
    refine ⟨a, dx, fs, rfl, ?_, e, RepL.thaw hp ds n r⟩
    rw [upd_ne (fun z => by rw [z, hp] at ha; cases ha)]
    exact ha
theorem RepL.thaw (hp : H p = some (.frz o (.lst xs))) : ∀ (ds : List D) {vs : List V}, nolL ds = true → RepL K H ds vs → RepL K (upd H p (.lst xs)) ds vs
  | [], _, _, h => h
  | d :: ds, _, n, h => by
    obtain ⟨v, vr, e, r, rr⟩ := h
    obtain ⟨n1, n2⟩ := Bool.and_eq_true_iff.mp (show (nol d && nolL ds) = true from n)
    exact ⟨v, vr, e, Rep.thaw hp d n1 r, RepL.thaw hp ds n2 rr⟩
end
/-- the promise of a def that only reads, one list among its arguments lent -/
def spLd (K : PySem.W.Frag) (S : FS) : Sp := fun vs H Q _ => ∃ g p xs, H p = some (.lst xs) ∧ (∀ o : Obj, o.cls = .type "list" → RepL K (upd H p (.frz o (.lst xs))) (S.args g) vs) ∧ S.pre g ∧ (∀ d, S.post g d → nol d = true) ∧ (∀ x, ¬ S.exc g x) ∧
  ∀ d v H', S.post g d → Frm [] H H' → Rep K H' d v → Q v H'
theorem fn_lend {P : Program} {w : World} {mg : Str → Option Value} {base : Heap} {k : Nat} {f : Addr} {fd : FuncData} {ps : List Str} {S : FS} (F : FnOk P w K mg base (L2N.CX P w) k f fd ps (spF K S)) : FnOk P w K mg base (L2N.CX P w) k f fd ps (spLd K S) := by
  refine ⟨fun vs H Q E ⟨g, p, xs, hp, rep, pre, nl, nx, q⟩ => F.len vs _ (fun _ _ => True) (fun _ _ _ => True) ⟨g, rep { cls := .type "list", data := .seq #[] 0 } rfl, pre, fun _ _ _ _ _ _ => trivial, fun _ _ _ _ _ _ _ => trivial⟩, ?_⟩
  intro A outer s H args us vs Q E hr he hb hv ⟨g, p, xs, hp, rep, pre, nl, nx, q⟩
  obtain ⟨z, its, n, r, e⟩ := he.hok p _ hp
  have nn : ∀ b, H b = none → b ≠ p := fun b h w => by rw [w, hp] at h; cases h
  have ne : ∀ b u, H b = some u → (∀ ys, u ≠ .lst ys) → b ≠ p := fun b u h nu w => by
    rw [w, hp] at h
    cases h
    exact nu xs rfl
  obtain ⟨ob, hob⟩ : ∃ ob : Obj, ob = { cls := .type "list", data := .seq its.toArray n } := ⟨_, rfl⟩
  have e2 : s.heap.get? p = some ob := by rw [hob]; exact e
  have hok1 : HOk P w (upd H p (.frz ob (.lst xs))) s.heap := fun b u h => by
    by_cases hbp : b = p
    · rw [hbp, upd_same] at h
      cases h
      rw [hbp]
      exact ⟨e2, z, its, n, r, e⟩
    · rw [upd_ne hbp] at h
      exact (he.hok b u h).stay (fun _ _ _ w => w) (fun c w => by rw [upd_ne (ne c _ w (fun _ w2 => by cases w2))]; exact w) fun c ys w => by rw [upd_ne (ne c _ w (fun _ w2 => by cases w2))]; exact w
  have he1 : Env0 P w K mg base A outer s (upd H p (.frz ob (.lst xs))) :=
    ⟨he.frames, he.mod, fun b o h => ⟨(he.bs b o h).1, by rw [upd_ne (nn b (he.bs b o h).2)]; exact (he.bs b o h).2⟩, he.bsz, he.funs, fun b hb => by rw [upd_ne (nn b (he.frf b hb))]; exact he.frf b hb, hok1, he.bare⟩
  have thawF : ∀ {H' : Hp}, Frm [] (upd H p (.frz ob (.lst xs))) H' → Frm [] H (upd H' p (.lst xs)) := fun {H'} fr b o h im => by
    by_cases hbp : b = p
    · rw [hbp, upd_same]
      rw [hbp, hp] at h
      exact h
    · rw [upd_ne hbp]
      exact fr b o (by rw [upd_ne hbp]; exact h) (.inr (by simp))
  have run := F.run A outer s (upd H p (.frz ob (.lst xs))) args us vs (fun v H' => Q v (upd H' p (.lst xs))) (fun _ _ _ => False) hr he1 hb hv
    ⟨g, rep ob (by rw [hob]), pre, fun d v H' hd fr rv => q d v _ hd (thawF fr) (Rep.thaw (fr p _ upd_same (.inr (by simp))) d (nl d hd) rv), fun x _ _ _ hx _ _ => nx x hx⟩
  refine codeAny_mono run fun rs s' hq => ?_
  cases rs with
  | error u =>
    obtain ⟨_, _, _, _, _, _, _, _, _, _, _, _, z⟩ := hq
    exact z.elim
  | ok fl =>
    cases fl with
    | ret u =>
      obtain ⟨v, H', os, bare, un, hok', rv, qv⟩ := hq
      have hp' : H' p = some (.frz ob (.lst xs)) := un.frzs p _ _ upd_same
      have ne' : ∀ b u, H' b = some u → (∀ o v, u ≠ .frz o v) → b ≠ p := fun b u h nu w => by
        rw [w, hp'] at h
        cases h
        exact nu _ _ rfl
      refine ⟨v, upd H' p (.lst xs), os, bare, ?_, fun b u h => ?_, rv, qv⟩
      · refine ⟨fun b o h hn => un.keep b o h (by rw [upd_ne (nn b hn)]; exact hn), fun b o h hn => un.slot b o h (by rw [upd_ne (nn b hn)]; exact hn), fun b o h hn hx => ?_, un.there, fun b ys h => ?_, fun b o u h => ?_, fun b tb h => ?_⟩
        · rw [upd_ne (nn b hn)]
          exact un.free b o h (by rw [upd_ne (nn b hn)]; exact hn) hx
        · have hb' := ne b _ h (fun _ w2 => by cases w2)
          rw [upd_ne hb']
          exact un.tups b ys (by rw [upd_ne hb']; exact h)
        · have hb' := ne b _ h (fun _ w2 => by cases w2)
          rw [upd_ne hb']
          exact un.frzs b o u (by rw [upd_ne hb']; exact h)
        · have hb' := ne b _ h (fun _ w2 => by cases w2)
          rw [upd_ne hb']
          exact un.tbls b tb (by rw [upd_ne hb']; exact h)
      · by_cases hbp : b = p
        · rw [hbp, upd_same] at h
          cases h
          rw [hbp]
          exact (hok' p _ hp').2
        · rw [upd_ne hbp] at h
          exact (hok' b u h).stay (fun _ _ _ w => w) (fun c w => by rw [upd_ne (ne' c _ w (fun _ _ w2 => by cases w2))]; exact w) fun c ys w => by rw [upd_ne (ne' c _ w (fun _ _ w2 => by cases w2))]; exact w
    | next => exact hq
    | brk => exact hq
    | cont => exact hq
end
end N
/-! NQ -/
set_option Elab.async false
set_option linter.all false
set_option maxRecDepth 100000
set_option maxHeartbeats 2000000
/-! NQ: calls that lend a list; a comprehension of two clauses. -/
namespace N
open PySem PySem.Spec PyProof.Rows L2
def lendW (i : Nat) (ds : List D) : W → Option D
  | .d x => some x
  | .o j => if j = i then some (.lst ds) else none
def lendL (i : Nat) (ds : List D) : List W → Option (List D)
  | [] => some []
  | w :: ws => match lendW i ds w, lendL i ds ws with
    | some a, some r => some (a :: r)
    | _, _ => none
theorem lend_ok {K : PySem.W.Frag} {H : Hp} {ρ : En} {i : Nat} {p : Addr} {ds : List D} {xs : List V} (e : ρ[i]? = some (.own p ds)) (hp : H p = some (.lst xs)) (rr : RepL K H ds xs) {o : Obj} : ∀ {ws : List W} {vs : List V} {as : List D}, WOks K H ρ ws vs → lendL i ds ws = some as → RepL K (upd H p (.frz o (.lst xs))) as vs
  | [], vs, as, r, h => by
    cases h
    exact r
  | w :: ws, vs, as, r, h => by
    obtain ⟨v, vr, rfl, r1, r2⟩ := r
    have kk : Keep H (upd H p (.frz o (.lst xs))) := fun b u hb im => by
      rw [upd_ne (fun z => by rw [z, hp] at hb; cases hb; exact im)]
      exact hb
    cases hw : lendW i ds w with
    | none =>
      have h2 : (match lendW i ds w, lendL i ds ws with
        | some a, some r => some (a :: r)
        | _, _ => none) = some as := h
      rw [hw] at h2
      cases h2
    | some a =>
      cases hs : lendL i ds ws with
      | none =>
        have h2 : (match lendW i ds w, lendL i ds ws with
          | some a, some r => some (a :: r)
          | _, _ => none) = some as := h
        rw [hw, hs] at h2
        cases h2
      | some ar =>
        have h2 : (match lendW i ds w, lendL i ds ws with
          | some a, some r => some (a :: r)
          | _, _ => none) = some as := h
        rw [hw, hs] at h2
        cases h2
        refine ⟨v, vr, rfl, ?_, lend_ok e hp rr r2 hs⟩
        cases w with
        | d x =>
          cases hw
          exact Rep.keep kk _ r1
        | o j =>
          have hw : (if j = i then some (D.lst ds) else none) = some a := hw
          split at hw
          · rename_i hj
            cases hw
            subst hj
            obtain ⟨p', ds', e', rfl⟩ := r1
            rw [e] at e'
            cases e'
            exact ⟨p, xs, rfl, ⟨o, upd_same⟩, RepL.keep kk ds rr⟩
          · cases hw
section
variable {X : Cx} {B : Hp} {M : List Addr} {e a b c : Expr} {es : List Expr} {pos : Pos}
def rCallLd (i : Nat) (S : FS) (ra : RA) : RE := fun ρ Q => ra ρ fun ws ρ1 => kOwn i (fun _ ds => ∃ g, lendL i ds ws = some (S.args g) ∧ S.pre g ∧ (∀ x, ¬ S.exc g x) ∧ ∀ d, S.post g d → nol d = true ∧ Q (.d d) ρ1) ρ1
theorem de_callLd {i : Nat} {x : Str} {k : Nat} {ps : List Str} {S : FS} {ra : RA} {p : Pos} (G : Has X.prog X.w X.K X.mg X.base x k ps (spF X.K S)) (hr : Room k X.A) (ha : DA X B M (a :: es) ra) (hg : Gl X x := by rfl) (hdb : (x == ("__debug__" : Str)) = false := by decide) (he : starEach (a :: es) X.env = (false, eval a X.env) :: starEach es X.env := by rfl) (hpl : (backTo pos (starEach es X.env)).any (·.1) = false := by rfl) :
    DE X B M (.Call (.Name x p) (a :: es) [] pos) (rCallLd i S ra) := by
  obtain ⟨f, fd, hm, hk, hb, F⟩ := G
  refine DE.mk' (pe_call (fn_lend F) hr hg hm hk hb .nil passN ha.pa hdb he hpl) (fun ρ P P' w q => ha.mo ρ _ _ (fun ws ρ1 q => q.imp fun p ds ⟨g, e, pre, nx, h⟩ => ⟨g, e, pre, nx, fun d hd => ⟨(h d hd).1, w _ _ (h d hd).2⟩⟩) q) fun σ H Q ρ Sx q => ?_
  refine intoA ha Sx q fun ws ρ1 vs H1 hh k1 o1 S1 r1 => ?_
  obtain ⟨p1, ds, e1, g, eg, pre, nx, h1⟩ := hh.el
  obtain ⟨xs, hp, rr⟩ := S1.own_at e1
  rw [List.append_nil]
  exact ⟨g, p1, xs, hp, fun o _ => lend_ok e1 hp rr r1 eg, pre, fun d hd => (h1 d hd).1, nx, fun d v H' hd fr rv => (h1 d hd).2 v H' (k1.trans fr.keep) o1 (S1.same fr.same) rv⟩
def rCallKLd (i : Nat) (S : FS) (n m : Nat) (ra rk : RA) : RE := fun ρ Q => ra ρ fun ws ρ1 => rk ρ1 fun zs ρ2 => ws.length = n ∧ zs.length = m ∧ kOwn i (fun _ ds => ∃ g, lendL i ds (ws ++ zs) = some (S.args g) ∧ S.pre g ∧ (∀ x, ¬ S.exc g x) ∧ ∀ d, S.post g d → nol d = true ∧ Q (.d d) ρ2) ρ2
def rCallK0Ld (i : Nat) (S : FS) (m : Nat) (is : List Nat) (rk : RA) : RE := fun ρ Q => rk ρ fun zs ρ2 => zs.length = m ∧ kOwn i (fun _ ds => ∃ g, lendL i ds (pickL is zs) = some (S.args g) ∧ S.pre g ∧ (∀ x, ¬ S.exc g x) ∧ ∀ d, S.post g d → nol d = true ∧ Q (.d d) ρ2) ρ2
theorem de_callK0Ld {i : Nat} {x : Str} {k : Nat} {is : List Nat} {ps ks : List Str} {kws : List Keyword} {S : FS} {rk : RA} {p : Pos} (G : HasK0 X.prog X.w X.K X.mg X.base x k is ps ks (spF X.K S)) (hr : Room k X.A)
    (hk : DK X B M kws rk) (hall : (backToKw pos (keywordEach kws X.env)).all (·.1.isSome) = true := by rfl) (hks : (backToKw pos (keywordEach kws X.env)).filterMap (·.1) = ks := by rfl) (hg : Gl X x := by rfl) (hdb : (x == ("__debug__" : Str)) = false := by decide)
    (hpl : ((backTo pos (starEach [] X.env)).any (·.1) || (backToKw pos (keywordEach kws X.env)).any (·.1.isNone)) = false := by rfl) :
    DE X B M (.Call (.Name x p) [] kws pos) (rCallK0Ld i S ks.length is rk) := by
  obtain ⟨f, fd, hm, hkp, hb, F⟩ := G
  refine DE.mk' (pe_callN0 (fn_lend F) hr hg hm hkp hb passN hk.pk hall hks hdb hpl) (fun ρ P P' w q => hk.mo ρ _ _ (fun zs ρ2 ⟨l2, q⟩ => ⟨l2, q.imp fun p ds ⟨g, e, pre, nx, h⟩ => ⟨g, e, pre, nx, fun d hd => ⟨(h d hd).1, w _ _ (h d hd).2⟩⟩⟩) q) fun σ H Q ρ Sx q => ?_
  refine ⟨ρ, Sx, hk.mo ρ _ _ (fun zs ρ2 ⟨l2, hh⟩ us H2 k2 o2 S2 r2 => ?_) q⟩
  obtain ⟨p1, ds, e1, g, eg, pre, nx, h1⟩ := hh.el
  obtain ⟨xs, hp, rr⟩ := S2.own_at e1
  have r12 := woks_pick r2 is
  exact ⟨(WOks.length r2).trans l2, g, p1, xs, hp, fun o _ => lend_ok e1 hp rr r12 eg, pre, fun d hd => (h1 d hd).1, nx, fun d v H' hd fr rv => (h1 d hd).2 v H' (k2.trans fr.keep) o2 (S2.same fr.same) rv⟩
/-- a comprehension within a comprehension -/
def relabS (scope sc : Scope) : Scope := relabel scope { scope := sc, locals := 0, globals := 0, cells := [] }
theorem blkOk_in {X : Cx} {s : Shared} {H : Hp} {scope sc2 sc0 : Scope} {cl : List (Str × Addr)} {C : Addr} {env : Env} {fp : List Addr} {NN : List Str} {own : List (Str × Nat)} (h : blkC NN (relabS scope sc0) sc2 own = true) (he : env.scope = sc0 := by rfl) : BlkOk NN (X.blk s H scope (compEnvC scope cl C env) fp).env.scope sc2 own := by
  subst he
  exact blkOk_by h
/-! ### two clauses -/
/-- as Walks, over any base -/
structure WalksA (K : PySem.W.Frag) (H1 : Hp) (J : It) (n : Nat) (it : Nat → D → Prop) (ok : En → Prop) : Prop where
  go : ∀ B M k ρ σ H, Keep H1 H → Sta K B M ρ σ H → ok ρ → k < n → J.go k H
  yld : ∀ B M k ρ σ H x H', Keep H1 H → Sta K B M ρ σ H → ok ρ → k < n → J.yld k H x H' → Same H H' ∧ ∃ d, it k d ∧ Rep K H' d x
  stop : ∀ B M ρ σ H, Keep H1 H → Sta K B M ρ σ H → ok ρ → J.stop n H
structure DIA (X : Cx) (B : Hp) (M : List Addr) (tg iter : Expr) (ri : RI) : Prop where
  pi : PI X tg iter (fun σ H R => ∃ ρ, Sta X.K B M ρ σ H ∧ ri ρ fun n it ok ρ1 => ∀ J H1, Keep H H1 → OwnEq ρ ρ1 → Sta X.K B M ρ1 σ H1 → WalksA X.K H1 J n it ok → R J H1)
  mo : MonoI ri
theorem walksA_of {K : PySem.W.Frag} {H1 : Hp} {a : Addr} {n : Nat} {ds : List D} {ok : En → Prop} {t : Bool} (hn : n = ds.length)
    (h : ∀ B M ρ σ H, Keep H1 H → Sta K B M ρ σ H → ok ρ → ∃ vs, SqV K H t a vs ∧ RepL K H ds vs) : WalksA K H1 (itOf K t a) n (fun k d => ds[k]? = some d) ok := by
  have w := fun B M => walks_of (B := B) (M := M) hn (h B M)
  exact ⟨fun B M => (w B M).go, fun B M => (w B M).yld, fun B M => (w B M).stop⟩
theorem dia_seq {tg : Expr} {r : RE} (h : DE X B M e r) : DIA X B M tg e (iSq r) := by
  refine ⟨pi_imp (pi_seq h.pe) fun σ H R ⟨ρ, S, q⟩ => ?_, fun ρ P P' w p => h.mo ρ _ _ (fun w1 ρ1 q1 => q1.imp fun ds p1 => w _ _ _ _ p1) p⟩
  refine into h S q fun w ρ1 v H1 hh k1 o1 S1 r1 => ?_
  obtain ⟨t, ds, e1, q1⟩ := hh.el
  obtain ⟨a, vs, rfl, s, rr⟩ := sq_read S1 r1 e1
  have wk := walksA_of (K := X.K) (H1 := H1) (a := a) (n := ds.length) (ds := ds) (t := t) (ok := okW ρ1 ds w) rfl fun B2 M2 ρ2 σ2 H2 kk S2 ok2 => by
      cases w with
      | o i =>
        obtain ⟨p, e2, e3⟩ := ok2
        obtain ⟨p', fs, e4, ev⟩ := r1
        rw [e2] at e4
        cases e4
        cases ev
        have h2 : (match ρ1[i]? with
          | some (.own _ ds) => some (false, ds)
          | _ => none) = some (t, ds) := e1
        rw [e2] at h2
        cases h2
        obtain ⟨us, hu, ru⟩ := S2.own_at e3
        exact ⟨us, .inl hu, ru⟩
      | d x =>
        refine ⟨vs, ?_, RepL.keep kk ds rr⟩
        cases x with
        | tup es =>
          cases e1
          exact TpN.keep kk s
        | lst es =>
          cases e1
          obtain ⟨a', vs', ea, hz, _⟩ := r1
          cases ea
          obtain ⟨o, ho⟩ := hz
          have h1 : Rd H1 a (.lst vs) := s
          rcases h1 with h1 | ⟨o', h1⟩
          · rw [h1] at ho
            cases ho
          · exact .inr ⟨o', kk _ _ h1 trivial⟩
        | _ => cases e1
  have := q1 _ H1 k1 o1 S1 wk
  refine ⟨a, rfl, ?_⟩
  cases t with
  | true => exact .inr ⟨⟨vs, TpN.sq s⟩, this⟩
  | false => exact .inl ⟨⟨vs, .inl s⟩, this⟩
theorem walksA_rg {K : PySem.W.Frag} {H1 : Hp} {lo : Int} {n : Nat} : WalksA K H1 (Itr lo n) n (fun k d => d = .int (lo + k)) (fun _ => True) :=
  ⟨fun B M => (walks_rg (B := B) (M := M)).go, fun B M => (walks_rg (B := B) (M := M)).yld, fun B M => (walks_rg (B := B) (M := M)).stop⟩
theorem dia_range1 {tg : Expr} {p : Pos} {ra : RA} (hm : X.mg "range" = none) (ha : DA X B M [a] ra) (hg : Gl X "range" := by rfl) (hs : starEach [a] X.env = [(false, eval a X.env)] := by rfl) : DIA X B M tg (.Call (.Name "range" p) [a] [] pos) (iRg ra rg1) := by
  refine ⟨pi_imp (pi_range1 hg hm ha.pa hs) fun σ H R ⟨ρ, S, q⟩ => ?_, fun ρ P P' w p => ha.mo ρ _ _ (fun ws ρ1 q => q.imp fun lo hi ⟨h1, h2, h3, h4, q⟩ => ⟨h1, h2, h3, h4, w _ _ _ _ q⟩) p⟩
  refine intoA ha S q fun ws ρ1 vs H1 hh k1 o1 S1 r1 => ?_
  obtain ⟨lo, hi, e, h1, h2, h3, h4, q1⟩ := hh.el
  unfold rg1 at e
  split at e
  · cases e
    obtain ⟨v, vr, rfl, r1, r2⟩ := r1
    obtain rfl : vr = [] := r2
    obtain rfl : v = _ := r1
    refine ⟨_, rfl, h3, h4, ?_⟩
    have := q1 (Itr 0 (hi - 0).toNat) H1 k1 o1 S1 walksA_rg
    rw [Int.sub_zero] at this
    exact this
  · cases e
theorem dia_range2 {tg b : Expr} {p : Pos} {ra : RA} (hm : X.mg "range" = none) (ha : DA X B M [a, b] ra) (hg : Gl X "range" := by rfl) (hs : starEach [a, b] X.env = [(false, eval a X.env), (false, eval b X.env)] := by rfl) (hs2 : starEach [b] X.env = [(false, eval b X.env)] := by rfl) : DIA X B M tg (.Call (.Name "range" p) [a, b] [] pos) (iRg ra rg2) := by
  refine ⟨pi_imp (pi_range2 hg hm ha.pa hs hs2) fun σ H R ⟨ρ, S, q⟩ => ?_, fun ρ P P' w p => ha.mo ρ _ _ (fun ws ρ1 q => q.imp fun lo hi ⟨h1, h2, h3, h4, q⟩ => ⟨h1, h2, h3, h4, w _ _ _ _ q⟩) p⟩
  refine intoA ha S q fun ws ρ1 vs H1 hh k1 o1 S1 r1 => ?_
  obtain ⟨lo, hi, e, h1, h2, h3, h4, q1⟩ := hh.el
  unfold rg2 at e
  split at e
  · cases e
    obtain ⟨v, vr, rfl, r1, v2, vr2, rfl, r2, r3⟩ := r1
    obtain rfl : vr2 = [] := r3
    obtain rfl : v = _ := r1
    obtain rfl : v2 = _ := r2
    exact ⟨_, _, rfl, ⟨h1, h2, h3, h4⟩, q1 (Itr lo (hi - lo).toNat) H1 k1 o1 S1 walksA_rg⟩
  · cases e
def rLc22 (i i2 : Nat) (ri : RI) (rt : RT) (ri2 : RI) (rt2 : RT) (re : RE) : RN := fun ρ Q => ri ρ fun n it ok ρ1 => ∃ I : Nat → List D → En → Prop, I 0 [] (clr i i2 ρ1) ∧ (∀ k acc ρ2, k ≤ n → I k acc ρ2 → ok ρ2) ∧
  (∀ k d acc ρ2, k < n → it k d → I k acc ρ2 → rt (ρ2.set i (.v d)) fun b ρ3 => if b = true then ri2 ρ3 (fun n2 it2 ok2 ρ4 => ∃ J : Nat → List D → En → Prop, J 0 acc (ρ4.set i2 .un) ∧ (∀ j acc2 ρ5, j ≤ n2 → J j acc2 ρ5 → ok2 ρ5) ∧
    (∀ j d2 acc2 ρ5, j < n2 → it2 j d2 → J j acc2 ρ5 → rt2 (ρ5.set i2 (.v d2)) fun b2 ρ6 => if b2 = true then re ρ6 (kD fun x ρ7 => acc2.length < 16777216 ∧ J (j + 1) (acc2 ++ [x]) (ρ7.set i2 .un)) else J (j + 1) acc2 (ρ6.set i2 .un)) ∧
    (∀ acc2 ρ5, J n2 acc2 ρ5 → I (k + 1) acc2 (clr i i2 ρ5))) else I (k + 1) acc (clr i i2 ρ3)) ∧
  (∀ acc ρ2, I n acc ρ2 → Q acc ρ2)
theorem sta_clr {K : PySem.W.Frag} {i i2 : Nat} {ρ4 : En} {τ τ' : L2.St} {H4 : Hp} (S : Sta K B M ρ4 τ H4) (hl : τ'.length = τ.length) (hh : ∀ j, j ≠ i → j ≠ i2 → τ'[j]? = τ[j]?) : Sta K B M (clr i i2 ρ4) τ' H4 := by
  have S1 := S.forget (σ' := τ.set i none) i (List.length_set ..) (fun j hj => List.getElem?_set_ne (Ne.symm hj))
  refine ⟨S1.frm, fun k s ek => ?_, fun k l q q' fs gs ek el => S1.dis k l q q' fs gs (clr_own ek) (clr_own el), fun k q fs ek => S1.new k q fs (clr_own ek), S1.mh, fun k P q h => by rw [hl]; exact S.tbi k P q (clr_tab h)⟩
  by_cases hk : k = i2
  · have := clr_un (i := i) (i2 := i2) (.inr hk) ek
    rw [this]
    exact trivial
  · by_cases hk1 : k = i
    · have := clr_un (i := i) (i2 := i2) (.inl hk1) ek
      rw [this]
      exact trivial
    · unfold clr at ek
      rw [List.getElem?_set_ne (Ne.symm hk), List.getElem?_set_ne (Ne.symm hk1)] at ek
      rw [hh k hk1 hk]
      exact S.ok k s ek
/-- the list under construction stands, whatever a part does -/
theorem part_left {K : PySem.W.Frag} {ρ ρ' : En} {σ : L2.St} {H H' : Hp} {A : Addr} {vs : List V} {acc : List D} (S : Sta K B M ρ σ H) (hA : H A = some (.lst vs)) (rA : RepL K H acc vs) (nM : A ∉ M) (nO : ∀ (j : Nat) q es, ρ[j]? = some (.own q es) → q ≠ A) (nB : B A = none)
    (S' : Sta K H (ownL ρ ++ M) ρ' σ H') (k : Keep H H') : Sta K B M ρ' σ H' ∧ H' A = some (.lst vs) ∧ RepL K H' acc vs ∧ ∀ (j : Nat) q es, ρ'[j]? = some (.own q es) → q ≠ A := by
  have nD : A ∉ ownL ρ ++ M := fun h => by
    rcases List.mem_append.mp h with h | h
    · obtain ⟨j, es, e⟩ := mem_ownL.mp h
      exact nO j A es e rfl
    · exact nM h
  refine ⟨Sta.unbase S S', S'.frm A _ hA (.inr nD), RepL.keep k acc rA, fun j q es e z => ?_⟩
  rcases S'.new j q es e with h | h
  · rw [z, hA] at h
    cases h
  · exact nD (z ▸ h)
/-- an item put behind the list under construction -/
theorem sta_app {K : PySem.W.Frag} {ρ : En} {σ : L2.St} {H : Hp} {A : Addr} {vs ws : List V} (S : Sta K B M ρ σ H) (hA : H A = some (.lst vs)) (nM : A ∉ M) (nB : B A = none) (nO : ∀ (j : Nat) q es, ρ[j]? = some (.own q es) → q ≠ A) : Sta K B M ρ σ (upd H A (.lst ws)) := by
  have kA : Keep H (upd H A (.lst ws)) := Sta.keep_mut (i := 0) hA
  refine ⟨fun b o hb im => ?_, fun j s ej => ?_, S.dis, S.new, fun p hp => ?_, S.tbi⟩
  · have hb2 : b ≠ A := fun z => by
      rw [z, nB] at hb
      cases hb
    rw [upd_ne hb2]
    exact S.frm b o hb im
  · refine SlotOk.keep kA (fun q fs es => ?_) (fun P q et => by
      subst et
      exact tab_upd hA (S.ok j _ ej)) (S.ok j s ej)
    subst es
    obtain ⟨_, us, hu, ru⟩ := S.ok j _ ej
    exact ⟨us, by rw [upd_ne (nO j q fs ej)]; exact hu, RepL.keep kA fs ru⟩
  · have hb2 : p ≠ A := fun z => nM (z ▸ hp)
    rw [upd_ne hb2]
    exact S.mh p hp
theorem set_ownv {ρ : En} {i k : Nat} {x : D} {q : Addr} {es : List D} (h : (ρ.set i (.v x))[k]? = some (.own q es)) : ρ[k]? = some (.own q es) := set_own h
theorem set_ownu {ρ : En} {i k : Nat} {q : Addr} {es : List D} (h : (ρ.set i .un)[k]? = some (.own q es)) : ρ[k]? = some (.own q es) := by
  rcases set_look h with h | h
  · cases h
  · exact h
theorem own_put {ρ ρ' : En} {i : Nat} {s : Slot} (h : OwnEq ρ ρ') (hi : ∀ p ds, ρ[i]? ≠ some (.own p ds)) : OwnEq ρ (ρ'.set i s) := fun j p ds e => by
  have hj : j ≠ i := fun z => hi p ds (z ▸ e)
  obtain ⟨ds', h'⟩ := h j p ds e
  exact ⟨ds', by rw [List.getElem?_set_ne (Ne.symm hj)]; exact h'⟩
theorem lc_imp22 {i i2 : Nat} {ri ri2 : RI} {rt rt2 : RT} {re : RE} {te : TE} {tt tt1 : TT} {wi1 : TI} (him : MonoI ri) (him2 : MonoI ri2) (mt : MonoT rt) (mt2 : MonoT rt2) (me : MonoE re) (ht : ∀ B' M' σ H Q, tDT X.K B' M' rt σ H Q → tt σ H Q) (ht2 : ∀ B' M' σ H Q, tDT X.K B' M' rt2 σ H Q → tt1 σ H Q) (he : ∀ B' M' σ H Q, tD X.K B' M' re σ H Q → te σ H Q)
    (hi1 : ∀ B' M' σ H R, (∃ ρ, Sta X.K B' M' ρ σ H ∧ ri2 ρ fun n it ok ρ1 => ∀ J H1, Keep H H1 → OwnEq ρ ρ1 → Sta X.K B' M' ρ1 σ H1 → WalksA X.K H1 J n it ok → R J H1) → wi1 σ H R)
    {σ : L2.St} {H : Hp} {ρ : En} {Q : VK} (S : Sta X.K B M ρ σ H) (hun : ∀ p ds, ρ[i]? ≠ some (.own p ds)) (hun2 : ∀ p ds, ρ[i2]? ≠ some (.own p ds)) (hne : i ≠ i2) (q : rLc22 i i2 ri rt ri2 rt2 re ρ (kN X.K B M ρ σ H Q)) :
    tLc2 (fun σ H R => ∃ ρ, Sta X.K B M ρ σ H ∧ ri ρ fun n it ok ρ1 => ∀ J H1, Keep H H1 → OwnEq ρ ρ1 → Sta X.K B M ρ1 σ H1 → Walks X.K B M H1 J n it ok → R J H1) (gName i) tt wi1 (gName i2) tt1 te [i, i2] [i2] σ H Q := by
  refine ⟨ρ, S, him ρ _ _ (fun n it okk ρ1 ⟨I, i0, iok, istep, iend⟩ => ?_) q⟩
  intro J H1 k1 o1 S1 wk A nA
  have hσ : ∀ (τ : L2.St) (j : Nat), j ≠ i → j ≠ i2 → (wipe τ [i, i2])[j]? = τ[j]? := fun τ j hj hj2 => wipe_out (by simp [hj, hj2])
  have hl2 : ∀ τ : L2.St, (wipe τ [i, i2]).length = τ.length := fun τ => wipe_length τ _
  have smD : Same H1 (upd H1 A (.lst [])) := same_upd nA
  have nM : A ∉ M := fun h => by
    obtain ⟨o, ho⟩ := S1.mh A h
    rw [nA] at ho
    cases ho
  have nB : B A = none := S1.fresh_B nA
  have end_ : ∀ {ρ2 : En} {H' : Hp}, (∀ k s, k = i ∨ k = i2 → ρ2[k]? = some s → s = .un) → Sta X.K B M ρ2 (wipe σ [i, i2]) H' → Sta X.K B M ρ2 σ H' := fun {ρ2 H'} eu S2 => by
    refine ⟨S2.frm, fun j s ej => ?_, S2.dis, S2.new, S2.mh, fun j P q e => by have := S2.tbi j P q e; rw [wipe_length] at this; exact this⟩
    have h2 := S2.ok j s ej
    by_cases hj : j = i ∨ j = i2
    · rw [eu j s hj ej]
      exact trivial
    · rw [hσ σ j (fun z => hj (.inl z)) (fun z => hj (.inr z))] at h2
      exact h2
  let Inv' : Nat → Hp → Prop := fun k H' => k ≤ n ∧ ∃ acc ρ2, I k acc ρ2 ∧ (∀ k s, k = i ∨ k = i2 → ρ2[k]? = some s → s = .un) ∧ Keep H1 H' ∧ OwnEq ρ ρ2 ∧ Sta X.K B M ρ2 (wipe σ [i, i2]) H' ∧ NewAt X.K B ρ2 H' A acc
  have unOnly : ∀ (τ : En) k s, k = i ∨ k = i2 → (clr i i2 τ)[k]? = some s → s = .un := fun τ k s hk h => clr_un hk h
  have start0 : Inv' 0 (upd H1 A (.lst [])) := by
    have S2 : Sta X.K B M (clr i i2 ρ1) (wipe σ [i, i2]) H1 := sta_clr S1 (hl2 σ) (hσ σ)
    obtain ⟨S3, n3⟩ := NewAt.laid S2 nA (ds := []) (vs := []) rfl
    exact ⟨Nat.zero_le _, [], _, i0, unOnly ρ1, Keep.of smD, own_clr o1 hun hun2, S3, n3⟩
  refine ⟨fun k m H' => m = n - k ∧ Inv' k H', ⟨n, rfl, start0⟩, ?_⟩
  rintro k m H' ⟨rfl, hk, acc, ρ2, ik, eu, kk, oo, S2, nw⟩
  have ok2 := iok k acc ρ2 hk ik
  by_cases hlt : k < n
  · refine .inr ⟨wk.go k ρ2 _ H' kk S2 ok2 hlt, Inv' (k + 1), fun H'' h => ⟨n - (k + 1), by omega, rfl, h⟩, fun x H3 y => ?_⟩
    obtain ⟨sm, d, hit, rd⟩ := wk.yld k ρ2 _ H' x H3 kk S2 ok2 hlt y
    have S3 := (S2.same sm).put (i := i) rd
    have e1 : (wipe σ [i, i2]).set i2 none = wipe σ [i, i2] := by
      show ((σ.set i2 none).set i none).set i2 none = (σ.set i2 none).set i none
      rw [List.set_comm none none (Ne.symm hne), List.set_set]
    refine ⟨?_, ?_⟩
    · show ((((wipe σ [i, i2]).set i (some x)).set i2 none).set i none) = wipe σ [i, i2]
      rw [List.set_comm (some x) none hne, e1, List.set_set]
      show ((σ.set i2 none).set i none).set i none = (σ.set i2 none).set i none
      rw [List.set_set]
    have kk3 := kk.trans (Keep.of sm)
    obtain ⟨vs, hD, rD⟩ := nw.at_
    have hD3 : H3 A = some (.lst vs) := sm _ _ hD
    have rD3 := RepL.keep (Keep.of sm) acc rD
    have ow3 : OwnEq ρ (ρ2.set i (.v d)) := own_put oo hun
    have nO3 : ∀ (j : Nat) q es, (ρ2.set i (Slot.v d))[j]? = some (.own q es) → q ≠ A := fun j q es e => nw.nO j q es (set_own e)
    refine ht _ _ _ _ _ (intoT mt (Sta.rebase S3) (istep k d acc ρ2 hlt hit ik) fun b ρ3 H4 q3 k4 o4 S4 => ?_)
    obtain ⟨S4b, hA4, rA4, nO4⟩ := part_left S3 hD3 rD3 nM nO3 nB S4 k4
    cases b with
    | false =>
      have S6 : Sta X.K B M (clr i i2 ρ3) (wipe σ [i, i2]) H4 := sta_clr S4b (by rw [List.length_set]) (fun j hj hj2 => by rw [List.getElem?_set_ne (Ne.symm hj)])
      exact ⟨hlt, acc, _, q3, unOnly ρ3, kk3.trans k4, own_clr (ow3.trans o4) hun hun2, S6, ⟨vs, hA4, rA4⟩, nB, fun j q es e => nO4 j q es (clr_look (fun z => by cases z) e)⟩
    | true =>
      refine hi1 _ _ _ _ _ ⟨ρ3, Sta.rebase S4b, him2 ρ3 _ _ (fun n2 it2 okk2 ρ4 ⟨Jn, j0, jok, jstep, jend⟩ => ?_) q3⟩
      intro J1 H5 k5 o5 S5 wk1
      obtain ⟨S5b, hA5, rA5, nO5⟩ := part_left S4b hA4 rA4 nM nO4 nB S5 k5
      have o35 : OwnEq ρ ρ4 := (ow3.trans o4).trans o5
      let InvJ : Nat → Hp → Prop := fun j H' => j ≤ n2 ∧ ∃ acc2 ρ5, Jn j acc2 ρ5 ∧ Keep H5 H' ∧ OwnEq ρ ρ5 ∧ Sta X.K B M ρ5 (wipe ((wipe σ [i, i2]).set i (some x)) [i2]) H' ∧ NewAt X.K B ρ5 H' A acc2
      have startJ : InvJ 0 H5 := by
        refine ⟨Nat.zero_le _, acc, _, j0, Keep.refl _, own_forget o35 hun2, S5b.forget i2 (wipe_length _ _) (fun j hj => wipe_out (by simp [hj])), ⟨vs, hA5, rA5⟩, nB, fun j q es e => nO5 j q es (set_ownu e)⟩
      refine ⟨fun j m H' => m = n2 - j ∧ InvJ j H', ⟨n2, rfl, startJ⟩, ?_⟩
      rintro j m' H' ⟨rfl, hj, acc2, ρ5, jk, kk5, oo5, S6, nw5⟩
      have ok5 := jok j acc2 ρ5 hj jk
      by_cases hlt2 : j < n2
      · refine .inr ⟨wk1.go _ _ j ρ5 _ H' kk5 S6 ok5 hlt2, InvJ (j + 1), fun H'' h => ⟨n2 - (j + 1), by omega, rfl, h⟩, fun y H6 yy => ?_⟩
        obtain ⟨sm6, d2, hit2, rd2⟩ := wk1.yld _ _ j ρ5 _ H' y H6 kk5 S6 ok5 hlt2 yy
        have S7 := (S6.same sm6).put (i := i2) rd2
        refine ⟨?_, ?_⟩
        · show ((((wipe σ [i, i2]).set i (some x)).set i2 none).set i2 (some y)).set i2 none = ((wipe σ [i, i2]).set i (some x)).set i2 none
          rw [List.set_set, List.set_set]
        obtain ⟨vs6, hA6', rA6'⟩ := nw5.at_
        have hA6 : H6 A = some (.lst vs6) := sm6 _ _ hA6'
        have rA6 := RepL.keep (Keep.of sm6) acc2 rA6'
        have nO6 : ∀ (j : Nat) q es, (ρ5.set i2 (Slot.v d2))[j]? = some (.own q es) → q ≠ A := fun j q es e => nw5.nO j q es (set_own e)
        have kk6 := kk5.trans (Keep.of sm6)
        have fin : ∀ {ρ6 : En} {H7 : Hp}, Sta X.K B M ρ6 ((wipe ((wipe σ [i, i2]).set i (some x)) [i2]).set i2 (some y)) H7 → Sta X.K B M (ρ6.set i2 .un) (wipe ((wipe σ [i, i2]).set i (some x)) [i2]) H7 := fun {ρ6 H7} S => S.forget i2 (by rw [List.length_set]) (fun j hj => by rw [List.getElem?_set_ne (Ne.symm hj)])
        refine ht2 _ _ _ _ _ (intoT mt2 (Sta.rebase S7) (jstep j d2 acc2 ρ5 hlt2 hit2 jk) fun b2 ρ6 H7 q6 k7 o7 S8 => ?_)
        obtain ⟨S8b, hA7, rA7, nO7⟩ := part_left S7 hA6 rA6 nM nO6 nB S8 k7
        have o57 : OwnEq ρ ρ6 := (own_put oo5 hun2).trans o7
        cases b2 with
        | false => exact ⟨hlt2, acc2, _, q6, kk6.trans k7, own_forget o57 hun2, fin S8b, ⟨vs6, hA7, rA7⟩, nB, fun j q es e => nO7 j q es (set_ownu e)⟩
        | true =>
          refine he _ _ _ _ _ ⟨ρ6, Sta.rebase S8b, me ρ6 _ _ (fun w ρ7 hh => ?_) q6⟩
          obtain ⟨z, ew, hlen, j4⟩ := kD.el hh
          subst ew
          intro v H8 k8 o8 S9 r9
          obtain ⟨S9b, hA8, rA8, nO8⟩ := part_left S8b hA7 rA7 nM nO7 nB S9 k8
          refine ⟨vs6, hA8, by rw [RepL.length rA8, sizeLine_eq]; exact hlen, ?_⟩
          have kA : Keep H8 (upd H8 A (.lst (vs6 ++ [v]))) := Sta.keep_mut (i := 0) hA8
          have S10 := sta_app (ws := vs6 ++ [v]) S9b hA8 nM nB nO8
          exact ⟨hlt2, acc2 ++ [z], _, j4, ((kk6.trans k7).trans k8).trans kA, own_forget (o57.trans o8) hun2, fin S10, ⟨vs6 ++ [v], upd_same, RepL.keep kA _ (RepL.snoc rA8 r9)⟩, nB, fun j q es e => nO8 j q es (set_ownu e)⟩
      · have ej : j = n2 := by omega
        subst ej
        refine .inl ⟨wk1.stop _ _ ρ5 _ H' kk5 S6 ok5, ?_⟩
        have S11 : Sta X.K B M (clr i i2 ρ5) (wipe σ [i, i2]) H' := sta_clr S6 (by have h1 := wipe_length ((wipe σ [i, i2]).set i (some x)) [i2]; rw [List.length_set] at h1; exact h1.symm) (fun j hj hj2 => by
          have h1 : (wipe ((wipe σ [i, i2]).set i (some x)) [i2])[j]? = ((wipe σ [i, i2]).set i (some x))[j]? := wipe_out (by simp [hj2])
          rw [h1, List.getElem?_set_ne (Ne.symm hj)])
        exact ⟨hlt, acc2, _, jend acc2 ρ5 jk, unOnly ρ5, ((kk3.trans k4).trans k5).trans kk5, own_clr oo5 hun hun2, S11, nw5.at_, nB, fun j q es e => nw5.nO j q es (clr_look (fun z => by cases z) e)⟩
  · have e : k = n := by omega
    subst e
    exact .inl ⟨wk.stop ρ2 _ H' kk S2 ok2, iend acc ρ2 ik A H' (k1.trans kk) oo (end_ eu S2) nw⟩
def rLcF22 (i i2 : Nat) (ri : RI) (rt : RT) (ri2 : RI) (rt2 : RT) (re : RE) : RN := fun ρ Q => free i ρ ∧ free i2 ρ ∧ rLc22 i i2 ri rt ri2 rt2 re ρ Q
/-- [e for x in it if t for y in it2 if t2] -/
theorem dn_lc22 {x y : Str} {px py : Pos} {elt iter iter1 : Expr} {ifs ifs1 : List Expr} {scope : Scope} {i i2 : Nat} {ri ri2 : RI} {rt rt2 : RT} {re : RE} (hN : X.N.Nodup) (hi : DI X B M (.Name x px) iter ri) (ok : BlkOk X.N X.env.scope scope [(x, i), (y, i2)]) (hne : i ≠ i2)
    (ht : ∀ (B' : Hp) (M' : List Addr) (s : Shared) (H : Hp) (C : Addr) (cl : List (Str × Addr)) (fp : List Addr), DTs (X.blk s H scope (compEnvC scope cl C X.env) fp) B' M' ifs rt)
    (hi1 : ∀ (B' : Hp) (M' : List Addr) (s : Shared) (H : Hp) (C : Addr) (cl : List (Str × Addr)) (fp : List Addr), DIA (X.blk s H scope (compEnvC scope cl C X.env) fp) B' M' (.Name y py) iter1 ri2)
    (ht1 : ∀ (B' : Hp) (M' : List Addr) (s : Shared) (H : Hp) (C : Addr) (cl : List (Str × Addr)) (fp : List Addr), DTs (X.blk s H scope (compEnvC scope cl C X.env) fp) B' M' ifs1 rt2)
    (he : ∀ (B' : Hp) (M' : List Addr) (s : Shared) (H : Hp) (C : Addr) (cl : List (Str × Addr)) (fp : List Addr), DE (X.blk s H scope (compEnvC scope cl C X.env) fp) B' M' elt re)
    (hg : ∀ (s : Shared) (H : Hp) (C : Addr) (cl : List (Str × Addr)) (fp : List Addr), PG (X.blk s H scope (compEnvC scope cl C X.env) fp) (.Name x px) (gName i))
    (hg1 : ∀ (s : Shared) (H : Hp) (C : Addr) (cl : List (Str × Addr)) (fp : List Addr), PG (X.blk s H scope (compEnvC scope cl C X.env) fp) (.Name y py) (gName i2))
    (hc : X.calm = true := by rfl) (hs : ∀ x, foldedSetIterable iter X.env x = pure x := by intro _; rfl) (hs1 : ∀ env x, foldedSetIterable iter1 env x = pure x := by intro _ _; rfl) :
    DN X B M (.ListComp elt [⟨.Name x px, iter, ifs, 0⟩, ⟨.Name y py, iter1, ifs1, 0⟩] scope pos) (rLcF22 i i2 ri rt ri2 rt2 re) := by
  have mt : MonoT rt := (ht B M X.s_0 (fun _ => none) 0 [] []).mo
  have mt1 : MonoT rt2 := (ht1 B M X.s_0 (fun _ => none) 0 [] []).mo
  have mi1 : MonoI ri2 := (hi1 B M X.s_0 (fun _ => none) 0 [] []).mo
  have me : MonoE re := (he B M X.s_0 (fun _ => none) 0 [] []).mo
  refine DN.mk' (pe_lc2 (own := [(x, i), (y, i2)]) (vs1 := [i2]) (g := gName i) (g1 := gName i2) (tt := fun σ H Q => ∃ B' M', tDT X.K B' M' rt σ H Q) (tt1 := fun σ H Q => ∃ B' M', tDT X.K B' M' rt2 σ H Q) (te := fun σ H Q => ∃ B' M', tD X.K B' M' re σ H Q)
    (wi1 := fun σ H R => ∃ B' M', ∃ ρ, Sta X.K B' M' ρ σ H ∧ ri2 ρ fun n it ok ρ1 => ∀ J H1, Keep H H1 → OwnEq ρ ρ1 → Sta X.K B' M' ρ1 σ H1 → WalksA X.K H1 J n it ok → R J H1)
    hc hN hi.pi ok (fun j hj => by rw [List.mem_singleton.mp hj]; simp) hg
    (fun s H C cl fp => ⟨fun pins s' σ H' Q I ⟨B', M', q⟩ => (ht B' M' s H C cl fp).pts.run pins s' σ H' Q I q⟩)
    (fun s H C cl fp => ⟨fun pins s' σ H' R I ⟨B', M', q⟩ => (hi1 B' M' s H C cl fp).pi.run pins s' σ H' R I q⟩) hg1
    (fun s H C cl fp => ⟨fun pins s' σ H' Q I ⟨B', M', q⟩ => (ht1 B' M' s H C cl fp).pts.run pins s' σ H' Q I q⟩)
    (fun s H C cl fp => ⟨fun pins s' σ H' Q I ⟨B', M', q⟩ => (he B' M' s H C cl fp).pe.run pins s' σ H' Q I q⟩) hs hs1)
    (fun ρ P P' w ⟨z, z2, q⟩ => ⟨z, z2, hi.mo ρ _ _ (fun n it ok ρ1 ⟨I, h0, h1, h2, h3⟩ => ⟨I, h0, h1, h2, fun acc ρ2 h => w _ _ (h3 acc ρ2 h)⟩) q⟩) fun σ H Q ρ S ⟨z, z2, q⟩ => ?_
  exact lc_imp22 hi.mo mi1 mt mt1 me (fun B' M' σ H Q h => ⟨B', M', h⟩) (fun B' M' σ H Q h => ⟨B', M', h⟩) (fun B' M' σ H Q h => ⟨B', M', h⟩) (fun B' M' σ H R h => ⟨B', M', h⟩) S (free_of z) (free_of z2) hne q
theorem ds_setLc22O {j : Nat} {z : Str} {pz : Pos} {x y : Str} {px py : Pos} {elt iter iter1 : Expr} {ifs ifs1 : List Expr} {scope : Scope} {i i2 : Nat} {ri ri2 : RI} {rt rt2 : RT} {re : RE} {spos : Pos} (hN : X.N.Nodup) (hi : DI X B M (.Name x px) iter ri) (ok : BlkOk X.N X.env.scope scope [(x, i), (y, i2)]) (hne : i ≠ i2)
    (ht : ∀ (B' : Hp) (M' : List Addr) (s : Shared) (H : Hp) (C : Addr) (cl : List (Str × Addr)) (fp : List Addr), DTs (X.blk s H scope (compEnvC scope cl C X.env) fp) B' M' ifs rt)
    (hi1 : ∀ (B' : Hp) (M' : List Addr) (s : Shared) (H : Hp) (C : Addr) (cl : List (Str × Addr)) (fp : List Addr), DIA (X.blk s H scope (compEnvC scope cl C X.env) fp) B' M' (.Name y py) iter1 ri2)
    (ht1 : ∀ (B' : Hp) (M' : List Addr) (s : Shared) (H : Hp) (C : Addr) (cl : List (Str × Addr)) (fp : List Addr), DTs (X.blk s H scope (compEnvC scope cl C X.env) fp) B' M' ifs1 rt2)
    (he : ∀ (B' : Hp) (M' : List Addr) (s : Shared) (H : Hp) (C : Addr) (cl : List (Str × Addr)) (fp : List Addr), DE (X.blk s H scope (compEnvC scope cl C X.env) fp) B' M' elt re)
    (hg : ∀ (s : Shared) (H : Hp) (C : Addr) (cl : List (Str × Addr)) (fp : List Addr), PG (X.blk s H scope (compEnvC scope cl C X.env) fp) (.Name x px) (gName i))
    (hg1 : ∀ (s : Shared) (H : Hp) (C : Addr) (cl : List (Str × Addr)) (fp : List Addr), PG (X.blk s H scope (compEnvC scope cl C X.env) fp) (.Name y py) (gName i2))
    (hsw : swapsWith (.ListComp elt [⟨.Name x px, iter, ifs, 0⟩, ⟨.Name y py, iter1, ifs1, 0⟩] scope pos) (some (.Name z pz)) spos.line X.env = pure true)
    (hy : X.N[j]? = some z := by rfl) (hyl : X.env.scope.names.lookup z = some .local := by rfl) (hc : X.calm = true := by rfl) (hs : ∀ x, foldedSetIterable iter X.env x = pure x := by intro _; rfl) (hs1 : ∀ env x, foldedSetIterable iter1 env x = pure x := by intro _ _; rfl) :
    DS X B M (.Assign [.Name z pz] (.ListComp elt [⟨.Name x px, iter, ifs, 0⟩, ⟨.Name y py, iter1, ifs1, 0⟩] scope pos) spos) (rAsgO j (rLcF22 i i2 ri rt ri2 rt2 re)) := by
  have mt : MonoT rt := (ht B M X.s_0 (fun _ => none) 0 [] []).mo
  have mt1 : MonoT rt2 := (ht1 B M X.s_0 (fun _ => none) 0 [] []).mo
  have mi1 : MonoI ri2 := (hi1 B M X.s_0 (fun _ => none) 0 [] []).mo
  have me : MonoE re := (he B M X.s_0 (fun _ => none) 0 [] []).mo
  refine DS.mk' (ps_setLc2 (i := j) (own := [(x, i), (y, i2)]) (vs1 := [i2]) (g := gName i) (g1 := gName i2) (tt := fun σ H Q => ∃ B' M', tDT X.K B' M' rt σ H Q) (tt1 := fun σ H Q => ∃ B' M', tDT X.K B' M' rt2 σ H Q) (te := fun σ H Q => ∃ B' M', tD X.K B' M' re σ H Q)
    (wi1 := fun σ H R => ∃ B' M', ∃ ρ, Sta X.K B' M' ρ σ H ∧ ri2 ρ fun n it ok ρ1 => ∀ J H1, Keep H H1 → OwnEq ρ ρ1 → Sta X.K B' M' ρ1 σ H1 → WalksA X.K H1 J n it ok → R J H1)
    hc hN hy hyl hsw hi.pi ok (fun j hj => by rw [List.mem_singleton.mp hj]; simp) hg
    (fun s H C cl fp => ⟨fun pins s' σ H' Q I ⟨B', M', q⟩ => (ht B' M' s H C cl fp).pts.run pins s' σ H' Q I q⟩)
    (fun s H C cl fp => ⟨fun pins s' σ H' R I ⟨B', M', q⟩ => (hi1 B' M' s H C cl fp).pi.run pins s' σ H' R I q⟩) hg1
    (fun s H C cl fp => ⟨fun pins s' σ H' Q I ⟨B', M', q⟩ => (ht1 B' M' s H C cl fp).pts.run pins s' σ H' Q I q⟩)
    (fun s H C cl fp => ⟨fun pins s' σ H' Q I ⟨B', M', q⟩ => (he B' M' s H C cl fp).pe.run pins s' σ H' Q I q⟩) hs hs1) fun D σ H ρ en S ⟨z, z2, q⟩ okk => ?_
  refine lc_imp22 hi.mo mi1 mt mt1 me (fun B' M' σ H Q h => ⟨B', M', h⟩) (fun B' M' σ H Q h => ⟨B', M', h⟩) (fun B' M' σ H Q h => ⟨B', M', h⟩) (fun B' M' σ H R h => ⟨B', M', h⟩) S (free_of z) (free_of z2) hne (hi.mo ρ _ _ (fun n it ok ρ1 ⟨I, h0, h1, h2, h3⟩ => ⟨I, h0, h1, h2, fun acc ρ2 h => ?_⟩) q)
  intro p H1 k1 o1 S1 n1
  obtain ⟨vs, hp, rr⟩ := n1.at_
  exact okk.nx _ _ H1 k1 (S1.putO hp rr n1.nB n1.nO) (h3 acc ρ2 h p)
/-- [e for x, y in it if t], given to a name -/
theorem ds_setLc2O {j : Nat} {z : Str} {pz : Pos} {x y : Str} {px py pt : Pos} {kt : Nat} {elt iter : Expr} {ifs : List Expr} {scope : Scope} {i i2 : Nat} {ri : RI} {rt : RT} {re : RE} {spos : Pos} (hN : X.N.Nodup) (hi : DI2 X B M (.Tuple [.Name x px, .Name y py] kt pt) iter ri) (ok : BlkOk X.N X.env.scope scope [(x, i), (y, i2)])
    (ht : ∀ (B' : Hp) (M' : List Addr) (s : Shared) (H : Hp) (C : Addr) (cl : List (Str × Addr)) (fp : List Addr), DTs (X.blk s H scope (compEnvC scope cl C X.env) fp) B' M' ifs rt)
    (he : ∀ (B' : Hp) (M' : List Addr) (s : Shared) (H : Hp) (C : Addr) (cl : List (Str × Addr)) (fp : List Addr), DE (X.blk s H scope (compEnvC scope cl C X.env) fp) B' M' elt re)
    (hg : ∀ (s : Shared) (H : Hp) (C : Addr) (cl : List (Str × Addr)) (fp : List Addr), PG (X.blk s H scope (compEnvC scope cl C X.env) fp) (.Tuple [.Name x px, .Name y py] kt pt) (gTup X.K 2 (gCons (gName i) (gCons (gName i2) gNil))))
    (hsw : swapsWith (.ListComp elt [⟨.Tuple [.Name x px, .Name y py] kt pt, iter, ifs, 0⟩] scope pos) (some (.Name z pz)) spos.line X.env = pure true)
    (hy : X.N[j]? = some z := by rfl) (hyl : X.env.scope.names.lookup z = some .local := by rfl) (hc : X.calm = true := by rfl) (hs : ∀ x, foldedSetIterable iter X.env x = pure x := by intro _; rfl) :
    DS X B M (.Assign [.Name z pz] (.ListComp elt [⟨.Tuple [.Name x px, .Name y py] kt pt, iter, ifs, 0⟩] scope pos) spos) (rAsgO j (rLcF2 i i2 ri rt re)) := by
  have mt : MonoT rt := (ht B M X.s_0 (fun _ => none) 0 [] []).mo
  have me : MonoE re := (he B M X.s_0 (fun _ => none) 0 [] []).mo
  refine DS.mk' (ps_setLc (i := j) (own := [(x, i), (y, i2)]) (g := gTup X.K 2 (gCons (gName i) (gCons (gName i2) gNil))) (tt := fun σ H Q => ∃ B' M', tDT X.K B' M' rt σ H Q) (te := fun σ H Q => ∃ B' M', tD X.K B' M' re σ H Q) hc hN hy hyl hsw hi.pi ok hg
    (fun s H C cl fp => ⟨fun pins s' σ H' Q I ⟨B', M', q⟩ => (ht B' M' s H C cl fp).pts.run pins s' σ H' Q I q⟩) (fun s H C cl fp => ⟨fun pins s' σ H' Q I ⟨B', M', q⟩ => (he B' M' s H C cl fp).pe.run pins s' σ H' Q I q⟩) hs) fun D σ H ρ en S ⟨z, z2, q⟩ okk => ?_
  refine lc_imp2 hi.mo mt me (fun B' M' σ H Q h => ⟨B', M', h⟩) (fun B' M' σ H Q h => ⟨B', M', h⟩) S (free_of z) (free_of z2) (hi.mo ρ _ _ (fun n it ok ρ1 ⟨hn, I, h0, h1, h2, h3⟩ => ⟨hn, I, h0, h1, h2, fun acc ρ2 h => ?_⟩) q)
  intro p H1 k1 o1 S1 n1
  obtain ⟨vs, hp, rr⟩ := n1.at_
  exact okk.nx _ _ H1 k1 (S1.putO hp rr n1.nB n1.nO) (h3 acc ρ2 h p)
end
/-! ### constants of the written part -/
mutual
def tupOk (K : PySem.W.Frag) : D → Value → Bool
  | .int i, .int j _ => decide (i = j)
  | .tup ds, .ref a => match K.lookup a with
    | some o => (match o.dict with | none => true | _ => false) && ((match o.cls with | .type s => decide (s = "tuple") | _ => false) && (match o.data with | .seq its _ => decide (its.size ≤ sizeLine) && tupOkL K ds its.toList | _ => false))
    | none => false
  | _, _ => false
def tupOkL (K : PySem.W.Frag) : List D → List Value → Bool
  | [], [] => true
  | d :: ds, u :: us => tupOk K d u && tupOkL K ds us
  | _, _ => false
end
mutual
theorem tupOk_rep {K : PySem.W.Frag} : ∀ (d : D) (u : Value), tupOk K d u = true → ∃ v, RelV v u ∧ ∀ H, Rep K H d v
  | .int i, .int j t, h => by
    have h : i = j := of_decide_eq_true h
    exact ⟨.int i, ⟨t, by rw [h]⟩, fun _ => rfl⟩
  | .tup ds, .ref a, h => by
    have h : (match K.lookup a with
      | some o => (match o.dict with | none => true | _ => false) && ((match o.cls with | .type s => decide (s = "tuple") | _ => false) && (match o.data with | .seq its _ => decide (its.size ≤ sizeLine) && tupOkL K ds its.toList | _ => false))
      | none => false) = true := h
    cases e : K.lookup a with
    | none => rw [e] at h; cases h
    | some o =>
      rw [e] at h
      obtain ⟨h1, h⟩ := He.ba h
      obtain ⟨h2, h3⟩ := He.ba h
      have d1 : o.dict = none := by
        split at h1
        · assumption
        · cases h1
      have d2 : o.cls = .type "tuple" := by
        split at h2
        · rename_i s hs
          rw [hs, of_decide_eq_true h2]
        · cases h2
      split at h3
      · rename_i its n hd
        obtain ⟨h4, h5⟩ := He.ba h3
        obtain ⟨vs, r1, r2⟩ := tupOkL_rep ds its.toList h5
        exact ⟨.ref a, rfl, fun H => ⟨a, vs, rfl, .inr ⟨o, its, n, d1, e, d2, hd, of_decide_eq_true h4, r1⟩, r2 H⟩⟩
      · cases h3
theorem tupOkL_rep {K : PySem.W.Frag} : ∀ (ds : List D) (us : List Value), tupOkL K ds us = true → ∃ vs, Vals vs us ∧ ∀ H, RepL K H ds vs
  | [], [], _ => ⟨[], .nil, fun _ => rfl⟩
  | d :: ds, u :: us, h => by
    obtain ⟨h1, h2⟩ := He.ba (show (tupOk K d u && tupOkL K ds us) = true from h)
    obtain ⟨v, r1, r2⟩ := tupOk_rep d u h1
    obtain ⟨vs, s1, s2⟩ := tupOkL_rep ds us h2
    exact ⟨v :: vs, .cons r1 s1, fun H => ⟨v, vs, rfl, r2 H, s2 H⟩⟩
end
theorem tup_glob {K : PySem.W.Frag} {mg : Str → Option Value} {x : Str} {d : D} {u : Value} (h : mg x = some u) (c : tupOk K d u = true) : ∃ v u, mg x = some u ∧ RelV v u ∧ ∀ H, Rep K H d v := by
  obtain ⟨v, r1, r2⟩ := tupOk_rep d u c
  exact ⟨v, u, h, r1, r2⟩
end N
/-! NI -/
set_option Elab.async false
set_option linter.all false
set_option maxRecDepth 100000
set_option maxHeartbeats 1000000
/-! NI: instances of own classes: attributes, properties, methods, making them, their __init__. -/
namespace N
open PySem PySem.Spec PyProof.Rows L2
def ixS (f : Str) : List Str → Option Nat
  | [] => none
  | g :: r => if f = g then some 0 else (ixS f r).map (· + 1)
theorem lookup_ix {f : Str} : ∀ {fs : List (Str × V)} {i : Nat} {v : V}, ixS f (fs.map (·.1)) = some i → (fs.map (·.2))[i]? = some v → fs.lookup f = some v
  | [], _, _, h, _ => by cases h
  | (g, x) :: r, i, v, h, hv => by
    rw [List.map_cons] at h hv
    unfold ixS at h
    by_cases e : f = g
    · rw [if_pos e] at h
      cases h
      have ex : x = v := by simpa using hv
      have hb : (f == g) = true := beq_iff_eq.mpr e
      simp only [List.lookup, hb, ex]
    · rw [if_neg e] at h
      have hb : (f == g) = false := beq_eq_false_iff_ne.mpr e
      cases hq : ixS f (r.map (·.1)) with
      | none => rw [hq] at h; cases h
      | some j =>
        rw [hq] at h
        cases h
        have := lookup_ix (fs := r) hq (by simpa using hv)
        simp only [List.lookup, hb]
        exact this
theorem lookup_no {f : Str} : ∀ {fs : List (Str × V)}, ixS f (fs.map (·.1)) = none → fs.lookup f = none
  | [], _ => rfl
  | (g, x) :: r, h => by
    rw [List.map_cons] at h
    unfold ixS at h
    by_cases e : f = g
    · rw [if_pos e] at h
      cases h
    · rw [if_neg e] at h
      have hb : (f == g) = false := beq_eq_false_iff_ne.mpr e
      cases hq : ixS f (r.map (·.1)) with
      | none =>
        simp only [List.lookup, hb]
        exact lookup_no hq
      | some j => rw [hq] at h; cases h
/-- like spF, of a method -/
def HasM (P : Program) (w : World) (K : PySem.W.Frag) (mg : Str → Option Value) (base : Heap) (C : Addr) (m : Str) (k : Nat) (ps : List Str) (sp : Sp) : Prop :=
  ∃ f fd, Meth K C m f ∧ Binds K fd ps [] ∧ FnOk P w K mg base (L2N.CX P w) k f fd ps sp
def HasPr (P : Program) (w : World) (K : PySem.W.Frag) (mg : Str → Option Value) (base : Heap) (C : Addr) (m : Str) (k : Nat) (sp : Sp) : Prop :=
  ∃ p f fd, PropOf K C m p f ∧ Binds K fd ["self"] [] ∧ FnOk P w K mg base (L2N.CX P w) k f fd ["self"] sp
def HasMk (P : Program) (w : World) (K : PySem.W.Frag) (mg : Str → Option Value) (base : Heap) (x : Str) (C : Addr) (k : Nat) (ps : List Str) (sp : Sp) : Prop :=
  ∃ f fd, mg x = some (.ref C) ∧ Mk K C f ∧ Binds K fd ps [] ∧ FnOk P w K mg base (L2N.CX P w) k f fd ps sp
/-- but for what stands at p, nothing changes -/
def FrmX (p : Addr) (H H' : Hp) : Prop := ∀ b o, b ≠ p → H b = some o → H' b = some o
theorem FrmX.refl (p : Addr) (H : Hp) : FrmX p H H := fun _ _ _ h => h
theorem FrmX.trans {p : Addr} {H H1 H2 : Hp} (a : FrmX p H H1) (b : FrmX p H1 H2) : FrmX p H H2 := fun c o n h => b c o n (a c o n h)
/-- the promise of an __init__ of the class at C: what the instance then is -/
def spI (K : PySem.W.Frag) (C : Addr) (S : FS) : Sp := fun vs H Q E => ∃ g p dx vr, vs = .ref p :: vr ∧ H p = some (.ins C dx []) ∧ RepL K H (S.args g) vr ∧ S.pre g ∧
  (∀ d H', S.post g d → FrmX p H H' → Rep K H' d (.ref p) → Q .non H') ∧ (∀ x cls dx' H', S.exc g x → Frm [] H H' → XRep K H' x cls dx' → E cls dx' H')
section
variable {X : Cx} {B : Hp} {M : List Addr} {e a b c o : Expr} {es : List Expr} {pos : Pos}
/-- e.f, f an attribute -/
def rFd (C : Addr) (ns : List Str) (i : Nat) (re : RE) : RE := fun ρ Q => re ρ fun w ρ1 => ∃ ds d, w = .d (.ins C ns ds) ∧ ds[i]? = some d ∧ Q (.d d) ρ1
theorem de_fld {C : Addr} {ns : List Str} {f : Str} {i : Nat} {re : RE} (c : Cls X.K C) (n : NoAttr X.K C f) (hi : ixS f ns = some i) (he : DE X B M e re) (hb : attributeBase e f X.env (eval e X.env) = eval e X.env := by rfl) : DE X B M (.Attribute e f pos) (rFd C ns i re) := by
  refine DE.mk' (pe_fld he.pe hb) (fun ρ P P' w q => he.mo ρ _ _ (fun w1 ρ1 ⟨ds, d, e1, e2, p⟩ => ⟨ds, d, e1, e2, w _ _ p⟩) q) fun σ H Q ρ S q => ?_
  refine into he S q fun w1 ρ1 v1 H1 ⟨ds, d, e1, e2, pp⟩ k1 o1 S1 r1 => ?_
  subst e1
  obtain ⟨a, dx, fs, ev, ea, en, rr⟩ := r1
  obtain ⟨v, hv, rv⟩ := RepL.get rr e2
  exact ⟨a, C, dx, fs, v, ev, ea, c, n, lookup_ix (by rw [en]; exact hi) hv, pp v H1 k1 o1 S1 rv⟩
/-- e.f, f a property -/
def rPr (C : Addr) (S : FS) (re : RE) : RE := fun ρ Q => re ρ fun w ρ1 => ∃ g ns ds, w = .d (.ins C ns ds) ∧ S.args g = [.ins C ns ds] ∧ S.pre g ∧ (∀ d, S.post g d → Q (.d d) ρ1) ∧ ∀ x, ¬ S.exc g x
theorem de_prop {C : Addr} {f : Str} {k : Nat} {S : FS} {re : RE} (c : Cls X.K C) (G : HasPr X.prog X.w X.K X.mg X.base C f k (spF X.K S)) (hr : Room (k + 1) X.A) (he : DE X B M e re) (hb : attributeBase e f X.env (eval e X.env) = eval e X.env := by rfl) : DE X B M (.Attribute e f pos) (rPr C S re) := by
  obtain ⟨p, g, fd, hp, hbi, F⟩ := G
  refine DE.mk' (pe_prop he.pe c hp F hr hbi .nil (passN (X := X.nox)) hb) (fun ρ P P' w q => he.mo ρ _ _ (fun w1 ρ1 ⟨g, ns, ds, e1, e2, p1, p2, p3⟩ => ⟨g, ns, ds, e1, e2, p1, fun d hd => w _ _ (p2 d hd), p3⟩) q) fun σ H Q ρ S q => ?_
  refine into he S q fun w1 ρ1 v1 H1 ⟨g, ns, ds, e1, e2, p1, p2, p3⟩ k1 o1 S1 r1 => ?_
  subst e1
  obtain ⟨a, dx, fs, ev, ea, en, rr⟩ := r1
  refine ⟨a, dx, fs, ev, ea, g, ?_, p1, fun d v H' hd fr rv => ?_, fun x _ _ _ hx => absurd hx (p3 x)⟩
  · rw [e2]
    exact ⟨.ref a, [], rfl, ⟨a, dx, fs, rfl, ea, en, rr⟩, rfl⟩
  · exact p2 d hd v H' (k1.trans fr.keep) o1 (S1.same fr.same) rv
/-- o.m(..) -/
def rMeth (C : Addr) (ns : List Str) (S : FS) (ro : RE) (ra : RA) (Xp : Exn → Prop) : RE := fun ρ Q => ro ρ fun w ρ1 => ∃ ds, w = .d (.ins C ns ds) ∧ ra ρ1 fun ws ρ2 => ∃ g, w :: ws = dats (S.args g) ∧ S.pre g ∧ (∀ d, S.post g d → Q (.d d) ρ2) ∧ ∀ x, S.exc g x → Xp x
theorem mo_rMeth {C : Addr} {ns : List Str} {S : FS} {ro : RE} {ra : RA} {Xp : Exn → Prop} (ho : MonoE ro) (ha : MonoA ra) : MonoE (rMeth C ns S ro ra Xp) := fun ρ P P' w q =>
  ho ρ _ _ (fun w1 ρ1 ⟨ds, e1, q1⟩ => ⟨ds, e1, ha ρ1 _ _ (fun ws ρ2 ⟨g, e, p, h1, h2⟩ => ⟨g, e, p, fun d hd => w _ _ (h1 d hd), h2⟩) q1⟩) q
theorem meth_imp {C : Addr} {m : Str} {ns : List Str} {S : FS} {ro : RE} {ra : RA} {E : XK} {Xp : Exn → Prop} (hE : ∀ x cls dx H', Xp x → Frm M B H' → XRep X.K H' x cls dx → E cls dx H') (hn : ixS m ns = none) (ho : DE X B M o ro) (ha : DA X B M es ra)
    {σ : L2.St} {H : Hp} {Q : VK} {ρ : En} (Sx : Sta X.K B M ρ σ H) (q : rMeth C ns S ro ra Xp ρ (kE X.K B M ρ σ H Q)) : tMeth C m (spF X.K S) [] E (tD X.K B M ro) (tDA X.K B M ra) σ H Q := by
  refine into ho Sx q fun w1 ρ1 v1 H1 ⟨ds, e1, q1⟩ k1 o1 S1 r1 => ?_
  subst e1
  have r1' := r1
  obtain ⟨a, dx, fs, ev, ea, en, rr⟩ := r1
  refine ⟨a, dx, fs, ev, ea, lookup_no (by rw [en]; exact hn), ?_⟩
  refine intoA ha S1 q1 fun ws ρ2 vs H2 ⟨g, e2, pre, h1, h2⟩ k2 o2 S2 r2 => ?_
  rw [List.append_nil]
  have rw' : WOks X.K H2 ρ2 (dats (S.args g)) (v1 :: vs) := by
    rw [← e2]
    exact ⟨v1, vs, rfl, Rep.keep k2 (.ins C ns ds) r1', r2⟩
  refine ⟨g, dats_ok rw', pre, fun d v H' hd fr rv => ?_, fun x cls dx H' hx fr rx => ?_⟩
  · exact h1 d hd v H' (k1.trans (k2.trans fr.keep)) (o1.trans o2) (S2.same fr.same) rv
  · exact hE x cls dx H' (h2 x hx) (S2.frm.trans (Frm.of fr.same)) rx
theorem de_methX {C : Addr} {m : Str} {k : Nat} {ps : List Str} {ns : List Str} {S : FS} {ro : RE} {ra : RA} {apos : Pos} {E : XK} {Xp : Exn → Prop} {pl : Sem Bool} (c : Cls X.K C) (G : HasM X.prog X.w X.K X.mg X.base C m k ps (spF X.K S)) (hn : ixS m ns = none) (hr : Room k X.A) (hx : Passes (L2N.CX X.prog X.w) X E)
    (hE : ∀ x cls dx H', Xp x → Frm M B H' → XRep X.K H' x cls dx → E cls dx H') (ho : DE X B M o ro) (ha : DA X B M (a :: es) ra)
    (hst : starEach (a :: es) X.env = (false, eval a X.env) :: starEach es X.env := by rfl) (hpl : (backTo pos (starEach es X.env)).any (·.1) = false := by rfl)
    (ht : eval (.Call (.Attribute o m apos) (a :: es) [] pos) X.env = (do
      let ov ← eval o X.env
      standAt apos.atName
      let (f, first) ← holding [ov] (getMethod ov m pl)
      callWith pos f first (backTo pos (starEach (a :: es) X.env)) (backToKw pos (keywordEach [] X.env))) := by rfl) :
    DE X B M (.Call (.Attribute o m apos) (a :: es) [] pos) (rMeth C ns S ro ra Xp) := by
  obtain ⟨f, fd, hm, hb, F⟩ := G
  exact DE.mk' (pe_meth (pl := pl) ho.pe c hm F hr hb .nil hx ha.pa hst hpl ht) (mo_rMeth ho.mo ha.mo) fun σ H Q ρ Sx q => meth_imp hE hn ho ha Sx q
theorem de_meth {C : Addr} {m : Str} {k : Nat} {ps : List Str} {ns : List Str} {S : FS} {ro : RE} {ra : RA} {apos : Pos} {pl : Sem Bool} (c : Cls X.K C) (G : HasM X.prog X.w X.K X.mg X.base C m k ps (spF X.K S)) (hn : ixS m ns = none) (hr : Room k X.A) (ho : DE X B M o ro) (ha : DA X B M (a :: es) ra)
    (hst : starEach (a :: es) X.env = (false, eval a X.env) :: starEach es X.env := by rfl) (hpl : (backTo pos (starEach es X.env)).any (·.1) = false := by rfl)
    (ht : eval (.Call (.Attribute o m apos) (a :: es) [] pos) X.env = (do
      let ov ← eval o X.env
      standAt apos.atName
      let (f, first) ← holding [ov] (getMethod ov m pl)
      callWith pos f first (backTo pos (starEach (a :: es) X.env)) (backToKw pos (keywordEach [] X.env))) := by rfl) :
    DE X B M (.Call (.Attribute o m apos) (a :: es) [] pos) (rMeth C ns S ro ra fun _ => False) := de_methX c G hn hr passN (fun _ _ _ _ z => z.elim) ho ha hst hpl ht
/-- C(..) -/
theorem de_makeX {x : Str} {C : Addr} {k : Nat} {ps : List Str} {S : FS} {ra : RA} {p : Pos} {E : XK} {Xp : Exn → Prop} (G : HasMk X.prog X.w X.K X.mg X.base x C k ps (spI X.K C S)) (hr : Room (k + 1) X.A) (hx : Passes (L2N.CX X.prog X.w) X E)
    (hE : ∀ x cls dx H', Xp x → Frm M B H' → XRep X.K H' x cls dx → E cls dx H') (ha : DA X B M (a :: es) ra) (hg : Gl X x := by rfl) (hdb : (x == ("__debug__" : Str)) = false := by decide) (he : starEach (a :: es) X.env = (false, eval a X.env) :: starEach es X.env := by rfl) (hpl : (backTo pos (starEach es X.env)).any (·.1) = false := by rfl) :
    DE X B M (.Call (.Name x p) (a :: es) [] pos) (rCall S ra Xp) := by
  obtain ⟨f, fd, hm, mk, hb, F⟩ := G
  refine DE.mk' (pe_make mk F hr hg hm hb .nil hx ha.pa hdb he hpl) (mo_rCall ha.mo) fun σ H Q ρ Sx q => ?_
  refine intoA ha Sx q fun ws ρ1 vs H1 ⟨g, e1, pre, h1, h2⟩ k1 o1 S1 r1 => ?_
  subst e1
  intro x' dx' nx nd ne
  rw [List.append_nil]
  have s1 : Same H1 (upd H1 dx' (.own x')) := same_upd nd
  have s2 : Same (upd H1 dx' (.own x')) (upd (upd H1 dx' (.own x')) x' (.ins C dx' [])) := same_upd (by rw [upd_ne (Ne.symm ne)]; exact nx)
  have s12 : Same H1 (upd (upd H1 dx' (.own x')) x' (.ins C dx' [])) := fun c o h => s2 c o (s1 c o h)
  refine ⟨g, x', dx', _, rfl, upd_same, RepL.keep (Keep.of s12) _ (dats_ok r1), pre, fun d H' hd fr rv => ?_, fun x cls dx H' hx' fr rx => ?_⟩
  · have s3 : Same H1 H' := fun c o h => fr c o (fun z => by rw [z, nx] at h; cases h) (s12 c o h)
    exact ⟨rfl, h1 d hd _ H' (k1.trans (Keep.of s3)) o1 (S1.same s3) rv⟩
  · have s3 : Same H1 H' := fun c o h => fr.same c o (s12 c o h)
    exact hE x cls dx H' (h2 x hx') (S1.frm.trans (Frm.of s3)) rx
theorem de_make {x : Str} {C : Addr} {k : Nat} {ps : List Str} {S : FS} {ra : RA} {p : Pos} (G : HasMk X.prog X.w X.K X.mg X.base x C k ps (spI X.K C S)) (hr : Room (k + 1) X.A) (ha : DA X B M (a :: es) ra) (hg : Gl X x := by rfl) (hdb : (x == ("__debug__" : Str)) = false := by decide) (he : starEach (a :: es) X.env = (false, eval a X.env) :: starEach es X.env := by rfl) (hpl : (backTo pos (starEach es X.env)).any (·.1) = false := by rfl) :
    DE X B M (.Call (.Name x p) (a :: es) [] pos) (rCall S ra fun _ => False) := de_makeX G hr passN (fun _ _ _ _ z => z.elim) ha hg hdb he hpl
end
/-! ### an __init__: checks, then the attributes -/
mutual
/-- no instance in it -/
def pl : D → Bool
  | .ins _ _ _ => false
  | .tup ds => plL ds
  | .lst ds => plL ds
  | _ => true
def plL : List D → Bool
  | [] => true
  | d :: ds => pl d && plL ds
end
theorem plL_of {ds : List D} (h : ∀ d ∈ ds, pl d = true) : plL ds = true := by
  induction ds with
  | nil => rfl
  | cons d ds ih =>
    show (pl d && plL ds) = true
    rw [h d (List.mem_cons_self ..), ih fun d hd => h d (List.mem_cons_of_mem _ hd)]
    rfl
theorem plL_append {ds es : List D} (h : plL ds = true) (h' : plL es = true) : plL (ds ++ es) = true := by
  induction ds with
  | nil => exact h'
  | cons d ds ih =>
    obtain ⟨h1, h2⟩ := Bool.and_eq_true_iff.mp (show (pl d && plL ds) = true from h)
    show (pl d && plL (ds ++ es)) = true
    rw [h1, ih h2]
    rfl
section
variable {K : PySem.W.Frag} {H H' : Hp} {p C dx : Addr} {fs : List (Str × V)}
theorem FrmX.of_frz (hp : H p = some (.ins C dx fs)) (k : FrmX p H H') {b : Addr} {o : Obj} {c : HO} (h : H b = some (.frz o c)) : H' b = some (.frz o c) :=
  k b _ (fun z => by rw [z, hp] at h; cases h) h
mutual
theorem Rep.mv (hp : H p = some (.ins C dx fs)) (k : FrmX p H H') : ∀ (d : D) {v : V}, pl d = true → Rep K H d v → Rep K H' d v
  | .non, _, _, h => h
  | .bl _, _, _, h => h
  | .int _, _, _, h => h
  | .str _, _, _, h => h
  | .tup ds, _, q, h => by
    obtain ⟨a, vs, e, s, r⟩ := h
    refine ⟨a, vs, e, ?_, RepL.mv hp k ds q r⟩
    rcases s with ⟨o, d, h⟩ | h
    · exact .inl ⟨o, d, k.of_frz hp h⟩
    · exact .inr h
  | .lst ds, _, q, h => by
    obtain ⟨a, vs, e, ⟨o, s⟩, r⟩ := h
    exact ⟨a, vs, e, ⟨o, k.of_frz hp s⟩, RepL.mv hp k ds q r⟩
  | .dic _, _, _, h => by
    obtain ⟨a, e, o, c, s⟩ := h
    exact ⟨a, e, o, c, k.of_frz hp s⟩
  | .obj _, _, _, h => h
  | .ty _, _, _, h => h
  | .ins _ _ _, _, q, _ => by cases q
theorem RepL.mv (hp : H p = some (.ins C dx fs)) (k : FrmX p H H') : ∀ (ds : List D) {vs : List V}, plL ds = true → RepL K H ds vs → RepL K H' ds vs
  | [], _, _, h => h
  | d :: ds, _, q, h => by
    obtain ⟨v, vr, e, r, rr⟩ := h
    obtain ⟨h1, h2⟩ := Bool.and_eq_true_iff.mp (show (pl d && plL ds) = true from q)
    exact ⟨v, vr, e, Rep.mv hp k d h1 r, RepL.mv hp k ds h2 rr⟩
end
end
def plS : Slot → Bool
  | .un => true
  | .v d => pl d
  | _ => false
/-- data without instances alone -/
def plE (ρ : En) : Bool := ρ.all plS
theorem plE.at {ρ : En} (h : plE ρ = true) {i : Nat} {s : Slot} (e : ρ[i]? = some s) : plS s = true := List.all_eq_true.mp h s (List.mem_of_getElem? e)
section
variable {K : PySem.W.Frag} {B H H' : Hp} {M : List Addr} {ρ : En} {σ : L2.St} {p C dx : Addr} {fs : List (Str × V)}
theorem sta_re (S : Sta K B M ρ σ H) (h : plE ρ = true) : Sta K H [] ρ σ H :=
  ⟨Frm.refl _ _, S.ok, fun i j q q' ds es e => (by have z := plE.at h e; cases z), fun i q ds e => (by have z := plE.at h e; cases z), fun _ z => by simp at z, fun i P q e => (by have z := plE.at h e; cases z)⟩
theorem sta_mv (S : Sta K B M ρ σ H) (h : plE ρ = true) (hp : H p = some (.ins C dx fs)) (k : FrmX p H H') : Sta K H' [] ρ σ H' := by
  refine ⟨Frm.refl _ _, fun i s e => ?_, fun i j q q' ds es e => (by have z := plE.at h e; cases z), fun i q ds e => (by have z := plE.at h e; cases z), fun _ z => by simp at z, fun i P q e => (by have z := plE.at h e; cases z)⟩
  have z := plE.at h e
  have ok := S.ok i s e
  cases s with
  | un => trivial
  | v d =>
    rcases ok with ok | ⟨v, ev, rv⟩
    · exact .inl ok
    · exact .inr ⟨v, ev, Rep.mv hp k d z rv⟩
  | own _ _ => cases z
  | tab _ _ => cases z
end
abbrev RIn := (List D → Prop) → En → Prop
def finI (K : PySem.W.Frag) (C : Addr) (ns : List Str) (p dx : Addr) (B0 : Hp) (G : List D → Prop) (Dn : Ends) : Prop :=
  ∀ ds fs' σ' H', G ds → FrmX p B0 H' → H' p = some (.ins C dx fs') → fs'.map (·.1) = ns → RepL K H' ds (fs'.map (·.2)) → Dn.nx σ' H'
def iD (K : PySem.W.Frag) (C : Addr) (ns : List Str) (p dx : Addr) (B0 : Hp) (r : RIn) : TS := fun Dn σ H => ∃ ρ G, Sta K B0 [] ρ σ H ∧ B0 p = some (.ins C dx []) ∧ r G ρ ∧ finI K C ns p dx B0 G Dn
def jD (K : PySem.W.Frag) (C : Addr) (ns : List Str) (p dx : Addr) (B0 : Hp) (nd : List Str) (r : List D → RIn) : TS := fun Dn σ H => ∃ ρ fs acc G, Sta K H [] ρ σ H ∧ FrmX p B0 H ∧ H p = some (.ins C dx fs) ∧ fs.map (·.1) = nd ∧
  RepL K H acc (fs.map (·.2)) ∧ plL acc = true ∧ plE ρ = true ∧ ρ[0]? = some (.v (.obj p)) ∧ r acc G ρ ∧ finI K C ns p dx B0 G Dn
section
variable {X : Cx} {C p dx : Addr} {ns nd : List Str} {B0 : Hp} {e : Expr} {st : Stmt} {sts : List Stmt} {pos : Pos}
theorem i_cons {r1 : RS} {r2 : RIn} (h1 : DS X B0 [] st r1) (h2 : PSs X sts (iD X.K C ns p dx B0 r2)) : PSs X (st :: sts) (iD X.K C ns p dx B0 (fun G ρ => r1 { nx := r2 G, rt := fun _ _ => False } ρ)) :=
  pss_imp (pss_cons h1.ps h2) fun Dn σ H ⟨ρ, G, S, hp, q, fin⟩ => ⟨ρ, _, S, q, ⟨fun ρ' σ' H' k S' q' => ⟨ρ', G, S', hp, q', fin⟩, fun _ _ _ _ _ _ _ _ z => z.elim, fun _ _ _ _ _ z => z.elim, fun _ _ _ _ _ z => z.elim, fun _ _ _ _ _ _ _ _ _ z => z.elim⟩⟩
theorem i_enter {r : List D → RIn} (h : PSs X sts (jD X.K C ns p dx B0 [] r)) : PSs X sts (iD X.K C ns p dx B0 (fun G ρ => plE ρ = true ∧ ρ[0]? = some (.v (.obj p)) ∧ r [] G ρ)) :=
  pss_imp h fun Dn σ H ⟨ρ, G, S, hp, ⟨q1, q2, q3⟩, fin⟩ => ⟨ρ, [], [], G, sta_re S q1, fun b o _ hb => S.frm b o hb (.inr (by simp)), S.frm p _ hp (.inr (by simp)), rfl, rfl, rfl, q1, q2, q3, fin⟩
theorem j_nil : PSs X [] (jD X.K C ns p dx B0 ns (fun acc G _ => G acc)) := pss_imp pss_nil fun Dn σ H ⟨ρ, fs, acc, G, S, fr, hp, en, rr, _, _, _, q, fin⟩ => fin acc fs σ H q fr hp en rr
theorem putF_new {f : Str} {v : V} : ∀ {fs : List (Str × V)}, f ∉ fs.map (·.1) → putF f v fs = fs ++ [(f, v)]
  | [], _ => rfl
  | (g, x) :: r, h => by
    rw [List.map_cons, List.mem_cons, not_or] at h
    show (if g = f then (g, v) :: r else (g, x) :: putF f v r) = (g, x) :: (r ++ [(f, v)])
    rw [if_neg (Ne.symm h.1), putF_new h.2]
theorem j_cons {f : Str} {re : RE} {r2 : List D → RIn} {pos' : Pos} {o : Expr} (c : Cls X.K C) (n : NoAttr X.K C f) (hnd : f ∉ nd) (hl : nd.length < 900) (ho : ∀ B, DE X B [] o (rVar 0)) (he : ∀ B, DE X B [] e re) (h2 : PSs X sts (jD X.K C ns p dx B0 (nd ++ [f]) r2))
    (hs : swapsWith e (some (.Attribute o f pos')) pos.line X.env = pure false := by rfl) :
    PSs X (.Assign [.Attribute o f pos'] e pos :: sts) (jD X.K C ns p dx B0 nd (fun acc G ρ => re ρ (kD fun d ρ1 => plE ρ1 = true ∧ ρ1[0]? = some (.v (.obj p)) ∧ pl d = true ∧ r2 (acc ++ [d]) G ρ1))) := by
  have hv : PE X e (fun σ H Q => tD X.K H [] re σ H Q) := ⟨fun pins s σ H Q I h => (he H).pe.run pins s σ H Q I h⟩
  have hoo : PE X o (fun σ H Q => tD X.K H [] (rVar 0) σ H Q) := ⟨fun pins s σ H Q I h => (ho H).pe.run pins s σ H Q I h⟩
  refine pss_imp (pss_cons (ps_fld hoo hv hs) h2) fun Dn σ H ⟨ρ, fs, acc, G, S, fr, hp, en, rr, pa, pe, p0, q, fin⟩ => ?_
  show tD X.K H [] re σ H _
  refine into (he H) S q fun w1 ρ1 v1 H1 hh k1 o1 S1 r1 => ?_
  obtain ⟨d, e1, q1, q2, q3, q4⟩ := hh.el
  subst e1
  have S1' := sta_re S1 q1
  refine into (ho H1) (P := fun w ρ' => w = .d (.obj p) ∧ ρ' = ρ1) S1' (rVar.mk (by unfold rd; rw [q2]) ⟨rfl, rfl⟩) fun w2 ρ2 v2 H2 ⟨e2, e3⟩ k2 o2 S2 r2 => ?_
  subst e2 e3
  have hp1 : H1 p = some (.ins C dx fs) := k1 p _ hp trivial
  have hp2 : H2 p = some (.ins C dx fs) := k2 p _ hp1 trivial
  have hfn : f ∉ fs.map (·.1) := by rw [en]; exact hnd
  have hlen : fs.length < 900 := by
    have := congrArg List.length en
    rw [List.length_map] at this
    omega
  refine ⟨p, C, dx, fs, r2, hp2, c, n, by omega, ?_⟩
  rw [putF_new hfn]
  have fx : FrmX p H2 (upd H2 p (.ins C dx (fs ++ [(f, v1)]))) := fun b o hb h => by rw [upd_ne hb]; exact h
  have fr2 : FrmX p B0 H2 := fun b o hb h => S2.frm b o (S1.frm b o (fr b o hb h) (.inr (by simp))) (.inr (by simp))
  refine ⟨ρ2, fs ++ [(f, v1)], acc ++ [d], G, sta_mv S2 q1 hp2 fx, fr2.trans fx, upd_same, by rw [List.map_append, en]; rfl, ?_, plL_append pa (by show (pl d && true) = true; rw [q3]; rfl), q1, q2, q4, fin⟩
  rw [List.map_append]
  exact RepL.append (RepL.mv hp2 fx acc pa (RepL.keep k2 acc (RepL.keep k1 acc rr))) ⟨v1, [], rfl, Rep.mv hp2 fx d q3 (Rep.keep k2 d r1), rfl⟩
end
section
variable {P : Program} {w : World} {K : PySem.W.Frag} {mg : Str → Option Value} {base : Heap} {x qual : Str} {params : Arguments} {body : List Stmt} {scope : Scope} {f : Addr} {fd : FuncData}
/-- the rule for an __init__ -/
theorem fnI_ok {C : Addr} {ns : List Str} {dvs : List V} {N ps : List Str} {k : Nat} (F : FunD K x qual params body scope dvs [] f fd) (Sc : FnScope N ps scope) (S : FS) (len : ∀ g, (S.args g).length + 1 = ps.length)
    (h : ∀ (cdv : Value) (A : Around) (outer : List Env) (s : Shared) (H : Hp) (E : XK) (g : S.α) (p dx : Addr), Room k (A.deeper (envOfC qual scope s.heap.objs.size f cdv)) → S.pre g → (∀ x cls dx H', S.exc g x → Frm [] H H' → XRep K H' x cls dx → E cls dx H') →
      ∃ r, PSs (cxOf (L2N.CX P w) P w K mg base N qual scope f cdv A outer s H E) body (iD K C ns p dx H r) ∧ r (fun ds => S.post g (.ins C ns ds)) (ini N.length (.obj p :: S.args g))) :
    FnOk P w K mg base (L2N.CX P w) (k + 1) f fd ps (spI K C S) := by
  refine F.ok Sc (fun vs H Q E ⟨g, p, dx, vr, e, _, r, _⟩ => by rw [e, List.length_cons, RepL.length r]; exact len g) fun cdv A outer s H vs Q E hr ⟨g, p, dx, vr, e, hp, r, pre, q, qx⟩ => ?_
  subst e
  obtain ⟨rs, hd, hm⟩ := h cdv A outer s H E g p dx hr pre qx
  exact ⟨_, hd, ini N.length (.obj p :: S.args g), _, sta_ini ⟨.ref p, vr, rfl, rfl, r⟩, hp, hm, fun ds fs' σ' H' hG fr hp' en rr => q _ H' hG fr ⟨p, dx, fs', rfl, hp', en, rr⟩⟩
end
/-! ### lists without a name: o[i], o[i] = e -/
section
variable {X : Cx} {B : Hp} {M : List Addr} {e a b c o : Expr} {es : List Expr} {pos : Pos}
def rIxG (ra rb : RE) : RE := fun ρ Q => ra ρ fun w ρ1 => ∃ q, w = .d (.obj q) ∧ rb ρ1 (kInt fun k ρ2 => ∃ (j : Nat) (ds : List D) (d : D), ρ2[j]? = some (.own q ds) ∧ atI ds k = some d ∧ Q (.d d) ρ2)
theorem kInt.mk {Q : Int → En → Prop} {i : Int} {ρ : En} (h : Q i ρ) : kInt Q (.d (.int i)) ρ := h
theorem de_ixG {ra rb : RE} (ha : DE X B M a ra) (hb : DE X B M b rb) (hs : PlainIx b := by intro _ _; rfl) : DE X B M (.Subscript a b pos) (rIxG ra rb) := by
  refine DE.mk' (pe_ix ix_seq ha.pe hb.pe hs) (fun ρ P P' w q => ha.mo ρ _ _ (fun w1 ρ1 ⟨q, e1, h⟩ => ⟨q, e1, hb.mo ρ1 _ _ (fun w2 ρ2 h => by
    obtain ⟨k, rfl, j, ds, d, e2, e3, p⟩ := h.el
    exact ⟨j, ds, d, e2, e3, w _ _ p⟩) h⟩) q) fun σ H Q ρ S q => ?_
  refine into ha S q fun w1 ρ1 v1 H1 ⟨q, e1, h⟩ k1 o1 S1 r1 => ?_
  subst e1
  obtain rfl : v1 = V.ref q := r1
  refine into hb S1 h fun w2 ρ2 v2 H2 h k2 o2 S2 r2 => ?_
  obtain ⟨k, e2, j, ds, d, e3, e4, p⟩ := h.el
  subst e2
  obtain ⟨vs, hp, rr⟩ := S2.own_at e3
  obtain ⟨v, hv, rv⟩ := atI_rep rr e4
  exact .inl ⟨q, vs, k, v, rfl, r2, .inl (.inl hp), hv, p v H2 (k1.trans k2) (o1.trans o2) S2 rv⟩
def rSetIxG (rv ro ri : RE) : RS := fun e ρ => rv ρ (kD fun d ρ1 => ro ρ1 fun w ρ2 => ∃ q, w = .d (.obj q) ∧ ri ρ2 (kInt fun k ρ3 => ∃ (j : Nat) (ds : List D) (i : Nat), ρ3[j]? = some (.own q ds) ∧ ixN ds.length k = some i ∧ e.nx (ρ3.set j (.own q (ds.set i d)))))
theorem ds_setIxG {i : Expr} {rv ro ri : RE} {ps : Pos} (hv : DE X B M e rv) (hx : DE X B M o ro) (hi : DE X B M i ri) (hs : swapsWithSole [.Subscript o i ps] e pos.line X.env = pure false := by rfl) (hw : swappedStores [.Subscript o i ps] e X.env = pure none := by rfl)
    (h1 : (assignEach [.Subscript o i ps] X.env).map (·.2) = [assign (.Subscript o i ps) X.env] := by rfl)
    (ha : ∀ v, assign (.Subscript o i ps) X.env v = (do
      let ov ← holding [v] (eval o X.env)
      let iv ← holding [v, ov] (eval i X.env)
      standAt ps
      holding [v, ov, iv] (setItem ov iv v)
      release [v, ov, iv] []) := by intro _; rfl) : DS X B M (.Assign [.Subscript o i ps] e pos) (rSetIxG rv ro ri) :=
  DS.mk' (ps_asg hv.pe (pg_sub hx.pe hi.pe set_list ha) hs hw h1) fun D σ H ρ en S q ok => into hv S q fun wv ρ1 v H1 hh k1 o1 S1 r1 => by
    obtain ⟨d, ed, hh⟩ := hh.el
    subst ed
    refine into hx S1 hh fun w ρ2 vo H2 ⟨p, ew, hh⟩ k2 o2 S2 r2 => ?_
    subst ew
    obtain rfl : vo = V.ref p := r2
    refine into hi S2 hh fun wi ρ3 vi H3 hh k3 o3 S3 r3 => ?_
    obtain ⟨k, ei, hh⟩ := hh.el
    obtain ⟨j, ds, i', e3, ej, q2⟩ := hh
    subst ei
    obtain ⟨vs, hp, rr⟩ := S3.own_at e3
    refine ⟨p, vs, k, i', rfl, r3, hp, by rw [RepL.length rr]; exact ej, ?_⟩
    have r1' := Rep.keep (k2.trans k3) d r1
    exact ok.nx _ _ _ (((k1.trans k2).trans k3).trans (Sta.keep_mut (i := j) hp)) (S3.mut e3 hp (RepL.set i' rr r1')) q2
end
end N
/-! NJ -/
set_option Elab.async false
set_option linter.all false
set_option maxRecDepth 100000
set_option maxHeartbeats 4000000
/-! NJ: what the head tells of properties. -/
namespace N
open PySem PySem.Spec PySem.W PySem.Calls PyProof.Rows L2
def getAd (K : Frag) (C : Addr) (m : Str) : Addr := match recIn K (He.ma K C m) "property" with
  | some (.ref g :: _) => g
  | _ => 0
def propB (K : Frag) (C : Addr) (m : Str) : Bool :=
  He.eqO (findIn K (.ref C) m) (some (some (.ref (He.ma K C m)))) && (He.eqO (specialIn K (.ref (He.ma K C m)) "__get__") (some (some (.builtin "property.__get__"))) && (decide (takesIn K (.ref (He.ma K C m)) = some true) &&
  (match recIn K (He.ma K C m) "property" with
  | some (.ref _ :: _) => true
  | _ => false)))
theorem propB_ok {K : Frag} {C : Addr} {m : Str} (h : propB K C m = true) : PropOf K C m (He.ma K C m) (getAd K C m) := by
  obtain ⟨h1, h⟩ := He.ba h
  obtain ⟨h2, h⟩ := He.ba h
  obtain ⟨h3, h4⟩ := He.ba h
  refine ⟨He.eqO_ok h1, He.eqO_ok h2, of_decide_eq_true h3, ?_⟩
  split at h4
  · rename_i g r e
    refine ⟨r, ?_⟩
    unfold getAd
    rw [e]
  · cases h4
def fnWA (K : Frag) (a : Addr) : He.FnW := match K.lookup a with
  | some ⟨_, _, .func fd, _⟩ => some (fd.name, fd.qualname, fd.params, fd.body, fd.scope, fd.globals, fd.closure, fd.builtins)
  | _ => none
def getB (K : Frag) (a : Addr) (q : Str) : Bool := keepIn K (.ref a) && (match K.lookup a with
  | some ⟨_, _, .func fd, _⟩ => codeIn K fd.code q && (He.dflB K fd.defaults [] && He.kwdB K fd.kwdefaults [])
  | _ => false)
def wantW (name qual : Str) (s : Stmt) : He.FnW := some (name, qual, defArgs s, .stmts (defBody s), defScope s, mainGlobals, [], builtinsNs)
theorem getFunD {K : Frag} {a : Addr} {name qual : Str} {s : Stmt} (e : fnWA K a = wantW name qual s) (c : getB K a qual = true) : ∃ fd, FunD K name qual (defArgs s) (defBody s) (defScope s) [] [] a fd := by
  obtain ⟨kp, c2⟩ := He.ba c
  unfold fnWA at e
  cases q : K.lookup a with
  | none =>
    rw [q] at c2
    cases c2
  | some o =>
    obtain ⟨oc, od, dt, osl⟩ := o
    rw [q] at c2 e
    cases dt with
    | func fd =>
      obtain ⟨n1, n2, n3, n4, n5, n6, n7, n8, n9, n10, n11, n12, n13, n14, n15⟩ := fd
      have e2 : (some (n1, n2, n3, n4, n5, n6, n7, n15) : He.FnW) = some (name, qual, defArgs s, .stmts (defBody s), defScope s, mainGlobals, [], builtinsNs) := e
      simp only [Option.some.injEq, Prod.mk.injEq] at e2
      obtain ⟨h1, h2, h3, h4, h5, h6, h7, h8⟩ := e2
      subst h1 h2 h3 h4 h5 h6 h7 h8
      have c3 : (codeIn K n13 n2 && (He.dflB K n8 [] && He.kwdB K n9 [])) = true := c2
      obtain ⟨k1, k2⟩ := He.ba c3
      obtain ⟨k3, k4⟩ := He.ba k2
      exact ⟨_, ⟨oc, od, n8, n9, n10, n11, n12, n13, n14, osl, rfl, q, k1, He.dflB_ok k3, He.kwdB_ok k4⟩, kp⟩
    | _ => cases c2
/-! ### the hook: as hookY, with the getters -/
abbrev Gi : Type := Str × Str × He.FnW
def gets (K : Frag) (gi : List Gi) : List He.FnW := gi.map fun p => fnWA K (getAd K (He.ga K p.1) p.2.1)
def obsZ (n : Nat) (fa : List He.Fa) (fn : List He.DefD) (tf : List He.Defn) (ex : Frag → Bool) (fi : List (Str × FnI)) (gi : List Gi) (g : Addr → Option Obj) : (He.AlX × List FnI) × List He.FnW :=
  (obsY n fa fn tf ex fi g, gets (frS g n) gi)
def valZ (fn : List He.DefD) (fi : List (Str × FnI)) (gi : List Gi) (w : World) : (He.AlX × List FnI) × List He.FnW := (valY fn fi w, gi.map (·.2.2))
structure SaysZ (fa : List He.Fa) (fn : List He.DefD) (tf : List He.Defn) (ex : Frag → Bool) (fi : List (Str × FnI)) (gi : List Gi) (w : World) (h : Heap) (K : Frag) : Prop where
  y : SaysY fa fn tf ex fi w h K
  get : ∀ p ∈ gi, fnWA K (getAd K (He.ga K p.1) p.2.1) = p.2.2
def hookZ (n : Nat) (fa : List He.Fa) (fn : List He.DefD) (tf : List He.Defn) (ex : Frag → Bool) (fi : List (Str × FnI)) (gi : List Gi) : Hook where
  α := (He.AlX × List FnI) × List He.FnW
  obs := fun s => obsZ n fa fn tf ex fi gi s.heap.get?
  val := fun w => valZ fn fi gi w
  says := fun w h => ∃ K : Frag, K.In h ∧ SaysZ fa fn tf ex fi gi w h K
  of := fun _ _ e => ⟨_, He.frT_in, saysY_of (congrArg (fun z => z.1) e), fun p hp => List.map_inj_left.mp (congrArg (fun z => z.2) e) p hp⟩
  keeps := fun _ _ _ ⟨K, hK, c⟩ k => ⟨K, Frag.In.keeps hK k, ⟨⟨c.y.x.t, c.y.x.more, c.y.x.hd, c.y.x.out, fun p hp => k _ _ (c.y.x.empty p hp)⟩, c.y.ini⟩, c.get⟩
theorem obsZ_eq {n : Nat} {fa : List He.Fa} {fn : List He.DefD} {tf : List He.Defn} {ex : Frag → Bool} {fi : List (Str × FnI)} {gi : List Gi} {g : Addr → Option Obj} {s : Shared} (h : ∀ a, g a = s.heap.get? a) : obsZ n fa fn tf ex fi gi g = (hookZ n fa fn tf ex fi gi).obs s := by
  have e : g = s.heap.get? := funext h
  rw [e] <;> rfl
/-- the j-th statement of a class -/
def methS (s : Stmt) (j : Nat) : Stmt := match s with
  | .ClassDef _ _ _ b _ _ _ _ _ _ _ => b.getD j (.Pass ⟨0, 0, 0, 0⟩)
  | s => s
section
variable {P : Program} {w : World} {K : PySem.W.Frag} {mg : Str → Option Value} {base : Heap} {x qual : Str} {params : Arguments} {body : List Stmt} {scope : Scope} {f : Addr} {fd : FuncData}
theorem hasM_of {C : Addr} {ps : List Str} {k : Nat} {sp : Sp} {m : Str} (F : FunD K x qual params body scope [] [] f fd) (gm : Meth K C m f) (ok : FnOk P w K mg base (L2N.CX P w) k f fd ps sp)
    (h : ∀ (kV doc pm : Value) (an : Option Addr) (cdv ct : Value) (us : List Value), us.length = ps.length → bindArgs (PySem.W.fnOf x qual params body scope .none kV doc pm an cdv ct) ⟨us, []⟩ = pure (ps.zip us)) : HasM P w K mg base C m k ps sp :=
  ⟨f, fd, gm, F.bindsN h, ok⟩
theorem hasY_of {ps : List Str} {k : Nat} {sp : Sp} {y : Str} (F : FunD K x qual params body scope [] [] f fd) (gm : mg y = some (.ref f)) (ok : FnOk P w K mg base (L2N.CX P w) k f fd ps sp)
    (h : ∀ (kV doc pm : Value) (an : Option Addr) (cdv ct : Value) (us : List Value), us.length = ps.length → bindArgs (PySem.W.fnOf x qual params body scope .none kV doc pm an cdv ct) ⟨us, []⟩ = pure (ps.zip us)) : Has P w K mg base y k ps sp :=
  ⟨f, fd, gm, F.kp, F.bindsN h, ok⟩
theorem hasPr_of {C p : Addr} {k : Nat} {sp : Sp} {m : Str} (F : FunD K x qual params body scope [] [] f fd) (gm : PropOf K C m p f) (ok : FnOk P w K mg base (L2N.CX P w) k f fd ["self"] sp)
    (h : ∀ (kV doc pm : Value) (an : Option Addr) (cdv ct : Value) (us : List Value), us.length = (["self"] : List Str).length → bindArgs (PySem.W.fnOf x qual params body scope .none kV doc pm an cdv ct) ⟨us, []⟩ = pure ((["self"] : List Str).zip us)) : HasPr P w K mg base C m k sp :=
  ⟨p, f, fd, gm, F.bindsN h, ok⟩
theorem hasMk_of {C : Addr} {ps : List Str} {k : Nat} {sp : Sp} {y : Str} (F : FunD K x qual params body scope [] [] f fd) (gc : mg y = some (.ref C)) (gm : Mk K C f) (ok : FnOk P w K mg base (L2N.CX P w) k f fd ps sp)
    (h : ∀ (kV doc pm : Value) (an : Option Addr) (cdv ct : Value) (us : List Value), us.length = ps.length → bindArgs (PySem.W.fnOf x qual params body scope .none kV doc pm an cdv ct) ⟨us, []⟩ = pure (ps.zip us)) : HasMk P w K mg base y C k ps sp :=
  ⟨f, fd, gc, gm, F.bindsN h, ok⟩
end
end N
/-! NF -/
set_option Elab.async false
set_option linter.all false
set_option maxRecDepth 100000
set_option maxHeartbeats 1000000
/-! NF: zip of two lists or of two tuples; a loop whose target is a pair. -/
namespace N
open PySem PySem.Spec PyProof.Rows L2
section
variable {X : Cx} {B : Hp} {M : List Addr} {e a b c : Expr} {es : List Expr} {pos : Pos}
def iZpA (ra : RA) : RI := fun ρ P => ra ρ fun ws ρ1 => ∃ t w1 w2 as bs, ws = [w1, w2] ∧ sq ρ1 w1 = some (t, as) ∧ sq ρ1 w2 = some (t, bs) ∧ P (min as.length bs.length) (zipIt as bs) (fun ρ2 => okW ρ1 as w1 ρ2 ∧ okW ρ1 bs w2 ρ2) ρ1
theorem di_zipA {p tpos : Pos} {elts : List Expr} {kk : Nat} {ra : RA} (hm : X.mg "zip" = none) (ha : DA X B M [a, b] ra) (hg : Gl X "zip" := by rfl) (hs : starEach [a, b] X.env = (false, eval a X.env) :: starEach [b] X.env := by rfl) (hpl : (backTo pos (starEach [b] X.env)).any (·.1) = false := by rfl) :
    DI2 X B M (.Tuple elts kk tpos) (.Call (.Name "zip" p) [a, b] [] pos) (iZpA ra) := by
  refine ⟨pi_imp (RZ.pi_zipA hg hm ha.pa hs hpl) fun σ H R ⟨ρ, S, q⟩ => ?_, fun ρ P P' w q => ha.mo ρ _ _ (fun ws ρ1 ⟨t, w1, w2, as, bs, e, e1, e2, z⟩ => ⟨t, w1, w2, as, bs, e, e1, e2, w _ _ _ _ z⟩) q⟩
  refine intoA ha S q fun ws ρ1 xs H1 ⟨t, w1, w2, as, bs, e, e1, e2, z⟩ k1 o1 S1 r1 => ?_
  subst e
  obtain ⟨v, vr, rfl, r1, v2, vr2, rfl, r2, rn⟩ := r1
  obtain rfl : vr2 = [] := rn
  obtain ⟨a1, vs1, rfl, s1, rr1⟩ := sq_read S1 r1 e1
  obtain ⟨a2, vs2, rfl, s2, rr2⟩ := sq_read S1 r2 e2
  have rd : ∀ {ρ2 : En} {σ2 : L2.St} {H2 : Hp}, Keep H1 H2 → Sta X.K B M ρ2 σ2 H2 → okW ρ1 as w1 ρ2 ∧ okW ρ1 bs w2 ρ2 → ∃ us1 us2, SqV X.K H2 t a1 us1 ∧ RepL X.K H2 as us1 ∧ SqV X.K H2 t a2 us2 ∧ RepL X.K H2 bs us2 := fun {ρ2 σ2 H2} kk S2 ok => by
    obtain ⟨us1, h1, h2⟩ := okW_read r1 e1 s1 rr1 kk S2 ok.1
    obtain ⟨us2, h3, h4⟩ := okW_read r2 e2 s2 rr2 kk S2 ok.2
    exact ⟨us1, us2, h1, h2, h3, h4⟩
  cases t with
  | false =>
    refine ⟨a1, a2, vs1, vs2, rfl, .inl ⟨.inl s1, .inl s2, z _ _ k1 o1 S1 ⟨fun k ρ2 σ2 H2 kk S2 ok lt => ?_, fun k ρ2 σ2 H2 x H' kk S2 ok lt y => ?_, fun ρ2 σ2 H2 kk S2 ok => ?_⟩⟩⟩
    · obtain ⟨us1, us2, h1, h2, h3, h4⟩ := rd kk S2 ok
      have l1 : k < us1.length := by rw [RepL.length h2]; omega
      have l2 : k < us2.length := by rw [RepL.length h4]; omega
      exact ⟨us1, us2, us1[k], us2[k], .inl h1, .inl h3, List.getElem?_eq_getElem l1, List.getElem?_eq_getElem l2⟩
    · obtain ⟨us1, us2, h1, h2, h3, h4⟩ := rd kk S2 ok
      obtain ⟨T, x1, x2, rfl, nT, rfl, y1, y2⟩ := y
      have d1 : as[k]? = some as[k] := List.getElem?_eq_getElem (by omega)
      have d2 : bs[k]? = some bs[k] := List.getElem?_eq_getElem (by omega)
      obtain ⟨u1, hu1, ru1⟩ := RepL.get h2 d1
      obtain ⟨u2, hu2, ru2⟩ := RepL.get h4 d2
      have z1 := y1 us1 (.inl h1)
      have z2 := y2 us2 (.inl h3)
      rw [hu1] at z1
      rw [hu2] at z2
      cases z1
      cases z2
      have sm := same_upd (o := .tup [x1, x2]) nT
      refine ⟨sm, _, ⟨_, _, d1, d2, rfl⟩, fun dx dy ed => ?_⟩
      have ed := D.tup.inj ed
      simp only [List.cons.injEq, and_true] at ed
      obtain ⟨rfl, rfl⟩ := ed
      exact ⟨T, x1, x2, rfl, .inl (.inl upd_same), Rep.keep (Keep.of sm) _ ru1, Rep.keep (Keep.of sm) _ ru2⟩
    · obtain ⟨us1, us2, h1, h2, h3, h4⟩ := rd kk S2 ok
      exact ⟨us1, us2, .inl h1, .inl h3, by rw [RepL.length h2, RepL.length h4]; omega⟩
  | true =>
    refine ⟨a1, a2, vs1, vs2, rfl, .inr ⟨TpN.sq s1, TpN.sq s2, z _ _ k1 o1 S1 ⟨fun k ρ2 σ2 H2 kk S2 ok lt => ?_, fun k ρ2 σ2 H2 x H' kk S2 ok lt y => ?_, fun ρ2 σ2 H2 kk S2 ok => ?_⟩⟩⟩
    · obtain ⟨us1, us2, h1, h2, h3, h4⟩ := rd kk S2 ok
      have l1 : k < us1.length := by rw [RepL.length h2]; omega
      have l2 : k < us2.length := by rw [RepL.length h4]; omega
      exact ⟨us1, us2, us1[k], us2[k], TpN.sq h1, TpN.sq h3, List.getElem?_eq_getElem l1, List.getElem?_eq_getElem l2⟩
    · obtain ⟨us1, us2, h1, h2, h3, h4⟩ := rd kk S2 ok
      obtain ⟨T, x1, x2, rfl, nT, rfl, y1, y2⟩ := y
      have d1 : as[k]? = some as[k] := List.getElem?_eq_getElem (by omega)
      have d2 : bs[k]? = some bs[k] := List.getElem?_eq_getElem (by omega)
      obtain ⟨u1, hu1, ru1⟩ := RepL.get h2 d1
      obtain ⟨u2, hu2, ru2⟩ := RepL.get h4 d2
      have z1 := y1 us1 (TpN.sq h1)
      have z2 := y2 us2 (TpN.sq h3)
      rw [hu1] at z1
      rw [hu2] at z2
      cases z1
      cases z2
      have sm := same_upd (o := .tup [x1, x2]) nT
      refine ⟨sm, _, ⟨_, _, d1, d2, rfl⟩, fun dx dy ed => ?_⟩
      have ed := D.tup.inj ed
      simp only [List.cons.injEq, and_true] at ed
      obtain ⟨rfl, rfl⟩ := ed
      exact ⟨T, x1, x2, rfl, .inl (.inl upd_same), Rep.keep (Keep.of sm) _ ru1, Rep.keep (Keep.of sm) _ ru2⟩
    · obtain ⟨us1, us2, h1, h2, h3, h4⟩ := rd kk S2 ok
      exact ⟨us1, us2, TpN.sq h1, TpN.sq h3, by rw [RepL.length h2, RepL.length h4]; omega⟩
def rFor2 (i j : Nat) (ri : RI) (rb : RS) : RS := fun e ρ => ri ρ fun n it ok ρ1 => ∃ I : Nat → En → Prop, I 0 ρ1 ∧ (∀ k ρ2, k ≤ n → I k ρ2 → ok ρ2) ∧
  (∀ k d ρ2, k < n → it k d → I k ρ2 → kP (fun x y => rb { nx := I (k + 1), rt := e.rt, bk := e.nx, ct := I (k + 1), ro := e.ro } ((ρ2.set i (.v x)).set j (.v y))) d) ∧ (∀ ρ2, I n ρ2 → e.nx ρ2)
theorem ds_for2 {x y : Str} {px py pt : Pos} {kt : Nat} (i j : Nat) {iter : Expr} {body : List Stmt} {ri : RI} {rb : RS} (hN : X.N.Nodup) (hp : PassesOwn (model X.prog X.w) X.A X.env X.xe) (hi : DI2 X B M (.Tuple [.Name x px, .Name y py] kt pt) iter ri) (hb : DSs X B M body rb) (hc : X.calm = true := by rfl)
    (hni : X.N[i]? = some x := by rfl) (hnj : X.N[j]? = some y := by rfl) (hx : Loc X.env.scope x := by first | exact Or.inl rfl | exact Or.inr rfl) (hy : Loc X.env.scope y := by first | exact Or.inl rfl | exact Or.inr rfl)
    (hn : (assignEach [.Name x px, .Name y py] X.env).length = 2 := by rfl) (hst : (assignEach [.Name x px, .Name y py] X.env).findIdx? (·.1) = none := by rfl)
    (hs1 : (assignEach [.Name x px, .Name y py] X.env).map (·.2) = assign (.Name x px) X.env :: (assignEach [.Name y py] X.env).map (·.2) := by rfl) (hs2 : (assignEach [.Name y py] X.env).map (·.2) = assign (.Name y py) X.env :: (assignEach [] X.env).map (·.2) := by rfl)
    (hfx : X.fn x = true ∨ X.env.scope.names.lookup x = some .local := by first | exact .inl rfl | exact .inr rfl | assumption) (hfy : X.fn y = true ∨ X.env.scope.names.lookup y = some .local := by first | exact .inl rfl | exact .inr rfl | assumption)
    (hs : ∀ x, foldedSetIterable iter X.env x = pure x := by intro _; rfl) : DS X B M (.For (.Tuple [.Name x px, .Name y py] kt pt) iter body [] pos) (rFor2 i j ri rb) := by
  refine DS.mk' (ps_for hp hc hi.pi (pg_tup hc (pgs_cons (pg_name hN hni hx hfx) (pgs_cons (pg_name hN hnj hy hfy) pgs_nil hs2) hs1) hn hst) hb.pss hs) fun D σ H ρ en S q ok => ?_
  refine ⟨ρ, S, hi.mo ρ _ _ (fun n it okk ρ1 ⟨I, i0, iok, istep, iend⟩ => ?_) q⟩
  intro J H1 k1 o1 S1 wk
  refine ⟨fun k m σ' H' => m = n - k ∧ k ≤ n ∧ Keep H1 H' ∧ ∃ ρ2, Sta X.K B M ρ2 σ' H' ∧ I k ρ2, ⟨n, rfl, Nat.zero_le _, Keep.refl _, ρ1, S1, i0⟩, ?_⟩
  rintro k m σ' H' ⟨rfl, hk, kk, ρ2, S2, ik⟩
  have okk2 := iok k ρ2 hk ik
  by_cases hlt : k < n
  · refine .inr ⟨wk.go k ρ2 σ' H' kk S2 okk2 hlt, fun σ3 H3 => k + 1 ≤ n ∧ Keep H1 H3 ∧ ∃ ρ3, Sta X.K B M ρ3 σ3 H3 ∧ I (k + 1) ρ3, fun σ3 H3 ⟨h1, h2, h3⟩ => ⟨n - (k + 1), by omega, rfl, h1, h2, h3⟩, fun x H3 y => ?_⟩
    obtain ⟨sm, d, hit, rd⟩ := wk.yld k ρ2 σ' H' x H3 kk S2 okk2 hlt y
    obtain ⟨dx, dy, ed, q3⟩ := (istep k d ρ2 hlt hit ik).el
    subst ed
    obtain ⟨at3, v1, v2, ev3, hs3, rx, ry⟩ := rd _ _ rfl
    subst ev3
    have S3 := ((S2.same sm).put (i := i) rx).put (i := j) ry
    have kk3 := kk.trans (Keep.of sm)
    refine ⟨at3, [v1, v2], rfl, hs3, rfl, v1, _, rfl, v2, _, rfl, rfl, ?_⟩
    exact ⟨_, _, S3, q3, ⟨fun ρ4 σ4 H4 k4 S4 q4 => ⟨hlt, kk3.trans k4, ρ4, S4, q4⟩, fun d4 ρ4 σ4 v4 H4 k4 S4 r4 q4 => ok.rt d4 ρ4 σ4 v4 H4 ((k1.trans kk3).trans k4) S4 r4 q4,
      fun ρ4 σ4 H4 k4 S4 q4 => ok.nx ρ4 σ4 H4 ((k1.trans kk3).trans k4) S4 q4, fun ρ4 σ4 H4 k4 S4 q4 => ⟨hlt, kk3.trans k4, ρ4, S4, q4⟩, fun i4 p4 d4 ρ4 σ4 H4 k4 S4 e4 q4 => ok.ro i4 p4 d4 ρ4 σ4 H4 ((k1.trans kk3).trans k4) S4 e4 q4⟩⟩
  · have e : k = n := by omega
    subst e
    exact .inl ⟨wk.stop ρ2 σ' H' kk S2 okk2, ok.nx ρ2 σ' H' (k1.trans kk) S2 (iend ρ2 ik)⟩
/-- xs[lo:hi] of a list or a tuple, as data -/
def cutB (t : Bool) (ds : List D) : D := if t = true then .tup ds else .lst ds
def rSliceB (ra : RE) (rl rh : RO) : RE := fun ρ Q => ra ρ fun w ρ1 => rl ρ1 fun l ρ2 => rh ρ2 fun h ρ3 => ∃ t ds, sq ρ3 w = some (t, ds) ∧ Q (.d (cutB t (cutD ds l h))) ρ3
theorem de_sliceB {lo hi : Option Expr} {ra : RE} {rl rh : RO} {p2 : Pos} (ha : DE X B M a ra) (hl : DO X B M lo rl) (hh : DO X B M hi rh) : DE X B M (.Subscript a (.Slice lo hi none p2) pos) (rSliceB ra rl rh) := by
  refine DE.mk' (pe_frzC (pe_slice (SlR.or sl_list sl_tupN) ha.pe hl.po hh.po)) (fun ρ P P' w q => ha.mo ρ _ _ (fun w1 ρ1 q => hl.mo ρ1 _ _ (fun l ρ2 q => hh.mo ρ2 _ _ (fun h ρ3 ⟨t, ds, e, q⟩ => ⟨t, ds, e, w _ _ q⟩) q) q) q) fun σ H Q ρ S q => ?_
  refine into ha S q fun w1 ρ1 v H1 q k1 o1 S1 r1 => intoO hl S1 q fun l ρ2 H2 q k2 o2 S2 => intoO hh S2 q fun h ρ3 H3 q k3 o3 S3 => ?_
  obtain ⟨t, ds, e, q⟩ := q
  obtain ⟨p, vs, rfl, s, rr⟩ := sq_read S3 (WOk.keep (k2.trans k3) (o2.trans o3) r1) e
  have kk := (k1.trans k2).trans k3
  have oo := (o1.trans o2).trans o3
  cases t with
  | false =>
    refine .inl ⟨p, vs, rfl, .inl s, fun l' hl' => ?_⟩
    obtain ⟨S4, n4⟩ := NewAt.laid S3 hl' (RepL.cut rr l h)
    refine .inr ⟨l', _, rfl, upd_same, fun ob hc => ?_⟩
    obtain ⟨k5, S5⟩ := Sta.freeze (o := ob) S4 upd_same (.inl n4.nB) n4.nO
    exact q _ _ (kk.trans ((Keep.of (same_upd hl')).trans k5)) oo S5 ⟨l', _, rfl, ⟨ob, upd_same⟩, RepL.keep ((Keep.of (same_upd hl')).trans k5) _ (RepL.cut rr l h)⟩
  | true =>
    have s : TpN X.K H3 p vs := s
    refine .inr ⟨p, vs, rfl, TpN.sq s, fun z => ?_, fun z ob l' hd hl' => ?_⟩
    · refine .inl (q _ H3 kk oo S3 ⟨p, _, rfl, s, ?_⟩)
      have : cutD ds l h = ds := by
        rw [RepL.length rr] at z
        unfold cutD
        rw [z.1, z.2, List.drop_zero, Nat.sub_zero, List.take_length]
      rw [this]
      exact rr
    · exact .inl (q _ _ (kk.trans (Keep.of (same_upd hl'))) oo (S3.same (same_upd hl')) ⟨l', _, rfl, .inl ⟨ob, hd, upd_same⟩, RepL.keep (Keep.of (same_upd hl')) _ (RepL.cut rr l h)⟩)
end
end N
/-! NM -/
/-! ### the hook with the addresses of K given as a list -/
set_option Elab.async false
set_option linter.all false
set_option maxRecDepth 100000
namespace N
open PySem PySem.Spec PySem.W PySem.Calls PyProof.Rows L2
def obsM (as : List Addr) (fa : List He.Fa) (fn : List He.DefD) (tf : List He.Defn) (ex : Frag → Bool) (fi : List (Str × FnI)) (gi : List Gi) (g : Addr → Option Obj) : (He.AlX × List FnI) × List He.FnW :=
  (((He.obsT fa fn [] (He.frT g as), ex (He.frT g as) && He.tabsB g tf (He.frT g as)), fi.map fun p => iniAt (He.frT g as) p.1), gets (He.frT g as) gi)
theorem saysM_of {as : List Addr} {fa : List He.Fa} {fn : List He.DefD} {tf : List He.Defn} {ex : Frag → Bool} {fi : List (Str × FnI)} {gi : List Gi} {w : World} {h : Heap} (e : obsM as fa fn tf ex fi gi h.get? = valZ fn fi gi w) : SaysZ fa fn tf ex fi gi w h (He.frT h.get? as) := by
  have e0 : (He.obsT fa fn [] (He.frT h.get? as), ex (He.frT h.get? as) && He.tabsB h.get? tf (He.frT h.get? as)) = He.valX fn [] w := congrArg (fun z => z.1.1) e
  have e3 : (fi.map fun p => iniAt (He.frT h.get? as) p.1) = fi.map (·.2) := congrArg (fun z => z.1.2) e
  obtain ⟨h1, h2⟩ := He.ba (show (ex (He.frT h.get? as) && He.tabsB h.get? tf (He.frT h.get? as)) = true from congrArg (fun z : He.AlX => z.2) e0)
  have at_ : ∀ p ∈ tf, codeHdIn (He.frT h.get? as) (He.cT (He.frT h.get? as) p).1 (He.cT (He.frT h.get? as) p).2 = true ∧ ∃ o, h.get? (He.cT (He.frT h.get? as) p).2 = some o ∧ He.emptyTab o = true := fun p hp => by
    obtain ⟨h3, h4⟩ := He.ba (List.all_eq_true.mp h2 p hp)
    split at h4
    · exact ⟨h3, _, by assumption, h4⟩
    · cases h4
  refine ⟨⟨⟨congrArg (fun z : He.AlX => z.1) e0, h1, fun p hp => (at_ p hp).1, fun p hp => ?_, fun p hp => ?_⟩, fun p hp => List.map_inj_left.mp e3 p hp⟩, fun p hp => List.map_inj_left.mp (congrArg (fun z => z.2) e) p hp⟩
  · obtain ⟨o, q, z⟩ := (at_ p hp).2
    exact He.frT_none q z
  · obtain ⟨o, q, z⟩ := (at_ p hp).2
    rw [q, He.emptyTab_eq z]
def hookM (as : List Addr) (fa : List He.Fa) (fn : List He.DefD) (tf : List He.Defn) (ex : Frag → Bool) (fi : List (Str × FnI)) (gi : List Gi) : Hook where
  α := (He.AlX × List FnI) × List He.FnW
  obs := fun s => obsM as fa fn tf ex fi gi s.heap.get?
  val := fun w => valZ fn fi gi w
  says := fun w h => ∃ K : Frag, K.In h ∧ SaysZ fa fn tf ex fi gi w h K
  of := fun _ _ e => ⟨_, He.frT_in, saysM_of e⟩
  keeps := fun _ _ _ ⟨K, hK, c⟩ k => ⟨K, Frag.In.keeps hK k, ⟨⟨c.y.x.t, c.y.x.more, c.y.x.hd, c.y.x.out, fun p hp => k _ _ (c.y.x.empty p hp)⟩, c.y.ini⟩, c.get⟩
theorem obsM_eq {as : List Addr} {fa : List He.Fa} {fn : List He.DefD} {tf : List He.Defn} {ex : Frag → Bool} {fi : List (Str × FnI)} {gi : List Gi} {g : Addr → Option Obj} {s : Shared} (h : ∀ a, g a = s.heap.get? a) : obsM as fa fn tf ex fi gi g = (hookM as fa fn tf ex fi gi).obs s := by
  have e : g = s.heap.get? := funext h
  rw [e] <;> rfl
end N
/-! C0 -/
set_option Elab.async false
set_option linter.all false
set_option maxRecDepth 100000
set_option maxHeartbeats 8000000
namespace Q
open PySem PySem.Spec PyProof.Rows L2 N
def topS (i : Nat) : Stmt := PySem.Challenge.pw_staysandturns_k09_house_overs_of_lots.main.body.getD i (.Pass ⟨0, 0, 0, 0⟩)
abbrev Fd (K : PySem.W.Frag) (x : Str) (st : Stmt) (dv : List V) (f : Addr) (fd : FuncData) : Prop := FunD K x x (defArgs st) (defBody st) (defScope st) dv [] f fd
abbrev nsF_Table : List Str := ["own_turns", "own_begins", "own_ends"]
theorem ixF_Table_own_turns : ixS "own_turns" nsF_Table = some 0 := by decide +kernel
theorem ixF_Table_own_begins : ixS "own_begins" nsF_Table = some 1 := by decide +kernel
theorem ixF_Table_own_ends : ixS "own_ends" nsF_Table = some 2 := by decide +kernel
theorem ixN_Table_turn : ixS "turn" nsF_Table = none := by decide +kernel
theorem ixN_Table_stay : ixS "stay" nsF_Table = none := by decide +kernel
theorem ixN_Table_begin : ixS "begin" nsF_Table = none := by decide +kernel
theorem ixN_Table_end : ixS "end" nsF_Table = none := by decide +kernel
theorem ixN_Table_top : ixS "top" nsF_Table = none := by decide +kernel
theorem ixN_Table_all_slots : ixS "all_slots" nsF_Table = none := by decide +kernel
theorem ixN_Table_price_at : ixS "price_at" nsF_Table = none := by decide +kernel
theorem ixN_Table_with_price : ixS "with_price" nsF_Table = none := by decide +kernel
theorem ixN_Table_only : ixS "only" nsF_Table = none := by decide +kernel
/-- what is known of the text's names -/
structure Tx (K : PySem.W.Frag) (mg : Str → Option Value) : Prop where
  b_ValueError : mg "ValueError" = none
  b_all : mg "all" = none
  b_any : mg "any" = none
  b_bool : mg "bool" = none
  b_int : mg "int" = none
  b_isinstance : mg "isinstance" = none
  b_iter : mg "iter" = none
  b_len : mg "len" = none
  b_list : mg "list" = none
  b_max : mg "max" = none
  b_min : mg "min" = none
  b_property : mg "property" = none
  b_range : mg "range" = none
  b_str : mg "str" = none
  b_sum : mg "sum" = none
  b_super : mg "super" = none
  b_tuple : mg "tuple" = none
  b_zip : mg "zip" = none
  g_GREATEST_COUNT : ∃ t, mg "GREATEST_COUNT" = some (.int 1000000000 t)
  g_KINDS_MOST : ∃ t, mg "KINDS_MOST" = some (.int 8 t)
  g_MOST_KINDS : ∃ t, mg "MOST_KINDS" = some (.int 8 t)
  g_PRICE_MOST : ∃ t, mg "PRICE_MOST" = some (.int 9999 t)
  c_BadBatch : mg "BadBatch" = some (.ref (He.ga K "BadBatch"))
  x_BadBatch : PySem.W.excIn K (He.ga K "BadBatch") He.veBase "ValueError.__new__" = true ∧ PySem.W.keepIn K (.ref (He.ga K "BadBatch")) = true ∧ PySem.W.subIn K (.ref (He.ga K "BadBatch")) (.type "BaseException") = some true ∧ PySem.W.typeIn K (.ref (He.ga K "BadBatch")) = some (.type "type")
  c_BadKind : mg "BadKind" = some (.ref (He.ga K "BadKind"))
  x_BadKind : PySem.W.excIn K (He.ga K "BadKind") He.veBase "ValueError.__new__" = true ∧ PySem.W.keepIn K (.ref (He.ga K "BadKind")) = true ∧ PySem.W.subIn K (.ref (He.ga K "BadKind")) (.type "BaseException") = some true ∧ PySem.W.typeIn K (.ref (He.ga K "BadKind")) = some (.type "type")
  c_BadLot : mg "BadLot" = some (.ref (He.ga K "BadLot"))
  x_BadLot : PySem.W.excIn K (He.ga K "BadLot") He.veBase "ValueError.__new__" = true ∧ PySem.W.keepIn K (.ref (He.ga K "BadLot")) = true ∧ PySem.W.subIn K (.ref (He.ga K "BadLot")) (.type "BaseException") = some true ∧ PySem.W.typeIn K (.ref (He.ga K "BadLot")) = some (.type "type")
  c_BadNumber : mg "BadNumber" = some (.ref (He.ga K "BadNumber"))
  x_BadNumber : PySem.W.excIn K (He.ga K "BadNumber") He.veBase "ValueError.__new__" = true ∧ PySem.W.keepIn K (.ref (He.ga K "BadNumber")) = true ∧ PySem.W.subIn K (.ref (He.ga K "BadNumber")) (.type "BaseException") = some true ∧ PySem.W.typeIn K (.ref (He.ga K "BadNumber")) = some (.type "type")
  c_BadOrder : mg "BadOrder" = some (.ref (He.ga K "BadOrder"))
  x_BadOrder : PySem.W.excIn K (He.ga K "BadOrder") He.veBase "ValueError.__new__" = true ∧ PySem.W.keepIn K (.ref (He.ga K "BadOrder")) = true ∧ PySem.W.subIn K (.ref (He.ga K "BadOrder")) (.type "BaseException") = some true ∧ PySem.W.typeIn K (.ref (He.ga K "BadOrder")) = some (.type "type")
  c_BadTable : mg "BadTable" = some (.ref (He.ga K "BadTable"))
  x_BadTable : PySem.W.excIn K (He.ga K "BadTable") He.veBase "ValueError.__new__" = true ∧ PySem.W.keepIn K (.ref (He.ga K "BadTable")) = true ∧ PySem.W.subIn K (.ref (He.ga K "BadTable")) (.type "BaseException") = some true ∧ PySem.W.typeIn K (.ref (He.ga K "BadTable")) = some (.type "type")
  c_Outside : mg "Outside" = some (.ref (He.ga K "Outside"))
  x_Outside : PySem.W.excIn K (He.ga K "Outside") He.veBase "ValueError.__new__" = true ∧ PySem.W.keepIn K (.ref (He.ga K "Outside")) = true ∧ PySem.W.subIn K (.ref (He.ga K "Outside")) (.type "BaseException") = some true ∧ PySem.W.typeIn K (.ref (He.ga K "Outside")) = some (.type "type")
  cl_Table : Cls K (He.ga K "Table")
  na_Table_own_turns : NoAttr K (He.ga K "Table") "own_turns"
  na_Table_own_begins : NoAttr K (He.ga K "Table") "own_begins"
  na_Table_own_ends : NoAttr K (He.ga K "Table") "own_ends"
  c_BadFold : mg "BadFold" = some (.ref (He.ga K "BadFold"))
  c_BadPaper : mg "BadPaper" = some (.ref (He.ga K "BadPaper"))
  c_BadRing : mg "BadRing" = some (.ref (He.ga K "BadRing"))
  c_BadRow : mg "BadRow" = some (.ref (He.ga K "BadRow"))
  c_BadRule : mg "BadRule" = some (.ref (He.ga K "BadRule"))
  c_BadSlot : mg "BadSlot" = some (.ref (He.ga K "BadSlot"))
  c_BadText : mg "BadText" = some (.ref (He.ga K "BadText"))
  c_Gains : mg "Gains" = some (.ref (He.ga K "Gains"))
  c_Table : mg "Table" = some (.ref (He.ga K "Table"))
  c_TooMany : mg "TooMany" = some (.ref (He.ga K "TooMany"))
  c_WorksError : mg "WorksError" = some (.ref (He.ga K "WorksError"))
section
variable {P : Program} {w : World} {K : PySem.W.Frag} {mg : Str → Option Value} {base : Heap}
/-! the law's store -/
def CellOk (d : D) : Prop := ∃ k n : Int, d = .tup [.int k, .int n]
def StOk (s : List D) : Prop := ∃ cells, ∃ place turn left seed : Int, s = [.lst cells, .int place, .int turn, .int left, .int seed] ∧ (∀ c ∈ cells, CellOk c) ∧ 0 ≤ place
def sp_mix : FS := { α := Int × Int, args := fun g => [.int g.1, .int g.2], pre := fun _ => True, post := fun _ r => ∃ i, r = .int i }
def sp_take : SS := { α := Int, args := fun m => [.int m], pre := fun m => m < 2 ^ 1000, post := fun m r => ∃ i, r = .int i ∧ 0 ≤ i ∧ (i < m ∨ i = 0), s0 := fun _ => StOk, s1 := fun _ => StOk }
/-! _law_mix -/
abbrev s_law_mix : Stmt := topS 62
abbrev n_law_mix : List Str := ["cell", "turn", "one", "two", "three"]
theorem sc_law_mix : FnScope n_law_mix ["cell", "turn"] (defScope s_law_mix) := ⟨rfl, rfl, rfl, by decide +kernel, rfl, by decide +kernel, by decide +kernel⟩
theorem ok_law_mix (T : Tx K mg) {f : Addr} {fd : FuncData} (F : Fd K "_law_mix" s_law_mix [] f fd) : FnOk P w K mg base (L2N.CX P w) 1 f fd ["cell", "turn"] (spF K sp_mix) := by
  refine fn_ok F sc_law_mix sp_mix (fun _ => rfl) fun cdv A outer s H E g hr pre hx => ?_
  refine ⟨_, (ds_cons (ds_set (i := 2) sc_law_mix.nd (de_mod (de_int1 T.b_int (da_cons (de_add (de_add (de_mul (dv 0) de_int) (de_mul (dv 1) de_int)) de_int) da_nil)) de_int))
      (ds_cons (ds_set (i := 3) sc_law_mix.nd (de_mod (de_int1 T.b_int (da_cons (de_add (de_add (de_mul (dv 2) (dv 2)) (de_mul (dv 1) de_int)) (dv 0)) da_nil)) de_int))
      (ds_cons (ds_set (i := 4) sc_law_mix.nd (de_mod (de_int1 T.b_int (da_cons (de_add (de_add (de_mul (dv 3) de_int) (de_mul (dv 2) de_int)) (dv 1)) da_nil)) de_int))
      (ds_one (ds_ret (de_add (de_mul (dv 3) de_int) (dv 4))))))), ?_⟩
  obtain ⟨cell, turn⟩ := g
  have p0 : (0 : Int) < 2147483647 := by decide
  have p1 : (0 : Int) < 2147483629 := by decide
  have p2 : (0 : Int) < 2147483587 := by decide
  refine ⟨.inr (by decide), .inr (by decide), p0, ?_⟩
  refine ⟨.inl ⟨by show (-(2 ^ 64) : Int) < (_ : Int) % 2147483647; omega, by show (_ : Int) % 2147483647 < (2 ^ 64 : Int); omega⟩, .inr (by decide), p1, ?_⟩
  exact ⟨.inr (by decide), .inr (by decide), p2, .inr (by decide), _, rfl⟩
theorem has_law_mix (T : Tx K mg) {f : Addr} {fd : FuncData} (F : Fd K "_law_mix" s_law_mix [] f fd) (gm : mg "_law_mix" = some (.ref f)) : Has P w K mg base "_law_mix" 1 ["cell", "turn"] (spF K sp_mix) := by
  exact has_of F gm (ok_law_mix T   F) fun _ _ _ _ _ _ us hl => match us, hl with | [_, _], _ => rfl
/-! _law_take -/
abbrev s_law_take : Stmt := topS 63
abbrev n_law_take : List Str := ["store", "many", "sort_of", "cell", "digit"]
theorem sc_law_take : FnScope n_law_take ["store", "many"] (defScope s_law_take) := ⟨rfl, rfl, rfl, by decide +kernel, rfl, by decide +kernel, by decide +kernel⟩
theorem ok_law_take (T : Tx K mg) (h_law_mix : Has P w K mg base "_law_mix" 1 ["cell", "turn"] (spF K sp_mix)) {f : Addr} {fd : FuncData} (F : Fd K "_law_take" s_law_take [] f fd) : FnOk P w K mg base (L2N.CX P w) 2 f fd ["store", "many"] (spS K sp_take) := by
  refine fnS_ok F sc_law_take sp_take (fun _ => rfl) (by decide) fun cdv A outer s H E g p ss hr pre hs => ?_
  refine ⟨_, (ds_cons (ds_if (dt_lt (dv 1) de_int)
      (ds_one (ds_ret de_int))
      ds_nil)
      (ds_cons (ds_setIx (de_add (de_ix (dv 0) de_int) de_int) (dv 0) de_int)
      (ds_cons (ds_if ((dw_and (dt_eq (de_ix (dv 0) de_int) de_int) (dw_and1 (dt_lt (de_ix (dv 0) de_int) (de_len T.b_len (da_cons (de_ix (dv 0) de_int) da_nil)))))).dt
      (ds_cons (ds_tup2 (i := 2) (j := 3) sc_law_take.nd (de_ix (de_ix (dv 0) de_int) (de_ix (dv 0) de_int)))
      (ds_cons (ds_setIx (de_add (de_ix (dv 0) de_int) de_int) (dv 0) de_int)
      (ds_cons (ds_if (dt_eq (dv 2) de_int)
      (ds_one (ds_ret (de_mod (de_int1 T.b_int (da_cons (de_call h_law_mix hr (da_cons (dv 3) (da_cons (de_ix (dv 0) de_int) da_nil))) da_nil)) (dv 1))))
      ds_nil)
      (ds_one (ds_setIx (dv 3) (dv 0) de_int)))))
      ds_nil)
      (ds_cons (ds_if (dt_gt (de_ix (dv 0) de_int) de_int)
      (ds_cons (ds_set (i := 4) sc_law_take.nd (de_mod (de_int1 T.b_int (da_cons (de_ix (dv 0) de_int) da_nil)) (dv 1)))
      (ds_cons (ds_setIx (de_fdivW (de_ix (dv 0) de_int) (dv 1)) (dv 0) de_int)
      (ds_one (ds_ret (dv 4)))))
      ds_nil)
      (ds_cons (ds_setIx (de_mod (de_int1 T.b_int (da_cons (de_add (de_add (de_mul (de_ix (dv 0) de_int) de_int) (de_mul (de_ix (dv 0) de_int) de_int)) de_int) da_nil)) de_int) (dv 0) de_int)
      (ds_one (ds_ret (de_mod (de_int1 T.b_int (da_cons (de_call h_law_mix hr (da_cons (de_ix (dv 0) de_int) (da_cons (de_ix (dv 0) de_int) da_nil))) da_nil)) (dv 1))))))))), ?_⟩
  obtain ⟨cells, place, turn, left, seed, rfl, hc, hp⟩ := hs
  change Int at g
  have pre : g < 2 ^ 1000 := pre
  have done : ∀ {i : Int} {c : List D} {pl tu le se : Int}, 0 ≤ i → (i < g ∨ i = 0) → (∀ c' ∈ c, CellOk c') → 0 ≤ pl → ∀ {ρ : En}, ρ[0]? = some (Slot.own p [D.lst c, .int pl, .int tu, .int le, .int se]) → (∃ i', D.int i = .int i' ∧ 0 ≤ i' ∧ (i' < g ∨ i' = 0)) ∧ ∃ s', ρ[0]? = some (.own p s') ∧ StOk s' := fun h1 h2 h3 h4 _ e => ⟨⟨_, rfl, h1, h2⟩, _, e, _, _, _, _, _, rfl, h3, h4⟩
  show if decide (g < 2) = true then _ else _
  refine ite2 (fun h => done (Int.le_refl 0) (.inr rfl) hc hp rfl) (fun h => ?_)
  have h0 : 0 < g := by
    have : ¬ g < 2 := fun z => h (decide_eq_true z)
    omega
  have md : ∀ i : Int, 0 ≤ i % g ∧ (i % g < g ∨ i % g = 0) := fun i => ⟨Int.emod_nonneg _ (by omega), .inl (Int.emod_lt_of_pos _ h0)⟩
  have cdiv : ∀ le : Int, CDivW le g := fun le => wide_div h0 (b := 1000) (by omega) (by decide) (by decide)
  have p0 : (0 : Int) < 2147483647 := by decide
  refine ⟨.int turn, rfl, 2, rfl, ?_⟩
  dsimp only
  refine seq_join (r1 := rIf _ _ _) (fun ρ => ∃ pl le so ce, 0 ≤ pl ∧ ρ = [.own p [.lst cells, .int pl, .int (turn + 1), .int le, .int seed], .v (.int g), so, ce, .un]) (fun ρ hJ => ?_) (fun R hR => ?_)
  · obtain ⟨pl, le, so, ce, hpl, rfl⟩ := hJ
    refine ⟨.int le, rfl, ?_⟩
    show if decide (0 < le) = true then _ else _
    refine ite2 (fun hl => ?_) (fun hl => ?_)
    · refine ⟨.int le, rfl, h0, ?_⟩
      refine ⟨.int le, rfl, cdiv le, 3, rfl, ?_⟩
      exact done (md le).1 (md le).2 hc hpl rfl
    · refine ⟨.int seed, rfl, .inr (by decide), .int (turn + 1), rfl, .inr (by decide), p0, 4, rfl, ?_⟩
      refine ⟨_, rfl, .int (turn + 1), rfl, ⟨_, turn + 1⟩, rfl, trivial, fun d hd => ?_, fun _ h => h.elim⟩
      obtain ⟨i, rfl⟩ := hd
      exact ⟨h0, done (md i).1 (md i).2 hc hpl rfl⟩
  · refine ⟨.int left, rfl, ?_⟩
    show if decide (left = 0) = true then _ else _
    refine ite2 (fun hl => ?_) (fun hl => ?_)
    · refine ⟨.int place, rfl, .lst cells, rfl, ?_⟩
      show if decide (place < (cells.length : Nat)) = true then _ else _
      refine ite2 (fun hpl => ?_) (fun hpl => ?_)
      · have hpl := of_decide_eq_true hpl
        have hn : place.toNat < cells.length := by omega
        have hx : atI cells place = some cells[place.toNat] := by
          unfold atI ixN
          rw [if_pos hp, if_pos (by omega)]
          exact List.getElem?_eq_getElem hn
        obtain ⟨k, n, hkn⟩ := hc _ (List.getElem_mem hn)
        refine ⟨.lst cells, rfl, .int place, rfl, _, hx, ?_⟩
        rw [hkn]
        refine ⟨.int place, rfl, 1, rfl, ?_⟩
        show if decide (k = 0) = true then _ else _
        refine ite2 (fun hk => ?_) (fun hk => ?_)
        · refine ⟨.int (turn + 1), rfl, ⟨n, turn + 1⟩, rfl, trivial, fun d hd => ?_, fun _ h => h.elim⟩
          obtain ⟨i, rfl⟩ := hd
          exact ⟨h0, done (md i).1 (md i).2 hc (by omega) rfl⟩
        · exact ⟨3, rfl, hR _ ⟨_, _, _, _, by omega, rfl⟩⟩
      · exact hR _ ⟨_, _, _, _, hp, rfl⟩
    · exact hR _ ⟨_, _, _, _, hp, rfl⟩
theorem has_law_take (T : Tx K mg) (h_law_mix : Has P w K mg base "_law_mix" 1 ["cell", "turn"] (spF K sp_mix)) {f : Addr} {fd : FuncData} (F : Fd K "_law_take" s_law_take [] f fd) (gm : mg "_law_take" = some (.ref f)) : Has P w K mg base "_law_take" 2 ["store", "many"] (spS K sp_take) := by
  exact has_of F gm (ok_law_take T  h_law_mix F) fun _ _ _ _ _ _ us hl => match us, hl with | [_, _], _ => rfl
def sp_pick : SS := { α := Bool × List D, args := fun g => [if g.1 then .tup g.2 else .lst g.2], pre := fun g => g.2 ≠ [] ∧ g.2.length ≤ 16777216, post := fun g r => r ∈ g.2, s0 := fun _ => StOk, s1 := fun _ => StOk }
def sp_edge : SS := { α := Int × Int, args := fun g => [.int g.1, .int g.2], pre := fun g => g.1 ≤ g.2 ∧ g.2 - g.1 + 1 < 2 ^ 1000, post := fun g r => ∃ i, r = .int i ∧ g.1 ≤ i ∧ i ≤ g.2, s0 := fun _ => StOk, s1 := fun _ => StOk }
def noNums : List D := [.bl true, .bl false, .non, .str "", .str "0", .str "a", .tup [], .lst [], .tup [.int 0], .lst [.int 1], .dic [], .dic [(.inl 0, .int 0)]]
def sp_no_number : SS := { α := Unit, args := fun _ => [], pre := fun _ => True, post := fun _ r => r ∈ noNums, s0 := fun _ => StOk, s1 := fun _ => StOk }
def noLists : List D := [.non, .bl true, .bl false, .int 0, .int 1, .int (-1), .str "", .str "0", .str "ab", .dic [], .dic [(.inl 0, .int 0)], .int (10 ^ 40)]
def sp_no_list : SS := { α := Unit, args := fun _ => [], pre := fun _ => True, post := fun _ r => r ∈ noLists, s0 := fun _ => StOk, s1 := fun _ => StOk }
/-- no number of low .. high -/
def Out (low high : Int) (r : D) : Prop := r ∈ noNums ∨ ∃ i, r = .int i ∧ (i < low ∨ high < i)
def sp_outside : SS := { α := Int × Int, args := fun g => [.int g.1, .int g.2], pre := fun g => g.1 ≤ g.2, post := fun g r => Out g.1 g.2 r, s0 := fun _ => StOk, s1 := fun _ => StOk }
theorem tk {n : Int} (h : n < 2 ^ 1000) : sp_take.pre n := h
theorem cp1040 : CPow 10 40 := ⟨by decide, by decide, by decide⟩
theorem mem4 {d a b c e : D} (h : d ∈ [a, b, c, e]) : d = a ∨ d = b ∨ d = c ∨ d = e := by simpa using h
theorem atI_nat {α : Type} {ds : List α} {i : Int} (h0 : 0 ≤ i) (h : i < (ds.length : Nat)) : ∃ d, atI ds i = some d ∧ ds[i.toNat]? = some d ∧ d ∈ ds := by
  have hn : i.toNat < ds.length := by omega
  refine ⟨ds[i.toNat], ?_, List.getElem?_eq_getElem hn, List.getElem_mem hn⟩
  unfold atI ixN
  rw [if_pos h0, if_pos (by omega)]
  exact List.getElem?_eq_getElem hn
/-! _law_pick -/
abbrev s_law_pick : Stmt := topS 64
abbrev n_law_pick : List Str := ["store", "things"]
theorem sc_law_pick : FnScope n_law_pick ["store", "things"] (defScope s_law_pick) := ⟨rfl, rfl, rfl, by decide +kernel, rfl, by decide +kernel, by decide +kernel⟩
theorem ok_law_pick (T : Tx K mg) (h_law_take : Has P w K mg base "_law_take" 2 ["store", "many"] (spS K sp_take)) {f : Addr} {fd : FuncData} (F : Fd K "_law_pick" s_law_pick [] f fd) : FnOk P w K mg base (L2N.CX P w) 3 f fd ["store", "things"] (spS K sp_pick) := by
  refine fnS_ok F sc_law_pick sp_pick (fun _ => rfl) (by decide) fun cdv A outer s H E g p ss hr pre hs => ?_
  refine ⟨_, (ds_one (ds_ret (de_ix (dv 1) (de_callS h_law_take hr (dv 0) (da_cons (de_len T.b_len (da_cons (dv 1) da_nil)) da_nil))))), ?_⟩
  obtain ⟨b, ds⟩ := g
  obtain ⟨h1, h2⟩ := pre
  have hl : 0 < ds.length := List.length_pos_iff.mpr h1
  change ds.length ≤ 16777216 at h2
  have main : ∀ (d0 : D), (∀ ρ, sq ρ (.d d0) = some (b, ds)) → ∃ m : Int, m = (ds.length : Nat) := fun _ _ => ⟨_, rfl⟩
  cases b with
  | true =>
    refine ⟨((ds.length : Nat) : Int), rfl, hs, by show ((ds.length : Nat) : Int) < 2 ^ 1000; omega, fun d s' hd hs' => ?_⟩
    obtain ⟨i, rfl, i0, i1⟩ := hd
    obtain ⟨x, e1, _, e2⟩ := atI_nat (ds := ds) i0 (by omega)
    exact ⟨x, e1, e2, s', rfl, hs'⟩
  | false =>
    refine ⟨((ds.length : Nat) : Int), rfl, hs, by show ((ds.length : Nat) : Int) < 2 ^ 1000; omega, fun d s' hd hs' => ?_⟩
    obtain ⟨i, rfl, i0, i1⟩ := hd
    obtain ⟨x, e1, _, e2⟩ := atI_nat (ds := ds) i0 (by omega)
    exact ⟨x, e1, e2, s', rfl, hs'⟩
theorem has_law_pick (T : Tx K mg) (h_law_take : Has P w K mg base "_law_take" 2 ["store", "many"] (spS K sp_take)) {f : Addr} {fd : FuncData} (F : Fd K "_law_pick" s_law_pick [] f fd) (gm : mg "_law_pick" = some (.ref f)) : Has P w K mg base "_law_pick" 3 ["store", "things"] (spS K sp_pick) := by
  exact has_of F gm (ok_law_pick T  h_law_take F) fun _ _ _ _ _ _ us hl => match us, hl with | [_, _], _ => rfl
/-! _law_edge -/
abbrev s_law_edge : Stmt := topS 65
abbrev n_law_edge : List Str := ["store", "low", "high", "span", "way"]
theorem sc_law_edge : FnScope n_law_edge ["store", "low", "high"] (defScope s_law_edge) := ⟨rfl, rfl, rfl, by decide +kernel, rfl, by decide +kernel, by decide +kernel⟩
theorem ok_law_edge (T : Tx K mg) (h_law_take : Has P w K mg base "_law_take" 2 ["store", "many"] (spS K sp_take)) {f : Addr} {fd : FuncData} (F : Fd K "_law_edge" s_law_edge [] f fd) : FnOk P w K mg base (L2N.CX P w) 3 f fd ["store", "low", "high"] (spS K sp_edge) := by
  refine fnS_ok F sc_law_edge sp_edge (fun _ => rfl) (by decide) fun cdv A outer s H E g p ss hr pre hs => ?_
  refine ⟨_, (ds_cons (ds_set (i := 3) sc_law_edge.nd (de_add (de_sub (dv 2) (dv 1)) de_int))
      (ds_cons (ds_set (i := 4) sc_law_edge.nd (de_callS h_law_take hr (dv 0) (da_cons de_int da_nil)))
      (ds_cons (ds_if (dt_lt (dv 4) de_int)
      (ds_one (ds_ret (de_ix (de_new (dn_lst (da_cons (dv 1) (da_cons (dv 2) (da_cons (de_min rfl T.b_min (da_cons (de_add (dv 1) de_int) (da_cons (dv 2) da_nil))) (da_cons (de_max rfl T.b_max (da_cons (dv 1) (da_cons (de_sub (dv 2) de_int) da_nil))) da_nil)))))) (de_callS h_law_take hr (dv 0) (da_cons de_int da_nil)))))
      ds_nil)
      (ds_cons (ds_if (dt_lt (dv 4) de_int)
      (ds_one (ds_ret (de_add (dv 1) (de_callS h_law_take hr (dv 0) (da_cons (de_min rfl T.b_min (da_cons (dv 3) (da_cons de_int da_nil))) da_nil)))))
      ds_nil)
      (ds_one (ds_ret (de_add (dv 1) (de_callS h_law_take hr (dv 0) (da_cons (dv 3) da_nil))))))))), ?_⟩
  obtain ⟨low, high⟩ := g
  obtain ⟨h1, h2⟩ := pre
  change low ≤ high at h1
  change high - low + 1 < 2 ^ 1000 at h2
  refine ⟨(6 : Int), rfl, hs, tk (by omega), fun d s1 hd hs => ?_⟩
  obtain ⟨way, rfl, w0, w1⟩ := hd
  show if decide (way < 2) = true then _ else _
  refine ite2 (fun h => ?_) (fun h => ?_)
  · refine ⟨(4 : Int), rfl, hs, tk (by omega), fun d s2 hd hs => ?_⟩
    obtain ⟨i, rfl, i0, i1⟩ := hd
    obtain ⟨x, e1, _, e2⟩ := atI_nat (ds := [D.int low, .int high, .int (min (low + 1) high), .int (max low (high - 1))]) i0 (by simp; omega)
    refine ⟨x, e1, ?_, s2, rfl, hs⟩
    show ∃ i, x = .int i ∧ low ≤ i ∧ i ≤ high
    rcases (by simpa using e2 : x = .int low ∨ x = .int high ∨ x = .int (min (low + 1) high) ∨ x = .int (max low (high - 1))) with rfl | rfl | rfl | rfl
    · exact ⟨_, rfl, by omega, by omega⟩
    · exact ⟨_, rfl, by omega, by omega⟩
    · exact ⟨_, rfl, by omega, by omega⟩
    · exact ⟨_, rfl, by omega, by omega⟩
  · show if decide (way < 4) = true then _ else _
    refine ite2 (fun h => ?_) (fun h => ?_)
    · refine ⟨(min (high - low + 1) 4 : Int), rfl, hs, tk (by omega), fun d s2 hd hs => ?_⟩
      obtain ⟨i, rfl, i0, i1⟩ := hd
      exact ⟨⟨_, rfl, by show low ≤ low + i; omega, by show low + i ≤ high; omega⟩, s2, rfl, hs⟩
    · refine ⟨high - low + 1, rfl, hs, h2, fun d s2 hd hs => ?_⟩
      obtain ⟨i, rfl, i0, i1⟩ := hd
      exact ⟨⟨_, rfl, by show low ≤ low + i; omega, by show low + i ≤ high; omega⟩, s2, rfl, hs⟩
theorem has_law_edge (T : Tx K mg) (h_law_take : Has P w K mg base "_law_take" 2 ["store", "many"] (spS K sp_take)) {f : Addr} {fd : FuncData} (F : Fd K "_law_edge" s_law_edge [] f fd) (gm : mg "_law_edge" = some (.ref f)) : Has P w K mg base "_law_edge" 3 ["store", "low", "high"] (spS K sp_edge) := by
  exact has_of F gm (ok_law_edge T  h_law_take F) fun _ _ _ _ _ _ us hl => match us, hl with | [_, _, _], _ => rfl
end
end Q
/-! C1 -/
set_option Elab.async false
set_option linter.all false
set_option maxRecDepth 100000
set_option maxHeartbeats 8000000
namespace Q
open PySem PySem.Spec PyProof.Rows L2 N
section
variable {P : Program} {w : World} {K : PySem.W.Frag} {mg : Str → Option Value} {base : Heap}
theorem perm_pop {α : Type} : ∀ {rs : List α} {j : Nat} {d : α}, rs[j]? = some d → (d :: rs.eraseIdx j).Perm rs
  | [], _, _, h => by simp at h
  | x :: xs, 0, d, h => by
    have : x = d := by simpa using h
    rw [this]
    exact List.Perm.refl _
  | x :: xs, j + 1, d, h => by
    have ih := perm_pop (rs := xs) (j := j) (by simpa using h)
    rw [List.eraseIdx_cons_succ]
    exact (List.Perm.swap x d _).trans (ih.cons x)
def seqD (b : Bool) (ds : List D) : D := if b then .tup ds else .lst ds
abbrev stS (α : Type) : α → List D → Prop := fun _ => StOk
def BentPost (ds : List D) (low high : Int) (r : D) : Prop := ∃ ds' v, r = .lst ds' ∧ Out low high v ∧ ((ds = [] ∧ ds' = [v]) ∨ ∃ i, i < ds.length ∧ ds' = ds.set i v)
def sp_bent : SS := { α := Bool × List D × Int × Int, args := fun g => [seqD g.1 g.2.1, D.int g.2.2.1, D.int g.2.2.2], pre := fun g => g.2.2.1 ≤ g.2.2.2 ∧ g.2.1.length ≤ 16777216, post := fun g r => BentPost g.2.1 g.2.2.1 g.2.2.2 r, s0 := fun _ => StOk, s1 := fun _ => StOk }
def sp_arr : SS := { α := Bool × List D, args := fun g => [seqD g.1 g.2], pre := fun g => g.2.length ≤ 16777216, post := fun g r => ∃ ds', r = .lst ds' ∧ ds'.Perm g.2, s0 := fun _ => StOk, s1 := fun _ => StOk }
theorem ixN_nat {n : Nat} {i : Int} (h0 : 0 ≤ i) (h : i < (n : Nat)) : ixN n i = some i.toNat := by
  unfold ixN
  rw [if_pos h0, if_pos (by omega)]
/-! _law_arrangement -/
abbrev s_law_arrangement : Stmt := topS 71
abbrev n_law_arrangement : List Str := ["store", "things", "rest", "row", "k"]
theorem sc_law_arrangement : FnScope n_law_arrangement ["store", "things"] (defScope s_law_arrangement) := ⟨rfl, rfl, rfl, by decide +kernel, rfl, by decide +kernel, by decide +kernel⟩
theorem ok_law_arrangement (T : Tx K mg) (h_law_take : Has P w K mg base "_law_take" 2 ["store", "many"] (spS K sp_take)) {f : Addr} {fd : FuncData} (F : Fd K "_law_arrangement" s_law_arrangement [] f fd) : FnOk P w K mg base (L2N.CX P w) 3 f fd ["store", "things"] (spS K sp_arr) := by
  refine fnS_ok F sc_law_arrangement sp_arr (fun _ => rfl) (by decide) fun cdv A outer s H E g p ss hr pre hs => ?_
  refine ⟨_, (ds_cons (ds_setO (i := 2) sc_law_arrangement.nd (dn_list T.b_list (da_cons (dv 1) da_nil)))
      (ds_cons (ds_setO (i := 3) sc_law_arrangement.nd (dn_lst da_nil))
      (ds_cons (ds_for (passes_of rfl) (di_range1 T.b_range (da_cons (de_len T.b_len (da_cons (dv 1) da_nil)) da_nil)) (dg 4 sc_law_arrangement.nd)
      (ds_one (ds_expr (de_append (dv 3) (de_popI (dv 2) (de_callS h_law_take hr (dv 0) (da_cons (de_len T.b_len (da_cons (dv 2) da_nil)) da_nil)))))))
      (ds_lock 3 (ds_one (ds_ret (dv 3))))))), ?_⟩
  obtain ⟨b, ds⟩ := g
  change ds.length ≤ 16777216 at pre
  cases b <;> (
    intro q pr
    refine ⟨by decide, by decide, by show -(2 ^ 62) ≤ ((ds.length : Nat) : Int); omega, by show ((ds.length : Nat) : Int) < 2 ^ 62; omega, ?_⟩
    refine ⟨fun k ρ => ∃ t s rs ro kv, ρ = [.own p s, t, .own q rs, .own pr ro, kv] ∧ StOk s ∧ (ro ++ rs).Perm ds ∧ ro.length = k, ?_, ?_, ?_, ?_⟩
    · exact ⟨_, _, _, _, _, rfl, hs, List.Perm.refl _, rfl⟩
    · exact fun _ _ _ _ => trivial
    · rintro k d ρ hk rfl ⟨t, s, rs, ro, kv, rfl, hs, pm, hl⟩
      have hlen := pm.length_eq
      rw [List.length_append] at hlen
      have hk : k < ds.length := by
        have hk : k < (((ds.length : Nat) : Int) - 0).toNat := hk
        omega
      refine ⟨((rs.length : Nat) : Int), rfl, hs, tk (by omega), fun d s2 hd hs => ?_⟩
      obtain ⟨i, rfl, i0, i1⟩ := hd
      have hi : i.toNat < rs.length := by omega
      refine ⟨i.toNat, rs[i.toNat], i0, by omega, List.getElem?_eq_getElem hi, by omega, by omega, ?_⟩
      refine ⟨_, _, _, _, _, rfl, hs, ?_, by rw [List.length_append]; simp; omega⟩
      rw [List.append_assoc]
      exact (List.Perm.append_left ro (perm_pop (List.getElem?_eq_getElem hi))).trans pm
    · rintro ρ ⟨t, s, rs, ro, kv, rfl, hs, pm, hl⟩
      have hlen := pm.length_eq
      rw [List.length_append] at hlen
      have hl : ro.length = (((ds.length : Nat) : Int) - 0).toNat := hl
      have e : rs = [] := List.length_eq_zero_iff.mp (by omega)
      subst e
      rw [List.append_nil] at pm
      exact ⟨⟨ro, rfl, pm⟩, s, rfl, hs⟩)
theorem has_law_arrangement (T : Tx K mg) (h_law_take : Has P w K mg base "_law_take" 2 ["store", "many"] (spS K sp_take)) {f : Addr} {fd : FuncData} (F : Fd K "_law_arrangement" s_law_arrangement [] f fd) (gm : mg "_law_arrangement" = some (.ref f)) : Has P w K mg base "_law_arrangement" 3 ["store", "things"] (spS K sp_arr) := by
  exact has_of F gm (ok_law_arrangement T  h_law_take F) fun _ _ _ _ _ _ us hl => match us, hl with | [_, _], _ => rfl
end
end Q
/-! C2 -/
set_option Elab.async false
set_option linter.all false
set_option maxRecDepth 100000
set_option maxHeartbeats 8000000
namespace Q
open PySem PySem.Spec PyProof.Rows L2 N
section
variable {P : Program} {w : World} {K : PySem.W.Frag} {mg : Str → Option Value} {base : Heap}
def isK (m : Int) : D → Bool
  | .int i => decide (0 ≤ i ∧ i < m)
  | _ => false
def rowOf : D → Option (List D)
  | .tup ds => some ds
  | .lst ds => some ds
  | _ => none
def isRow (m : Int) (d : D) : Bool := match rowOf d with
  | some ds => decide (ds.length ≤ 200) && ds.all (isK m)
  | none => false
def RowIn (d : D) : Prop := (ty7 d).isSome = true ∧ ∀ ds, rowOf d = some ds → ∀ x ∈ ds, (ty7 x).isSome = true
theorem isK_el {m : Int} {d : D} (h : isK m d = true) : ∃ i, d = .int i ∧ 0 ≤ i ∧ i < m := by
  cases d with
  | int i => exact ⟨i, rfl, of_decide_eq_true h⟩
  | _ => cases h
theorem ints_of {m : Int} : ∀ {ds : List D}, (∀ d ∈ ds, isK m d = true) → ∃ ns : List Int, ds = ns.map D.int ∧ ∀ n ∈ ns, 0 ≤ n ∧ n < m
  | [], _ => ⟨[], rfl, fun _ h => by simp at h⟩
  | d :: ds, h => by
    obtain ⟨i, rfl, hi⟩ := isK_el (h d List.mem_cons_self)
    obtain ⟨ns, rfl, hns⟩ := ints_of (ds := ds) fun x hx => h x (List.mem_cons_of_mem _ hx)
    refine ⟨i :: ns, rfl, fun n hn => ?_⟩
    rcases List.mem_cons.mp hn with rfl | hn
    · exact hi
    · exact hns n hn
theorem isK_take {m : Int} {d : D} (hm : 1 ≤ m) (h : sp_take.post m d) : isK m d = true := by
  obtain ⟨i, rfl, i0, i1⟩ := h
  exact decide_eq_true ⟨i0, by omega⟩
def rgI (n : Int) : List Int := (List.range n.toNat).map fun i : Nat => (i : Int)
theorem rgD_ints (n : Int) : rgD 0 n = (rgI n).map D.int := by
  unfold rgD rgI
  rw [List.map_map, Int.sub_zero]
  exact List.map_congr_left fun i _ => by show D.int (0 + (i : Int)) = D.int (i : Int); rw [Int.zero_add]
theorem rgI_mem {n k : Int} (h : k ∈ rgI n) : 0 ≤ k ∧ k < n := by
  obtain ⟨i, hi, rfl⟩ := List.mem_map.mp h
  have := List.mem_range.mp hi
  omega
theorem rgI_sorted (n : Int) : (rgI n).Pairwise (· < ·) := by
  unfold rgI
  rw [List.pairwise_map]
  exact List.Pairwise.imp (fun {a b} h => by show (a : Int) < (b : Int); omega) List.pairwise_lt_range
theorem rgOk {n : Int} (h0 : 0 ≤ n) (h : n ≤ 16777216) : RgOk 0 n := RgOk.of_le (by omega) h (by omega) h0
/-- a lot: rising kinds below m, at least one -/
def LotOk (m : Int) (ns : List Int) : Prop := ns ≠ [] ∧ ns.Pairwise (· < ·) ∧ ∀ n ∈ ns, 0 ≤ n ∧ n < m
def sp_lot : SS := { α := Int, args := fun m => [.int m], pre := fun m => 1 ≤ m ∧ m ≤ 64, post := fun m r => ∃ ns, r = .tup (ns.map D.int) ∧ LotOk m ns, s0 := fun _ => StOk, s1 := fun _ => StOk }
def sp_row : SS := { α := Int × Int, args := fun g => [.int g.1, .int g.2], pre := fun g => 1 ≤ g.1 ∧ g.1 ≤ 64 ∧ 0 ≤ g.2 ∧ g.2 ≤ 1000, post := fun g r => ∃ ds, r = .lst ds ∧ (ds.length : Int) ≤ g.2 ∧ ∀ d ∈ ds, isK g.1 d = true, s0 := fun _ => StOk, s1 := fun _ => StOk }
def sp_bad_row : SS := { α := Int, args := fun m => [.int m], pre := fun m => 1 ≤ m ∧ m ≤ 64, post := fun m r => isRow m r = false ∧ RowIn r, s0 := fun _ => StOk, s1 := fun _ => StOk }
theorem cut_to {ds : List D} {n : Int} (h : 0 ≤ n) : N.cutD ds none (some n) = ds.take n.toNat := by
  show (ds.drop 0).take ((if n < 0 then (n + (ds.length : Int)).toNat else min n.toNat ds.length) - 0) = ds.take n.toNat
  rw [if_neg (by omega), List.drop_zero, Nat.sub_zero, Nat.min_def]
  split
  · rfl
  · rw [List.take_of_length_le (Nat.le_refl _), List.take_of_length_le (by omega)]
theorem mem_flat {α : Type} {x : α} {ds : List α} {n : Nat} (h : x ∈ (List.replicate n ds).flatten) : x ∈ ds := by
  obtain ⟨l, hl, hx⟩ := List.mem_flatten.mp h
  rw [(List.mem_replicate.mp hl).2] at hx
  exact hx
theorem len_flat {α : Type} {ds : List α} : ∀ n : Nat, (List.replicate n ds).flatten.length = n * ds.length
  | 0 => by simp
  | n + 1 => by rw [List.replicate_succ, List.flatten_cons, List.length_append, len_flat n, Nat.succ_mul, Nat.add_comm]
theorem noNums_bad {m : Int} {v : D} (h : v ∈ noNums) : isK m v = false ∧ (ty7 v).isSome = true := by
  simp only [noNums, List.mem_cons, List.not_mem_nil, or_false] at h
  rcases h with rfl | rfl | rfl | rfl | rfl | rfl | rfl | rfl | rfl | rfl | rfl | rfl <;> exact ⟨rfl, rfl⟩
theorem out_bad {m : Int} {v : D} (h : Out 0 (m - 1) v) : isK m v = false ∧ (ty7 v).isSome = true := by
  rcases h with h | ⟨i, rfl, h⟩
  · exact noNums_bad h
  · exact ⟨decide_eq_false (by omega), rfl⟩
theorem noLists_bad {m : Int} {v : D} (h : v ∈ noLists) : isRow m v = false ∧ RowIn v := by
  simp only [noLists, List.mem_cons, List.not_mem_nil, or_false] at h
  rcases h with rfl | rfl | rfl | rfl | rfl | rfl | rfl | rfl | rfl | rfl | rfl | rfl <;> exact ⟨rfl, rfl, fun ds e => by cases e⟩
theorem isK_ty {m : Int} {d : D} (h : isK m d = true) : (ty7 d).isSome = true := by
  obtain ⟨i, rfl, _⟩ := isK_el h
  rfl
theorem row_bad {m : Int} {ds : List D} {x : D} (h : x ∈ ds) (hx : isK m x = false) : isRow m (.lst ds) = false := by
  show (decide (ds.length ≤ 200) && ds.all (isK m)) = false
  have : ds.all (isK m) = false := by
    rw [List.all_eq_false]
    exact ⟨x, h, by rw [hx]; exact Bool.false_ne_true⟩
  rw [this, Bool.and_false]
theorem rowIn_lst {ds : List D} (h : ∀ x ∈ ds, (ty7 x).isSome = true) : RowIn (.lst ds) := ⟨rfl, fun es e x hx => by cases e; exact h x hx⟩
end
end Q
/-! C3 -/
set_option Elab.async false
set_option linter.all false
set_option maxRecDepth 100000
set_option maxHeartbeats 8000000
namespace Q
open PySem PySem.Spec PyProof.Rows L2 N
section
variable {P : Program} {w : World} {K : PySem.W.Frag} {mg : Str → Option Value} {base : Heap}
theorem fn_none {ps : List Str} {k : Nat} {f : Addr} {fd : FuncData} {sp : Sp} (h : ∀ vs H Q E, ¬ sp vs H Q E) : FnOk P w K mg base (L2N.CX P w) k f fd ps sp := ⟨fun vs H Q E z => absurd z (h vs H Q E), fun A outer s H args us vs Q E _ _ _ _ z => absurd z (h vs H Q E)⟩
/-! what the law takes apart and puts together -/
mutual
def sameOk : D → Bool
  | .non => true
  | .bl _ => true
  | .int _ => true
  | .str _ => true
  | .tup ds => sameOkL ds
  | .lst ds => sameOkL ds
  | .dic _ => false
  | .obj _ => false
  | .ins _ _ _ => false
  | .ty _ => false
def sameOkL : List D → Bool
  | [] => true
  | d :: ds => sameOk d && sameOkL ds
end
mutual
def wt : D → Nat
  | .tup ds => 1 + wtL ds
  | .lst ds => 1 + wtL ds
  | .non => 1
  | .bl _ => 1
  | .int _ => 1
  | .str _ => 1
  | .dic _ => 1
  | .obj _ => 1
  | .ins _ _ _ => 1
  | .ty _ => 1
def wtL : List D → Nat
  | [] => 0
  | d :: ds => wt d + wtL ds
end
theorem wt_pos (d : D) : 1 ≤ wt d := by cases d <;> simp only [wt] <;> omega
theorem wtL_len : ∀ ds : List D, ds.length ≤ wtL ds
  | [] => Nat.le_refl _
  | d :: ds => by
    have := wtL_len ds
    have := wt_pos d
    simp only [List.length_cons, wtL]
    omega
theorem wtL_app : ∀ as bs : List D, wtL (as ++ bs) = wtL as + wtL bs
  | [], bs => by simp [wtL]
  | a :: as, bs => by simp only [List.cons_append, wtL, wtL_app as bs]; omega
theorem sameOkL_mem : ∀ {ds : List D}, sameOkL ds = true ↔ ∀ d ∈ ds, sameOk d = true
  | [] => by simp [sameOkL]
  | d :: ds => by
    rw [sameOkL, Bool.and_eq_true, sameOkL_mem (ds := ds), List.forall_mem_cons]
theorem sameOk_ints (ns : List Int) : sameOkL (ns.map D.int) = true := sameOkL_mem.mpr fun d hd => by
  obtain ⟨n, _, rfl⟩ := List.mem_map.mp hd
  rfl
theorem wt_ints : ∀ ns : List Int, wtL (ns.map D.int) = ns.length
  | [] => rfl
  | n :: ns => by rw [List.map_cons, wtL, wt_ints ns, wt, List.length_cons]; omega
def sp_same : FS := { α := D, args := fun d => [d, d], pre := fun d => sameOk d = true ∧ wt d ≤ 1000000, post := fun _ r => r = .bl true }
def pr2 (d : D) : D := .tup [d, d]
theorem take_one {α : Type} (l : List α) (k : Nat) (h : k < l.length) : l.take (k + 1) = l.take k ++ [l[k]] := by rw [List.take_add_one, List.getElem?_eq_getElem h]; rfl
theorem last_of {α : Type} {l : List α} (h : 0 < l.length) : ∃ r x, l = r ++ [x] := ⟨l.dropLast, l.getLast (List.length_pos_iff.mp h), (List.dropLast_concat_getLast _).symm⟩
theorem at_last {α : Type} (r : List α) (x : α) : (r ++ [x])[(r ++ [x]).length - 1]? = some x := by simp
/-! _law_same -/
abbrev s_law_same : Stmt := topS 79
abbrev n_law_same : List Str := ["actual", "due", "pairs", "told", "asked", "k"]
theorem sc_law_same : FnScope n_law_same ["actual", "due"] (defScope s_law_same) := ⟨rfl, rfl, rfl, by decide +kernel, rfl, by decide +kernel, by decide +kernel⟩
theorem ok_law_same (T : Tx K mg) {f : Addr} {fd : FuncData} (F : Fd K "_law_same" s_law_same [] f fd) : FnOk P w K mg base (L2N.CX P w) 1 f fd ["actual", "due"] (spF K sp_same) := by
  refine fn_ok F sc_law_same sp_same (fun _ => rfl) fun cdv A outer s H E g hr pre hx => ?_
  refine ⟨_, (ds_cons (ds_setO (i := 2) sc_law_same.nd (dn_lst (da_cons (de_tup (da_cons (dv 0) (da_cons (dv 1) da_nil))) da_nil)))
      (ds_cons (ds_while (passes_of rfl) (dt_gt (de_len T.b_len (da_cons (dv 2) da_nil)) de_int)
      (ds_cons (ds_tup2 (i := 3) (j := 4) sc_law_same.nd (de_pop (dv 2)))
      (ds_one (ds_if ((dw_or (dt_isN (dv 4)) (dw_or (dt_isB (dv 4)) (dw_or1 (dt_isB (dv 4)))))).dt
      (ds_cons (ds_if ((dw_and (dt_not (dt_val (de_isi T.b_isinstance (da_cons (dv 3) (da_cons (de_ty T.b_bool bt_bool) da_nil))))) (dw_and1 (dt_notN (dv 3))))).dt
      (ds_one (ds_ret de_bl))
      ds_nil)
      (ds_one (ds_if ((dw_or (dt_ne (de_isN (dv 3)) (de_isN (dv 4))) (dw_or1 (dt_ne (de_isB (dv 3)) (de_isB (dv 4)))))).dt
      (ds_one (ds_ret de_bl))
      ds_nil)))
      (ds_one (ds_if (dt_val (de_isi T.b_isinstance (da_cons (dv 4) (da_cons (de_ty T.b_int boot_int) da_nil))))
      (ds_one (ds_if ((dw_or (dt_not (dt_val (de_isi T.b_isinstance (da_cons (dv 3) (da_cons (de_ty T.b_int boot_int) da_nil))))) (dw_or (dt_val (de_isi T.b_isinstance (da_cons (dv 3) (da_cons (de_ty T.b_bool bt_bool) da_nil)))) (dw_or1 (dt_ne (dv 3) (dv 4)))))).dt
      (ds_one (ds_ret de_bl))
      ds_nil))
      (ds_one (ds_if (dt_val (de_isi T.b_isinstance (da_cons (dv 4) (da_cons (de_ty T.b_str bt_str) da_nil))))
      (ds_one (ds_if ((dw_or (dt_not (dt_val (de_isi T.b_isinstance (da_cons (dv 3) (da_cons (de_ty T.b_str bt_str) da_nil))))) (dw_or1 (dt_ne (dv 3) (dv 4))))).dt
      (ds_one (ds_ret de_bl))
      ds_nil))
      (ds_one (ds_if (dt_val (de_isi2 T.b_isinstance (da_cons (dv 4) (da_cons (de_tup (da_cons (de_ty T.b_list bt_list) (da_cons (de_ty T.b_tuple bt_tuple) da_nil))) da_nil))))
      (ds_cons (ds_if ((dw_or (dt_not (dt_val (de_isi2 T.b_isinstance (da_cons (dv 3) (da_cons (de_tup (da_cons (de_ty T.b_list bt_list) (da_cons (de_ty T.b_tuple bt_tuple) da_nil))) da_nil))))) (dw_or1 (dt_ne (de_isi T.b_isinstance (da_cons (dv 3) (da_cons (de_ty T.b_list bt_list) da_nil))) (de_isi T.b_isinstance (da_cons (dv 4) (da_cons (de_ty T.b_list bt_list) da_nil))))))).dt
      (ds_one (ds_ret de_bl))
      ds_nil)
      (ds_cons (ds_if (dt_ne (de_len T.b_len (da_cons (dv 3) da_nil)) (de_len T.b_len (da_cons (dv 4) da_nil)))
      (ds_one (ds_ret de_bl))
      ds_nil)
      (ds_one (ds_for (passes_of rfl) (di_range1 T.b_range (da_cons (de_len T.b_len (da_cons (dv 4) da_nil)) da_nil)) (dg 5 sc_law_same.nd)
      (ds_one (ds_expr (de_append (dv 2) (de_tup (da_cons (de_ix (dv 3) (dv 5)) (da_cons (de_ix (dv 4) (dv 5)) da_nil))))))))))
      (ds_one (ds_ret de_bl))))))))))))
      (ds_one (ds_ret de_bl)))), ?_⟩
  change D at g
  obtain ⟨h1, h2⟩ := pre
  intro q
  dsimp only
  refine ⟨fun m ρ => ∃ (st : List D) (a b t1 t2 kk : Slot), ρ = [a, b, .own q (st.map pr2), t1, t2, kk] ∧ (∀ d ∈ st, sameOk d = true) ∧ wtL st = m ∧ m ≤ 1000000, ⟨wt g, [g], _, _, _, _, _, rfl, ?_, ?_, h2⟩, ?_⟩
  · intro d hd
    rw [List.mem_singleton.mp hd]
    exact h1
  · simp [wtL]
  rintro m ρ ⟨st, a, b, t1, t2, kk, rfl, hst, hm, hm2⟩
  show if decide ((0 : Int) < ((st.map pr2).length : Nat)) = true then _ else _
  refine ite2 (fun h => ?_) (fun h => rfl)
  have hl : 0 < st.length := by
    have := of_decide_eq_true h
    rw [List.length_map] at this
    omega
  obtain ⟨r, x, rfl⟩ := last_of hl
  refine ⟨pr2 x, ?_, ?_⟩
  · rw [List.map_append, List.map_singleton]
    exact at_last _ _
  have ed : ((r ++ [x]).map pr2).dropLast = r.map pr2 := by rw [List.map_append, List.map_singleton, List.dropLast_concat]
  rw [ed]
  have hr' : ∀ d ∈ r, sameOk d = true := fun d hd => hst d (List.mem_append_left _ hd)
  have hx : sameOk x = true := hst x (List.mem_append_right _ List.mem_cons_self)
  have hw : wtL r + wt x = m := by rw [← hm, wtL_app]; simp [wtL]
  have hp := wt_pos x
  have next : ∀ {a b t1 t2 kk : Slot}, ∃ m', m' < m ∧ ∃ (st : List D) (a' b' t1' t2' kk' : Slot), [a, b, .own q (r.map pr2), t1, t2, kk] = [a', b', Slot.own q (st.map pr2), t1', t2', kk'] ∧ (∀ d ∈ st, sameOk d = true) ∧ wtL st = m' ∧ m' ≤ 1000000 := fun {a b t1 t2 kk} => ⟨wtL r, by omega, r, _, _, _, _, _, rfl, hr', rfl, by omega⟩
  cases x with
  | non => exact next
  | bl k => cases k <;> exact next
  | int i =>
    show if (!decide (i = i)) = true then _ else _
    rw [if_neg (by simp)]
    exact next
  | str i =>
    show if (!decide (i = i)) = true then _ else _
    rw [if_neg (by simp)]
    exact next
  | tup ds =>
    have hds : sameOkL ds = true := hx
    have hwd : wt (.tup ds) = 1 + wtL ds := by simp only [wt]
    have hln := wtL_len ds
    have hrn := wtL_len r
    have eN : (((ds.length : Nat) : Int) - 0).toNat = ds.length := by omega
    show if (!decide (((ds.length : Nat) : Int) = ((ds.length : Nat) : Int))) = true then _ else _
    rw [if_neg (by simp)]
    refine ⟨by decide, by decide, by show -(2 ^ 62) ≤ ((ds.length : Nat) : Int); omega, by show ((ds.length : Nat) : Int) < 2 ^ 62; omega, fun k ρ => ∃ (a b kk : Slot), ρ = [a, b, .own q ((r ++ ds.take k).map pr2), .v (.tup ds), .v (.tup ds), kk], ⟨_, _, _, by rw [List.take_zero, List.append_nil]; rfl⟩, fun _ _ _ _ => trivial, ?_, ?_⟩
    · rintro k _ ρ hk rfl ⟨a, b, kk, rfl⟩
      have hk : k < ds.length := by
        have hk : k < (((ds.length : Nat) : Int) - 0).toNat := hk
        omega
      have e1 : atI ds (0 + (k : Int)) = some ds[k] := by
        rw [Int.zero_add]
        unfold atI
        rw [ixN_nat (by omega) (by omega), Int.toNat_natCast]
        exact List.getElem?_eq_getElem hk
      refine ⟨_, e1, _, e1, ?_, a, b, .v (.int (0 + (k : Int))), ?_⟩
      · show ((r ++ ds.take k).map pr2).length < 16777216
        rw [List.length_map, List.length_append, List.length_take]
        omega
      · have em : (r ++ ds.take (k + 1)).map pr2 = (r ++ ds.take k).map pr2 ++ [pr2 ds[k]] := by rw [take_one ds k hk, ← List.append_assoc, List.map_append (l₁ := r ++ ds.take k)]; rfl
        rw [em]
        rfl
    · rintro ρ ⟨a, b, kk, rfl⟩
      refine ⟨wtL (r ++ ds), by rw [wtL_app]; omega, r ++ ds, a, b, .v (.tup ds), .v (.tup ds), kk, ?_, fun d hd => ?_, rfl, by rw [wtL_app]; omega⟩
      · rw [show ds.take (((ds.length : Nat) : Int) - 0).toNat = ds from by rw [eN, List.take_length]]
      · rcases List.mem_append.mp hd with h | h
        · exact hr' d h
        · exact sameOkL_mem.mp hds d h
  | lst ds =>
    have hds : sameOkL ds = true := hx
    have hwd : wt (.lst ds) = 1 + wtL ds := by simp only [wt]
    have hln := wtL_len ds
    have hrn := wtL_len r
    have eN : (((ds.length : Nat) : Int) - 0).toNat = ds.length := by omega
    show if (!decide (((ds.length : Nat) : Int) = ((ds.length : Nat) : Int))) = true then _ else _
    rw [if_neg (by simp)]
    refine ⟨by decide, by decide, by show -(2 ^ 62) ≤ ((ds.length : Nat) : Int); omega, by show ((ds.length : Nat) : Int) < 2 ^ 62; omega, fun k ρ => ∃ (a b kk : Slot), ρ = [a, b, .own q ((r ++ ds.take k).map pr2), .v (.lst ds), .v (.lst ds), kk], ⟨_, _, _, by rw [List.take_zero, List.append_nil]; rfl⟩, fun _ _ _ _ => trivial, ?_, ?_⟩
    · rintro k _ ρ hk rfl ⟨a, b, kk, rfl⟩
      have hk : k < ds.length := by
        have hk : k < (((ds.length : Nat) : Int) - 0).toNat := hk
        omega
      have e1 : atI ds (0 + (k : Int)) = some ds[k] := by
        rw [Int.zero_add]
        unfold atI
        rw [ixN_nat (by omega) (by omega), Int.toNat_natCast]
        exact List.getElem?_eq_getElem hk
      refine ⟨_, e1, _, e1, ?_, a, b, .v (.int (0 + (k : Int))), ?_⟩
      · show ((r ++ ds.take k).map pr2).length < 16777216
        rw [List.length_map, List.length_append, List.length_take]
        omega
      · have em : (r ++ ds.take (k + 1)).map pr2 = (r ++ ds.take k).map pr2 ++ [pr2 ds[k]] := by rw [take_one ds k hk, ← List.append_assoc, List.map_append (l₁ := r ++ ds.take k)]; rfl
        rw [em]
        rfl
    · rintro ρ ⟨a, b, kk, rfl⟩
      refine ⟨wtL (r ++ ds), by rw [wtL_app]; omega, r ++ ds, a, b, .v (.lst ds), .v (.lst ds), kk, ?_, fun d hd => ?_, rfl, by rw [wtL_app]; omega⟩
      · rw [show ds.take (((ds.length : Nat) : Int) - 0).toNat = ds from by rw [eN, List.take_length]]
      · rcases List.mem_append.mp hd with h | h
        · exact hr' d h
        · exact sameOkL_mem.mp hds d h
  | _ => cases hx
theorem has_law_same (T : Tx K mg) {f : Addr} {fd : FuncData} (F : Fd K "_law_same" s_law_same [] f fd) (gm : mg "_law_same" = some (.ref f)) : Has P w K mg base "_law_same" 1 ["actual", "due"] (spF K sp_same) := by
  exact has_of F gm (ok_law_same T   F) fun _ _ _ _ _ _ us hl => match us, hl with | [_, _], _ => rfl
end
end Q
/-! C4 -/
set_option Elab.async false
set_option linter.all false
set_option maxRecDepth 100000
set_option maxHeartbeats 8000000
namespace Q
open PySem PySem.Spec PyProof.Rows L2 N
section
variable {P : Program} {w : World} {K : PySem.W.Frag} {mg : Str → Option Value} {base : Heap}
def inB (low high : Int) : D → Bool
  | .int i => decide (low ≤ i ∧ i ≤ high)
  | _ => false
def sp_number_in : FS := { α := D × Int × Int, args := fun g => [g.1, .int g.2.1, .int g.2.2], pre := fun g => (ty7 g.1).isSome = true, post := fun g r => r = .bl (inB g.2.1 g.2.2 g.1) }
def sp_tuple_of_kinds : FS := { α := List Int × Int × Int × Int, args := fun g => [.tup (g.1.map D.int), .int g.2.1, .int g.2.2.1, .int g.2.2.2], pre := fun g => g.2.2.1 ≤ (g.1.length : Nat) ∧ (g.1.length : Nat) ≤ g.2.2.2 ∧ ∀ n ∈ g.1, 0 ≤ n ∧ n ≤ g.2.1 - 1, post := fun _ r => r = .bl true }
def sp_refused : FS := { α := Str × D, args := fun g => [.tup [.str "raised", .lst [.str g.1], g.2], .str g.1, g.2], pre := fun g => sameOk g.2 = true ∧ wt g.2 ≤ 1000000 ∧ g.1 ≠ "Gains" ∧ SeqAt.shaped (.list [.str g.1]) = true, post := fun _ r => r = .bl true }
/-! _law_refused -/
abbrev s_law_refused : Stmt := topS 82
abbrev n_law_refused : List Str := ["answer", "name", "value"]
theorem sc_law_refused : FnScope n_law_refused ["answer", "name", "value"] (defScope s_law_refused) := ⟨rfl, rfl, rfl, by decide +kernel, rfl, by decide +kernel, by decide +kernel⟩
theorem ok_law_refused (T : Tx K mg) (h_law_same : Has P w K mg base "_law_same" 1 ["actual", "due"] (spF K sp_same)) {f : Addr} {fd : FuncData} (F : Fd K "_law_refused" s_law_refused [] f fd) : FnOk P w K mg base (L2N.CX P w) 2 f fd ["answer", "name", "value"] (spF K sp_refused) := by
  refine fn_ok F sc_law_refused sp_refused (fun _ => rfl) fun cdv A outer s H E g hr pre hx => ?_
  refine ⟨_, (ds_cons (ds_if ((dw_or (dt_ne (de_ix (dv 0) de_int) de_str) (dw_or1 (dt_neD hr (de_ix (dv 0) de_int) (de_new (dn_lst (da_cons (dv 1) da_nil))))))).dt
      (ds_one (ds_ret de_bl))
      ds_nil)
      (ds_one (ds_ret (de_or (de_eq (dv 1) de_str) (de_one (de_call h_law_same hr (da_cons (de_ix (dv 0) de_int) (da_cons (dv 2) da_nil)))))))), ?_⟩
  obtain ⟨nm, v⟩ := g
  obtain ⟨h1, h2, h3, h4⟩ := pre
  refine ⟨_, rfl, ?_⟩
  refine ⟨_, rfl, .list [.str nm], .list [.str nm], rfl, rfl, h4, h4, ?_⟩
  have e : PyData.eqv (.list [.str nm]) (.list [.str nm]) = true := by simp [PyData.eqv, PyData.eqvAll]
  show if (!PyData.eqv (.list [.str nm]) (.list [.str nm])) = true then _ else _
  rw [if_neg (by rw [e]; decide)]
  show if decide (nm = "Gains") = true then _ else _
  rw [if_neg (by simpa using h3)]
  refine ⟨v, rfl, v, rfl, ⟨h1, h2⟩, fun r hr => ?_, fun _ h => h.elim⟩
  have hr : r = .bl true := hr
  subst hr
  exact rfl
theorem has_law_refused (T : Tx K mg) (h_law_same : Has P w K mg base "_law_same" 1 ["actual", "due"] (spF K sp_same)) {f : Addr} {fd : FuncData} (F : Fd K "_law_refused" s_law_refused [] f fd) (gm : mg "_law_refused" = some (.ref f)) : Has P w K mg base "_law_refused" 2 ["answer", "name", "value"] (spF K sp_refused) := by
  exact has_of F gm (ok_law_refused T  h_law_same F) fun _ _ _ _ _ _ us hl => match us, hl with | [_, _, _], _ => rfl
/-! lists and tuples made anew -/
mutual
def shp : D → Int → D
  | .lst ds, w => if w % 2 = 0 then .lst (shpL ds (w / 2)) else .tup (shpL ds (w / 2))
  | .tup ds, w => if w % 2 = 0 then .lst (shpL ds (w / 2)) else .tup (shpL ds (w / 2))
  | d, _ => d
def shpL : List D → Int → List D
  | [], _ => []
  | d :: ds, w => shp d w :: shpL ds w
end
theorem shpL_map : ∀ (ds : List D) (w : Int), shpL ds w = ds.map fun d => shp d w
  | [], _ => rfl
  | d :: ds, w => by rw [shpL, shpL_map ds w, List.map_cons]
mutual
/-- how many lists stand in one another -/
def dep : D → Nat
  | .lst ds => 1 + depL ds
  | .tup ds => 1 + depL ds
  | .non => 0
  | .bl _ => 0
  | .int _ => 0
  | .str _ => 0
  | .dic _ => 0
  | .obj _ => 0
  | .ins _ _ _ => 0
  | .ty _ => 0
def depL : List D → Nat
  | [] => 0
  | d :: ds => max (dep d) (depL ds)
end
theorem depL_mem : ∀ {ds : List D} {d : D}, d ∈ ds → dep d ≤ depL ds
  | [], _, h => by simp at h
  | x :: ds, d, h => by
    rw [depL]
    rcases List.mem_cons.mp h with rfl | h
    · omega
    · have := depL_mem h
      omega
mutual
/-- of the seven types, no list too long -/
def shOk : D → Bool
  | .lst ds => decide (ds.length ≤ 16777216) && shOkL ds
  | .tup ds => decide (ds.length ≤ 16777216) && shOkL ds
  | .non => true
  | .bl _ => true
  | .int _ => true
  | .str _ => true
  | .dic _ => true
  | .obj _ => false
  | .ins _ _ _ => false
  | .ty _ => false
def shOkL : List D → Bool
  | [] => true
  | d :: ds => shOk d && shOkL ds
end
theorem shOkL_mem : ∀ {ds : List D}, shOkL ds = true ↔ ∀ d ∈ ds, shOk d = true
  | [] => by simp [shOkL]
  | d :: ds => by
    rw [shOkL, Bool.and_eq_true, shOkL_mem (ds := ds), List.forall_mem_cons]
def sp_shaped (n : Nat) : FS := { α := D × Int, args := fun g => [g.1, .int g.2], pre := fun g => dep g.1 < n ∧ shOk g.1 = true, post := fun g r => r = shp g.1 g.2 }
/-! _law_shaped -/
abbrev s_law_shaped : Stmt := topS 67
abbrev n_law_shaped : List Str := ["thing", "way", "parts", "part"]
theorem sc_law_shaped : FnScope n_law_shaped ["thing", "way"] (defScope s_law_shaped) := ⟨rfl, rfl, rfl, by decide +kernel, rfl, by decide +kernel, by decide +kernel⟩
theorem ok_law_shaped (T : Tx K mg) (n : Nat) (ih : Has P w K mg base "_law_shaped" n ["thing", "way"] (spO K (sp_shaped n))) {f : Addr} {fd : FuncData} (F : Fd K "_law_shaped" s_law_shaped [] f fd) : FnOk P w K mg base (L2N.CX P w) (n + 1) f fd ["thing", "way"] (spO K (sp_shaped (n + 1))) := by
  refine fnO_ok F sc_law_shaped (sp_shaped (n + 1)) (fun _ => rfl) fun cdv A outer s H E g hr pre => ?_
  refine ⟨_, (ds_cons (ds_if (dt_not (dt_val (de_isi2 T.b_isinstance (da_cons (dv 0) (da_cons (de_tup (da_cons (de_ty T.b_list bt_list) (da_cons (de_ty T.b_tuple bt_tuple) da_nil))) da_nil)))))
      (ds_one (ds_ret (dv 0)))
      ds_nil)
      (ds_cons (ds_setLcO (j := 2) sc_law_shaped.nd (di_seq (dv 0)) (blkOk_by (own := [("part", 3)]) (N := n_law_shaped) (sc := defScope s_law_shaped) (by decide +kernel)) (fun _ _ _ _ _ _ _ => dts_nil) (fun _ _ _ _ _ _ _ => (de_callO ih hr (da_cons (dv 3) (da_cons (de_fdiv (dv 1) de_int) da_nil)))) (fun _ _ _ _ _ => pg_name (i := 3) sc_law_shaped.nd rfl (Or.inl rfl)) (sw_true rfl rfl rfl (by decide +kernel)))
      (ds_cons (ds_if (dt_eq (de_mod (de_int1 T.b_int (da_cons (dv 1) da_nil)) de_int) de_int)
      (ds_one (ds_retO (dv 2)))
      ds_nil)
      (ds_one (ds_ret (de_tuple T.b_tuple (da_cons (dv 2) da_nil))))))), ?_⟩
  obtain ⟨d, w⟩ := g
  obtain ⟨p1, p2⟩ := pre
  cases d with
  | lst ds =>
    have p2 : (decide (ds.length ≤ 16777216) && shOkL ds) = true := p2
    obtain ⟨q1, q2⟩ := Bool.and_eq_true_iff.mp p2
    have q1 := of_decide_eq_true q1
    have p1 : 1 + depL ds < n + 1 := p1
    refine ⟨trivial, q1, fun k acc ρ => (∃ l : Slot, ρ = [.v (.lst ds), .v (.int w), l, .un]) ∧ acc = (ds.take k).map (fun d => shp d (w / 2)), ⟨⟨_, rfl⟩, rfl⟩, fun _ _ _ _ _ => trivial, ?_, ?_⟩
    · rintro k d acc ρ hk hd ⟨⟨l, rfl⟩, rfl⟩
      have hd : ds[k]? = some d := hd
      have hm := List.mem_of_getElem? hd
      refine ⟨⟨by decide, by decide⟩, (d, w / 2), rfl, ⟨?_, shOkL_mem.mp q2 d hm⟩, fun r hr => ⟨⟨l, rfl⟩, ?_⟩, fun _ _ => trivial⟩
      · have := depL_mem hm
        show dep d < n
        omega
      · have hr : r = shp d (w / 2) := hr
        rw [hr, List.take_add_one, hd, List.map_append]
        rfl
    · rintro acc ρ ⟨⟨l, rfl⟩, rfl⟩ q
      have el : ds.take ds.length = ds := List.take_length
      refine ⟨(by decide : (0 : Int) < 2), ?_⟩
      show if decide (w % 2 = 0) = true then _ else _
      refine ite2 (fun h => ?_) (fun h => ?_)
      · have h : w % 2 = 0 := of_decide_eq_true h
        show D.lst ((ds.take ds.length).map fun d => shp d (w / 2)) = shp (.lst ds) w
        rw [el, shp, if_pos h, shpL_map]
      · have h : ¬ w % 2 = 0 := fun z => h (decide_eq_true z)
        refine ⟨?_, rfl⟩
        show D.tup ((ds.take ds.length).map fun d => shp d (w / 2)) = shp (.lst ds) w
        rw [el, shp, if_neg h, shpL_map]
  | tup ds =>
    have p2 : (decide (ds.length ≤ 16777216) && shOkL ds) = true := p2
    obtain ⟨q1, q2⟩ := Bool.and_eq_true_iff.mp p2
    have q1 := of_decide_eq_true q1
    have p1 : 1 + depL ds < n + 1 := p1
    refine ⟨trivial, q1, fun k acc ρ => (∃ l : Slot, ρ = [.v (.tup ds), .v (.int w), l, .un]) ∧ acc = (ds.take k).map (fun d => shp d (w / 2)), ⟨⟨_, rfl⟩, rfl⟩, fun _ _ _ _ _ => trivial, ?_, ?_⟩
    · rintro k d acc ρ hk hd ⟨⟨l, rfl⟩, rfl⟩
      have hd : ds[k]? = some d := hd
      have hm := List.mem_of_getElem? hd
      refine ⟨⟨by decide, by decide⟩, (d, w / 2), rfl, ⟨?_, shOkL_mem.mp q2 d hm⟩, fun r hr => ⟨⟨l, rfl⟩, ?_⟩, fun _ _ => trivial⟩
      · have := depL_mem hm
        show dep d < n
        omega
      · have hr : r = shp d (w / 2) := hr
        rw [hr, List.take_add_one, hd, List.map_append]
        rfl
    · rintro acc ρ ⟨⟨l, rfl⟩, rfl⟩ q
      have el : ds.take ds.length = ds := List.take_length
      refine ⟨(by decide : (0 : Int) < 2), ?_⟩
      show if decide (w % 2 = 0) = true then _ else _
      refine ite2 (fun h => ?_) (fun h => ?_)
      · have h : w % 2 = 0 := of_decide_eq_true h
        show D.lst ((ds.take ds.length).map fun d => shp d (w / 2)) = shp (.tup ds) w
        rw [el, shp, if_pos h, shpL_map]
      · have h : ¬ w % 2 = 0 := fun z => h (decide_eq_true z)
        refine ⟨?_, rfl⟩
        show D.tup ((ds.take ds.length).map fun d => shp d (w / 2)) = shp (.tup ds) w
        rw [el, shp, if_neg h, shpL_map]
  | non => exact ⟨rfl, rfl⟩
  | bl b => exact ⟨rfl, rfl⟩
  | int b => exact ⟨rfl, rfl⟩
  | str b => exact ⟨rfl, rfl⟩
  | dic b => exact ⟨rfl, rfl⟩
  | _ => cases p2
theorem has_law_shaped (T : Tx K mg) {f : Addr} {fd : FuncData} (F : Fd K "_law_shaped" s_law_shaped [] f fd) (gm : mg "_law_shaped" = some (.ref f)) : ∀ n : Nat, Has P w K mg base "_law_shaped" n ["thing", "way"] (spO K (sp_shaped n))
  | 0 => has_of F gm (fn_none (by rintro vs H Q E ⟨g, _, z, _⟩; exact absurd z.1 (Nat.not_lt_zero _))) (fun _ _ _ _ _ _ us hl => match us, hl with | [_, _], _ => rfl)
  | n + 1 => has_of F gm (ok_law_shaped T  n (has_law_shaped T  F gm n) F) (fun _ _ _ _ _ _ us hl => match us, hl with | [_, _], _ => rfl)
end
end Q
/-! C5 -/
set_option Elab.async false
set_option linter.all false
set_option maxRecDepth 100000
set_option maxHeartbeats 8000000
namespace Q
open PySem PySem.Spec PyProof.Rows L2 N
section
variable {P : Program} {w : World} {K : PySem.W.Frag} {mg : Str → Option Value} {base : Heap}
/-! _law_store -/
abbrev s_law_store : Stmt := topS 61
abbrev n_law_store : List Str := ["script", "cells", "seed", "cell", "small"]
theorem sc_law_store : FnScope n_law_store ["script"] (defScope s_law_store) := ⟨rfl, rfl, rfl, by decide +kernel, rfl, by decide +kernel, by decide +kernel⟩
theorem ok_law_store (T : Tx K mg) {f : Addr} {fd : FuncData} (F : Fd K "_law_store" s_law_store [] f fd) : FnOk P w K mg base (L2N.CX P w) 1 f fd ["script"] (spRaw K StOk) := by
  refine fnRaw_ok F sc_law_store fun cdv A outer s H E a ns hr hln hs => ?_
  refine ⟨_, (ds_cons (ds_setO (i := 1) sc_law_store.nd (dn_lst da_nil))
      (ds_cons (ds_set (i := 2) sc_law_store.nd de_int)
      (ds_cons (ds_for (passes_of rfl) (di_raw hs (by simp) (dv 0)) (dg 3 sc_law_store.nd)
      (ds_cons (ds_set (i := 4) sc_law_store.nd (de_mod (de_int1 T.b_int (da_cons (dv 3) da_nil)) de_int))
      (ds_cons (ds_set (i := 2) sc_law_store.nd (de_mod (de_int1 T.b_int (da_cons (de_add (de_add (de_mul (dv 2) de_int) (dv 4)) de_int) da_nil)) de_int))
      (ds_one (ds_if (dt_lt (dv 3) (de_powW de_int de_int))
      (ds_one (ds_expr (de_append (dv 1) (de_tup (da_cons de_int (da_cons (dv 4) da_nil))))))
      (ds_one (ds_expr (de_append (dv 1) (de_tup (da_cons de_int (da_cons (de_mod (de_int1 T.b_int (da_cons (dv 3) da_nil)) (de_powW (de_powW de_int de_int) de_int)) da_nil)))))))))))
      (ds_lock 1 (ds_one (ds_retL 5 (dn_lst (da_cons (dv 1) (da_cons de_int (da_cons de_int (da_cons de_int (da_cons (dv 2) da_nil)))))))))))), ?_⟩
  intro q
  have p0 : (0 : Int) < 2147483647 := by decide
  have c18 : CPowW 10 18 := ⟨by decide, by decide⟩
  have c60 : CPowW 10 60 := ⟨by decide, by decide⟩
  have c600 : CPowW (10 ^ (60 : Int).toNat) 10 := ⟨by decide, by decide +kernel⟩
  have p600 : (0 : Int) < (10 ^ (60 : Int).toNat) ^ (10 : Int).toNat := by decide +kernel
  refine ⟨rfl, fun k ρ => ∃ (cs : List D) (z : Int) (a1 a2 : Slot), ρ = [.v (.obj a), .own q cs, .v (.int z), a1, a2] ∧ cs.length = k ∧ ∀ c ∈ cs, CellOk c, ⟨[], _, _, _, rfl, rfl, fun c hc => by simp at hc⟩, fun _ _ _ _ => trivial, ?_, ?_⟩
  · rintro k d ρ hk ⟨i, hi, rfl⟩ ⟨cs, z, a1, a2, rfl, hl, hc⟩
    refine ⟨p0, .inr (by decide), p0, c18, ?_⟩
    have add : ∀ {m n : Int}, ∀ c ∈ cs ++ [D.tup [.int m, .int n]], CellOk c := fun {m n} c h => by
      rcases List.mem_append.mp h with h | h
      · exact hc c h
      · exact ⟨m, n, List.mem_singleton.mp h⟩
    have hlen : cs.length < 16777216 := by omega
    show if decide (i < 10 ^ (18 : Int).toNat) = true then _ else _
    refine ite2 (fun h => ?_) (fun h => ?_)
    · exact ⟨hlen, _, _, _, _, rfl, by rw [List.length_append, hl]; rfl, add⟩
    · exact ⟨c60, c600, p600, hlen, _, _, _, _, rfl, by rw [List.length_append, hl]; rfl, add⟩
  · rintro ρ ⟨cs, z, a1, a2, rfl, hl, hc⟩
    refine ⟨by show 5 ≤ 5; decide, fun p => ⟨cs, 0, 0, 0, z, rfl, hc, Int.le_refl 0⟩⟩
theorem has_law_store (T : Tx K mg) {f : Addr} {fd : FuncData} (F : Fd K "_law_store" s_law_store [] f fd) (gm : mg "_law_store" = some (.ref f)) : Has P w K mg base "_law_store" 1 ["script"] (spRaw K StOk) := by
  exact has_of F gm (ok_law_store T   F) fun _ _ _ _ _ _ us hl => match us, hl with | [_], _ => rfl
/-! the law's answering def -/
theorem bt_ValueError : bootBuiltins "ValueError" = some (.type "ValueError") := by decide +kernel
def suiteOf : List Stmt → List Stmt
  | [.Try _ [.ExceptHandler _ _ b _] _ _ _] => b
  | _ => []
def cls16 : List Str := ["BadNumber", "BadTable", "BadKind", "BadLot", "BadOrder", "BadBatch", "BadRow", "BadFold", "BadRing", "BadSlot", "BadPaper", "BadRule", "Outside", "BadText", "TooMany", "Gains"]
/-- what must be known of the class nm -/
structure KitX (K : PySem.W.Frag) (nm : Str) : Prop where
  ex : ExcC K (He.ga K nm)
  w : PySem.W.exmOne K (.ref (He.ga K nm)) (.ref (He.ga K "WorksError")) = some true
  kit : ∀ x ∈ cls16, PySem.W.kitOne K (.ref (He.ga K nm)) (.ref (He.ga K x)) = some (decide (x = nm))
  ve : PySem.W.kitOne K (.ref (He.ga K nm)) (.type "ValueError") = some true
def exBad (K : PySem.W.Frag) (x : Str) : Exn := ⟨He.ga K x, none⟩
def raisedD (nm : Str) : D := .tup [.str "raised", .lst [.str nm], .non]
def cls13 : List Str := ["BadNumber", "BadTable", "BadKind", "BadLot", "BadOrder", "BadBatch", "BadRow", "BadFold", "BadRing", "BadSlot", "BadPaper", "BadRule", "Outside"]
def raisedF (nm : Str) (d : D) : D := .tup [.str "raised", .lst [.str nm], d]
def exMany (K : PySem.W.Frag) (d : D) : Exn := ⟨He.ga K "TooMany", some ("limit", d)⟩
def AnsN (K : PySem.W.Frag) : Exn → D → Prop := fun y d => (∃ nm ∈ cls13, y = exBad K nm ∧ d = raisedD nm) ∨ ∃ v, y = exMany K v ∧ d = raisedF "TooMany" v
theorem ansP {K : PySem.W.Frag} (nm : Str) (h : nm ∈ cls13) {x : Exn} (e : x = exBad K nm) : AnsN K x (raisedD nm) := .inl ⟨nm, h, e, rfl⟩
theorem ansM {K : PySem.W.Frag} {v : D} {x : Exn} (e : x = exMany K v) : AnsN K x (raisedF "TooMany" v) := .inr ⟨v, e, rfl⟩
def names17 : List Str := ["BadNumber", "BadTable", "BadKind", "BadLot", "BadOrder", "BadBatch", "BadRow", "BadFold", "BadRing", "BadSlot", "BadPaper", "BadRule", "Outside", "BadText", "TooMany", "Gains", "odd"]
def picked (bs : List Bool) (k : Nat) : List D := ((List.range k).filter fun j => bs.getD j false).map fun j => D.str (names17.getD j "")
theorem picked_step {bs : List Bool} {k : Nat} : picked bs (k + 1) = picked bs k ++ if bs.getD k false = true then [D.str (names17.getD k "")] else [] := by
  unfold picked
  rw [List.range_succ, List.filter_append, List.map_append]
  congr 1
  by_cases h : bs.getD k false = true
  · rw [if_pos h, List.filter_cons_of_pos (p := fun j => bs.getD j false) h]
    rfl
  · rw [if_neg h, List.filter_cons_of_neg (p := fun j => bs.getD j false) h]
    rfl
theorem at_map {α : Type} {f : α → D} {l : List α} {k : Nat} {d : α} (h : k < l.length) : atI (l.map f) (0 + (k : Int)) = some (f (l.getD k d)) := by
  rw [Int.zero_add]
  unfold atI
  rw [ixN_nat (by omega) (by rw [List.length_map]; omega), Int.toNat_natCast]
  show (l.map f)[k]? = _
  rw [List.getElem?_map, List.getD_eq_getElem?_getD, List.getElem?_eq_getElem h]
  rfl
def bsOf (nm : Str) : List Bool := cls16.map (fun x => decide (x = nm)) ++ [false]
theorem picked_all {nm : Str} (h : nm ∈ cls13) : picked (bsOf nm) 17 = [D.str nm] := by
  have h2 : ∀ nm ∈ cls13, ((List.range 17).filter fun j => (bsOf nm).getD j false).map (fun j => names17.getD j "") = [nm] := by decide +kernel
  have h3 := congrArg (List.map D.str) (h2 nm h)
  rw [List.map_map] at h3
  exact h3
theorem picked_many : picked (bsOf "TooMany") 17 = [D.str "TooMany"] := by
  have h2 : ((List.range 17).filter fun j => (bsOf "TooMany").getD j false).map (fun j => names17.getD j "") = [("TooMany" : Str)] := by decide +kernel
  have h3 := congrArg (List.map D.str) h2
  rw [List.map_map] at h3
  exact h3
theorem many3 : decide (("BadText" : Str) = "TooMany") = false ∧ decide (("TooMany" : Str) = "TooMany") = true := by decide +kernel
theorem not3 {nm : Str} (h : nm ∈ cls13) : (decide (("BadText" : Str) = nm) = false ∧ decide (("TooMany" : Str) = nm) = false) ∧ decide (("Gains" : Str) = nm) = false := by
  have h2 : ∀ nm ∈ cls13, (decide (("BadText" : Str) = nm) = false ∧ decide (("TooMany" : Str) = nm) = false) ∧ decide (("Gains" : Str) = nm) = false := by decide +kernel
  exact h2 nm h

/-! _law_answer -/
abbrev s_law_answer : Stmt := topS 81
abbrev n_law_answer : List Str := ["call", "e", "found", "names", "value", "k"]
theorem sc_law_answer : FnScope n_law_answer ["call"] (defScope s_law_answer) := ⟨rfl, rfl, rfl, by decide +kernel, rfl, by decide +kernel, by decide +kernel⟩
abbrev su_law_answer : List Stmt := suiteOf (defBody s_law_answer)
theorem suite_law_answer (T : Tx K mg) {A : Around} {st : List Env} {s : Shared} {H : Hp} {g a C : Addr} {cdg : Value} {oe : Obj} {pn : List (Addr × Obj)} (hC : ExcC K C) (hz : L2N.Zn (.ref C) none oe) (hf : ∃ vs, oe.data = .fields vs) {nm : Str} (hnm : nm ∈ cls13) (e : C = He.ga K nm) (k : KitX K nm) :
    ∃ r, (∀ B, DSs ((cxOf C8.CX0 P w K mg base n_law_answer "_law_answer" (defScope s_law_answer) g cdg A st s H C8.E0).nox.suite a ((a, oe) :: pn)) B [] su_law_answer r) ∧ r { nx := fun _ => False, rt := fun d' _ => d' = raisedD nm } (iniE n_law_answer.length a) := by
  refine ⟨_, fun B => (ds_cons (ds_setO (i := 2) sc_law_answer.nd (dn_lst (da_cons (de_isE hC hz hf T.b_isinstance (da_cons (dv 1) (da_cons (de_obj T.c_BadNumber) da_nil))) (da_cons (de_isE hC hz hf T.b_isinstance (da_cons (dv 1) (da_cons (de_obj T.c_BadTable) da_nil))) (da_cons (de_isE hC hz hf T.b_isinstance (da_cons (dv 1) (da_cons (de_obj T.c_BadKind) da_nil))) (da_cons (de_isE hC hz hf T.b_isinstance (da_cons (dv 1) (da_cons (de_obj T.c_BadLot) da_nil))) da_nil))))))
      (ds_cons (ds_setO (i := 2) sc_law_answer.nd (dn_cat (dv 2) (de_new (dn_lst (da_cons (de_isE hC hz hf T.b_isinstance (da_cons (dv 1) (da_cons (de_obj T.c_BadOrder) da_nil))) (da_cons (de_isE hC hz hf T.b_isinstance (da_cons (dv 1) (da_cons (de_obj T.c_BadBatch) da_nil))) (da_cons (de_isE hC hz hf T.b_isinstance (da_cons (dv 1) (da_cons (de_obj T.c_BadRow) da_nil))) da_nil)))))))
      (ds_cons (ds_setO (i := 2) sc_law_answer.nd (dn_cat (dv 2) (de_new (dn_lst (da_cons (de_isE hC hz hf T.b_isinstance (da_cons (dv 1) (da_cons (de_obj T.c_BadFold) da_nil))) (da_cons (de_isE hC hz hf T.b_isinstance (da_cons (dv 1) (da_cons (de_obj T.c_BadRing) da_nil))) (da_cons (de_isE hC hz hf T.b_isinstance (da_cons (dv 1) (da_cons (de_obj T.c_BadSlot) da_nil))) da_nil)))))))
      (ds_cons (ds_setO (i := 2) sc_law_answer.nd (dn_cat (dv 2) (de_new (dn_lst (da_cons (de_isE hC hz hf T.b_isinstance (da_cons (dv 1) (da_cons (de_obj T.c_BadPaper) da_nil))) (da_cons (de_isE hC hz hf T.b_isinstance (da_cons (dv 1) (da_cons (de_obj T.c_BadRule) da_nil))) (da_cons (de_isE hC hz hf T.b_isinstance (da_cons (dv 1) (da_cons (de_obj T.c_Outside) da_nil))) da_nil)))))))
      (ds_cons (ds_setO (i := 2) sc_law_answer.nd (dn_cat (dv 2) (de_new (dn_lst (da_cons (de_isE hC hz hf T.b_isinstance (da_cons (dv 1) (da_cons (de_obj T.c_BadText) da_nil))) (da_cons (de_isE hC hz hf T.b_isinstance (da_cons (dv 1) (da_cons (de_obj T.c_TooMany) da_nil))) (da_cons (de_isE hC hz hf T.b_isinstance (da_cons (dv 1) (da_cons (de_obj T.c_Gains) da_nil))) da_nil)))))))
      (ds_cons (ds_expr (de_append (dv 2) (de_not (de_isT hC hz hf T.b_isinstance (da_cons (dv 1) (da_cons (de_ty T.b_ValueError bt_ValueError) da_nil))))))
      (ds_cons (ds_set (i := 3) sc_law_answer.nd (de_new (dn_lst (da_cons de_str (da_cons de_str (da_cons de_str (da_cons de_str (da_cons de_str (da_cons de_str (da_cons de_str (da_cons de_str (da_cons de_str da_nil))))))))))))
      (ds_cons (ds_set (i := 3) sc_law_answer.nd (de_new (dn_cat (dv 3) (de_new (dn_lst (da_cons de_str (da_cons de_str (da_cons de_str (da_cons de_str (da_cons de_str (da_cons de_str (da_cons de_str (da_cons de_str da_nil)))))))))))))
      (ds_cons (ds_set (i := 4) sc_law_answer.nd de_non)
      (ds_cons (ds_if (dt_val (de_isE hC hz hf T.b_isinstance (da_cons (dv 1) (da_cons (de_obj T.c_BadText) da_nil))))
      (ds_one (ds_set (i := 4) sc_law_answer.nd de_never))
      (ds_one (ds_if (dt_val (de_isE hC hz hf T.b_isinstance (da_cons (dv 1) (da_cons (de_obj T.c_TooMany) da_nil))))
      (ds_one (ds_set (i := 4) sc_law_answer.nd de_never))
      (ds_one (ds_if (dt_val (de_isE hC hz hf T.b_isinstance (da_cons (dv 1) (da_cons (de_obj T.c_Gains) da_nil))))
      (ds_one (ds_set (i := 4) sc_law_answer.nd de_never))
      ds_nil)))))
      (ds_one (ds_ret (de_tup (da_cons de_str (da_cons (de_new (dn_lcH (hot_suite hz hf) sc_law_answer.nd (di_range1H T.b_range (da_cons de_int da_nil)) (blkOk_by (own := [("k", 5)]) (N := n_law_answer) (sc := defScope s_law_answer) (by decide +kernel)) (fun _ _ _ _ _ _ _ => (dts_one (dt_val (de_ix (dv 2) (dv 5))))) (fun _ _ _ _ _ _ _ => (de_ix (dv 3) (dv 5))) (fun _ _ _ _ _ => pg_name (i := 5) sc_law_answer.nd rfl (Or.inl rfl)))) (da_cons (dv 4) da_nil)))))))))))))))), ?_⟩
  subst e
  have kk : ∀ x ∈ cls16, PySem.W.kitOne K (.ref (He.ga K nm)) (.ref (He.ga K x)) = some (decide (x = nm)) := k.kit
  obtain ⟨⟨n1, n2⟩, n3⟩ := not3 hnm
  refine ⟨_, _, rfl, kk "BadNumber" (by decide), _, _, rfl, kk "BadTable" (by decide), _, _, rfl, kk "BadKind" (by decide), _, _, rfl, kk "BadLot" (by decide), ?_⟩
  intro q1
  refine ⟨_, _, rfl, kk "BadOrder" (by decide), _, _, rfl, kk "BadBatch" (by decide), _, _, rfl, kk "BadRow" (by decide), (by decide : 4 + 3 ≤ 16777216), ?_⟩
  intro q2
  refine ⟨_, _, rfl, kk "BadFold" (by decide), _, _, rfl, kk "BadRing" (by decide), _, _, rfl, kk "BadSlot" (by decide), (by decide : 7 + 3 ≤ 16777216), ?_⟩
  intro q3
  refine ⟨_, _, rfl, kk "BadPaper" (by decide), _, _, rfl, kk "BadRule" (by decide), _, _, rfl, kk "Outside" (by decide), (by decide : 10 + 3 ≤ 16777216), ?_⟩
  intro q4
  refine ⟨_, _, rfl, kk "BadText" (by decide), _, _, rfl, kk "TooMany" (by decide), _, _, rfl, kk "Gains" (by decide), (by decide : 13 + 3 ≤ 16777216), ?_⟩
  intro q5
  refine ⟨_, _, rfl, k.ve, (by decide : 16 < 16777216), ?_⟩
  refine ⟨(by decide : 9 + 8 ≤ 16777216), ?_⟩
  refine ⟨_, false, rfl, (kk "BadText" (by decide)).trans (congrArg some n1), ?_⟩
  refine ⟨_, false, rfl, (kk "TooMany" (by decide)).trans (congrArg some n2), ?_⟩
  refine ⟨_, false, rfl, (kk "Gains" (by decide)).trans (congrArg some n3), ?_⟩
  refine ⟨trivial, by decide, by decide, by decide, by decide, by decide, fun k acc ρ => ρ = [.un, .v (.obj a), .own q5 ((bsOf nm).map D.bl), .v (.lst (names17.map D.str)), .v .non, .un] ∧ acc = picked (bsOf nm) k, ⟨rfl, rfl⟩, fun _ _ _ _ _ => trivial, ?_, ?_⟩
  · rintro k d acc ρ hk rfl ⟨rfl, rfl⟩
    have hk : k < 17 := hk
    have hkb : k < (bsOf nm).length := by show k < 17; exact hk
    refine ⟨_, at_map (d := false) hkb, ?_⟩
    show if (bsOf nm).getD k false = true then _ else _
    refine ite2 (fun h => ?_) (fun h => ?_)
    · refine ⟨_, at_map (f := D.str) (l := names17) (d := "") hk, rfl, ?_⟩
      rw [picked_step, if_pos h]
    · refine ⟨rfl, ?_⟩
      rw [picked_step, if_neg h, List.append_nil]
  · rintro acc ρ ⟨rfl, rfl⟩
    show D.tup [.str "raised", .lst (picked (bsOf nm) 17), .non] = raisedD nm
    rw [picked_all hnm]
    rfl
theorem suite_law_answer_TooMany (T : Tx K mg) {A : Around} {st : List Env} {s : Shared} {H : Hp} {g a C dd : Addr} {cdg : Value} {oe : Obj} {pn : List (Addr × Obj)} {d : D} (hC : ExcC K C) (XF : XfC K C) (hno : PySem.W.findIn K (.ref C) "limit" = some none) (hz : L2N.Zn (.ref C) (some dd) oe) (hf : ∃ vs, oe.data = .fields vs) (e : C = He.ga K "TooMany") (k : KitX K "TooMany") :
    ∃ r, (∀ B v, B dd = some (.xd [("limit", v)]) → Rep K B d v → DSs ((cxOf C8.CX0 P w K mg base n_law_answer "_law_answer" (defScope s_law_answer) g cdg A st s H C8.E0).nox.suite a ((a, oe) :: pn)) B [] su_law_answer r) ∧ r { nx := fun _ => False, rt := fun d' _ => d' = raisedF "TooMany" d } (iniE n_law_answer.length a) := by
  refine ⟨_, fun B v hB hd => (ds_cons (ds_setO (i := 2) sc_law_answer.nd (dn_lst (da_cons (de_isEd hC hz hf hB T.b_isinstance (da_cons (dv 1) (da_cons (de_obj T.c_BadNumber) da_nil))) (da_cons (de_isEd hC hz hf hB T.b_isinstance (da_cons (dv 1) (da_cons (de_obj T.c_BadTable) da_nil))) (da_cons (de_isEd hC hz hf hB T.b_isinstance (da_cons (dv 1) (da_cons (de_obj T.c_BadKind) da_nil))) (da_cons (de_isEd hC hz hf hB T.b_isinstance (da_cons (dv 1) (da_cons (de_obj T.c_BadLot) da_nil))) da_nil))))))
      (ds_cons (ds_setO (i := 2) sc_law_answer.nd (dn_cat (dv 2) (de_new (dn_lst (da_cons (de_isEd hC hz hf hB T.b_isinstance (da_cons (dv 1) (da_cons (de_obj T.c_BadOrder) da_nil))) (da_cons (de_isEd hC hz hf hB T.b_isinstance (da_cons (dv 1) (da_cons (de_obj T.c_BadBatch) da_nil))) (da_cons (de_isEd hC hz hf hB T.b_isinstance (da_cons (dv 1) (da_cons (de_obj T.c_BadRow) da_nil))) da_nil)))))))
      (ds_cons (ds_setO (i := 2) sc_law_answer.nd (dn_cat (dv 2) (de_new (dn_lst (da_cons (de_isEd hC hz hf hB T.b_isinstance (da_cons (dv 1) (da_cons (de_obj T.c_BadFold) da_nil))) (da_cons (de_isEd hC hz hf hB T.b_isinstance (da_cons (dv 1) (da_cons (de_obj T.c_BadRing) da_nil))) (da_cons (de_isEd hC hz hf hB T.b_isinstance (da_cons (dv 1) (da_cons (de_obj T.c_BadSlot) da_nil))) da_nil)))))))
      (ds_cons (ds_setO (i := 2) sc_law_answer.nd (dn_cat (dv 2) (de_new (dn_lst (da_cons (de_isEd hC hz hf hB T.b_isinstance (da_cons (dv 1) (da_cons (de_obj T.c_BadPaper) da_nil))) (da_cons (de_isEd hC hz hf hB T.b_isinstance (da_cons (dv 1) (da_cons (de_obj T.c_BadRule) da_nil))) (da_cons (de_isEd hC hz hf hB T.b_isinstance (da_cons (dv 1) (da_cons (de_obj T.c_Outside) da_nil))) da_nil)))))))
      (ds_cons (ds_setO (i := 2) sc_law_answer.nd (dn_cat (dv 2) (de_new (dn_lst (da_cons (de_isEd hC hz hf hB T.b_isinstance (da_cons (dv 1) (da_cons (de_obj T.c_BadText) da_nil))) (da_cons (de_isEd hC hz hf hB T.b_isinstance (da_cons (dv 1) (da_cons (de_obj T.c_TooMany) da_nil))) (da_cons (de_isEd hC hz hf hB T.b_isinstance (da_cons (dv 1) (da_cons (de_obj T.c_Gains) da_nil))) da_nil)))))))
      (ds_cons (ds_expr (de_append (dv 2) (de_not (de_isTd hC hz hf hB T.b_isinstance (da_cons (dv 1) (da_cons (de_ty T.b_ValueError bt_ValueError) da_nil))))))
      (ds_cons (ds_set (i := 3) sc_law_answer.nd (de_new (dn_lst (da_cons de_str (da_cons de_str (da_cons de_str (da_cons de_str (da_cons de_str (da_cons de_str (da_cons de_str (da_cons de_str (da_cons de_str da_nil))))))))))))
      (ds_cons (ds_set (i := 3) sc_law_answer.nd (de_new (dn_cat (dv 3) (de_new (dn_lst (da_cons de_str (da_cons de_str (da_cons de_str (da_cons de_str (da_cons de_str (da_cons de_str (da_cons de_str (da_cons de_str da_nil)))))))))))))
      (ds_cons (ds_set (i := 4) sc_law_answer.nd de_non)
      (ds_cons (ds_if (dt_val (de_isEd hC hz hf hB T.b_isinstance (da_cons (dv 1) (da_cons (de_obj T.c_BadText) da_nil))))
      (ds_one (ds_set (i := 4) sc_law_answer.nd de_never))
      (ds_one (ds_if (dt_val (de_isEd hC hz hf hB T.b_isinstance (da_cons (dv 1) (da_cons (de_obj T.c_TooMany) da_nil))))
      (ds_one (ds_set (i := 4) sc_law_answer.nd (de_xf XF hno hz hf hB hd (dv 1))))
      (ds_one (ds_if (dt_val (de_isEd hC hz hf hB T.b_isinstance (da_cons (dv 1) (da_cons (de_obj T.c_Gains) da_nil))))
      (ds_one (ds_set (i := 4) sc_law_answer.nd de_never))
      ds_nil)))))
      (ds_one (ds_ret (de_tup (da_cons de_str (da_cons (de_new (dn_lcH (hot_suite hz hf) sc_law_answer.nd (di_range1H T.b_range (da_cons de_int da_nil)) (blkOk_by (own := [("k", 5)]) (N := n_law_answer) (sc := defScope s_law_answer) (by decide +kernel)) (fun _ _ _ _ _ _ _ => (dts_one (dt_val (de_ix (dv 2) (dv 5))))) (fun _ _ _ _ _ _ _ => (de_ix (dv 3) (dv 5))) (fun _ _ _ _ _ => pg_name (i := 5) sc_law_answer.nd rfl (Or.inl rfl)))) (da_cons (dv 4) da_nil)))))))))))))))), ?_⟩
  subst e
  have kk : ∀ x ∈ cls16, PySem.W.kitOne K (.ref (He.ga K "TooMany")) (.ref (He.ga K x)) = some (decide (x = "TooMany")) := k.kit
  refine ⟨_, _, rfl, kk "BadNumber" (by decide), _, _, rfl, kk "BadTable" (by decide), _, _, rfl, kk "BadKind" (by decide), _, _, rfl, kk "BadLot" (by decide), ?_⟩
  intro q1
  refine ⟨_, _, rfl, kk "BadOrder" (by decide), _, _, rfl, kk "BadBatch" (by decide), _, _, rfl, kk "BadRow" (by decide), (by decide : 4 + 3 ≤ 16777216), ?_⟩
  intro q2
  refine ⟨_, _, rfl, kk "BadFold" (by decide), _, _, rfl, kk "BadRing" (by decide), _, _, rfl, kk "BadSlot" (by decide), (by decide : 7 + 3 ≤ 16777216), ?_⟩
  intro q3
  refine ⟨_, _, rfl, kk "BadPaper" (by decide), _, _, rfl, kk "BadRule" (by decide), _, _, rfl, kk "Outside" (by decide), (by decide : 10 + 3 ≤ 16777216), ?_⟩
  intro q4
  refine ⟨_, _, rfl, kk "BadText" (by decide), _, _, rfl, kk "TooMany" (by decide), _, _, rfl, kk "Gains" (by decide), (by decide : 13 + 3 ≤ 16777216), ?_⟩
  intro q5
  refine ⟨_, _, rfl, k.ve, (by decide : 16 < 16777216), ?_⟩
  refine ⟨(by decide : 9 + 8 ≤ 16777216), ?_⟩
  refine ⟨_, false, rfl, (kk "BadText" (by decide)).trans (congrArg some many3.1), ?_⟩
  refine ⟨_, true, rfl, (kk "TooMany" (by decide)).trans (congrArg some many3.2), ?_⟩
  refine ⟨rfl, ?_⟩
  refine ⟨trivial, by decide, by decide, by decide, by decide, by decide, fun k acc ρ => ρ = [.un, .v (.obj a), .own q5 ((bsOf "TooMany").map D.bl), .v (.lst (names17.map D.str)), .v d, .un] ∧ acc = picked (bsOf "TooMany") k, ⟨rfl, rfl⟩, fun _ _ _ _ _ => trivial, ?_, ?_⟩
  · rintro k d' acc ρ hk rfl ⟨rfl, rfl⟩
    have hk : k < 17 := hk
    have hkb : k < (bsOf "TooMany").length := by show k < 17; exact hk
    refine ⟨_, at_map (d := false) hkb, ?_⟩
    show if (bsOf "TooMany").getD k false = true then _ else _
    refine ite2 (fun h => ?_) (fun h => ?_)
    · refine ⟨_, at_map (f := D.str) (l := names17) (d := "") hk, rfl, ?_⟩
      rw [picked_step, if_pos h]
    · refine ⟨rfl, ?_⟩
      rw [picked_step, if_neg h, List.append_nil]
  · rintro acc ρ ⟨rfl, rfl⟩
    show D.tup [.str "raised", .lst (picked (bsOf "TooMany") 17), d] = raisedF "TooMany" d
    rw [picked_many]
    rfl
theorem gives_law_answer {X : Cx} (T : Tx X.K X.mg) (kx : ∀ nm ∈ cls13, KitX X.K nm) (kt : KitX X.K "TooMany") (nt : PySem.W.findIn X.K (.ref (He.ga X.K "TooMany")) "limit" = some none) {q : Str} {g : Addr} {cdg : Value} : LamN.GivesToN X n_law_answer "_law_answer" (defScope s_law_answer) g cdg (defBody s_law_answer) "call" q (TTans X.K (AnsN X.K)) :=
  answer_givesF (CW := He.ga X.K "WorksError") rfl T.c_WorksError (by decide) (fun _ => rfl) sc_law_answer.nd rfl rfl fun y d h => by
    rcases h with ⟨nm, hnm, e1, e2⟩ | ⟨w, e1, e2⟩
    · subst e1 e2
      refine ⟨(kx nm hnm).w, fun A st s H a oe pn dx hz hf => ?_⟩
      by_cases hd : dx = none
      · subst hd
        obtain ⟨r, h1, h2⟩ := suite_law_answer T (kx nm hnm).ex hz hf hnm rfl (kx nm hnm)
        exact ⟨r, fun B _ => h1 B, h2⟩
      · exact ⟨fun _ _ => True, fun B h => absurd h.2 hd, trivial⟩
    · subst e1 e2
      refine ⟨kt.w, fun A st s H a oe pn dx hz hf => ?_⟩
      cases dx with
      | none => exact ⟨fun _ _ => True, fun B h => (by obtain ⟨_, _, _, h3, _⟩ := h; cases h3), trivial⟩
      | some dd =>
        obtain ⟨r, h1, h2⟩ := suite_law_answer_TooMany T kt.ex ⟨kt.ex.hg, kt.ex.hk, kt.ex.hs, kt.ex.hd⟩ nt hz hf rfl kt
        refine ⟨r, fun B h => ?_, h2⟩
        obtain ⟨_, a', v, h3, h4, h5⟩ := h
        cases h3
        exact h1 B v h4 h5
end
end Q
/-! C6 -/
set_option Elab.async false
set_option linter.all false
set_option maxRecDepth 100000
set_option maxHeartbeats 8000000
namespace Q
open PySem PySem.Spec PyProof.Rows L2 N
section
variable {P : Program} {w : World} {K : PySem.W.Frag} {mg : Str → Option Value} {base : Heap}
/-! what laws share: plain lemmas -/
theorem cut_from {ds : List D} {n : Nat} (h : n ≤ ds.length) : N.cutD ds (some (n : Int)) none = ds.drop n := by
  show (ds.drop (if (n : Int) < 0 then ((n : Int) + (ds.length : Int)).toNat else min (n : Int).toNat ds.length)).take (ds.length - (if (n : Int) < 0 then ((n : Int) + (ds.length : Int)).toNat else min (n : Int).toNat ds.length)) = ds.drop n
  rw [if_neg (by omega), Int.toNat_natCast, Nat.min_eq_left h]
  exact List.take_of_length_le (by rw [List.length_drop]; omega)
def toI : D → Int
  | .int i => i
  | _ => 0
theorem toI_map (ns : List Int) : (ns.map D.int).map toI = ns := by
  rw [List.map_map]
  exact (List.map_congr_left fun _ _ => rfl).trans (List.map_id _)
theorem at_ints {ns : List Int} {k : Nat} {n : Int} (h : ns[k]? = some n) : atI (ns.map D.int) (k : Int) = some (.int n) := by
  have hk := (List.getElem?_eq_some_iff.mp h).1
  unfold atI
  rw [ixN_nat (by omega) (by rw [List.length_map]; omega), Int.toNat_natCast]
  show (ns.map D.int)[k]? = _
  rw [List.getElem?_map, h]
  rfl
def isW : D → Bool
  | .int _ => true
  | _ => false
def isL : D → Bool
  | .tup _ => true
  | .lst _ => true
  | _ => false
def RowV (m : Int) (ns : List Int) : Prop := ns.length ≤ 200 ∧ ∀ n ∈ ns, 0 ≤ n ∧ n < m
theorem isRow_el {m : Int} {d : D} (h : isRow m d = true) : ∃ ns : List Int, rowOf d = some (ns.map D.int) ∧ RowV m ns := by
  unfold isRow at h
  cases e : rowOf d with
  | none => rw [e] at h; cases h
  | some ds =>
    rw [e] at h
    obtain ⟨h1, h2⟩ := Bool.and_eq_true_iff.mp h
    obtain ⟨ns, rfl, hn⟩ := ints_of fun x hx => List.all_eq_true.mp h2 x hx
    exact ⟨ns, rfl, by have := of_decide_eq_true h1; rw [List.length_map] at this; exact this, hn⟩
theorem all_step {m : Int} {ds : List D} {k : Nat} (h : ∀ x ∈ ds.take k, isK m x = true) (hk : ds.length ≤ k) : ds.all (isK m) = true := by
  rw [List.take_of_length_le hk] at h
  exact List.all_eq_true.mpr h
theorem rt_if {r : RT} {ρ : En} {A F : En → Prop} (J : Prop) (h : ∀ (A' F' : En → Prop), (J → A' ρ) → (¬ J → F' ρ) → r ρ fun b ρ2 => if b = true then A' ρ2 else F' ρ2) (ha : J → A ρ) (hf : ¬ J → F ρ) : r ρ fun b ρ2 => if b = true then A ρ2 else F ρ2 := h A F ha hf
theorem rif {r : RT} {ra rb : RS} {e : DEnds} {ρ : En} (J : Prop) (h : ∀ (A' F' : En → Prop), (J → A' ρ) → (¬ J → F' ρ) → r ρ fun b ρ2 => if b = true then A' ρ2 else F' ρ2) (ha : J → ra e ρ) (hf : ¬ J → rb e ρ) : rIf r ra rb e ρ := h (fun ρ => ra e ρ) (fun ρ => rb e ρ) ha hf
theorem sifx {r : RT} {ra rc : RS} {e : DEnds} {ρ : En} (J : Prop) (h : ∀ (A' F' : En → Prop), (J → A' ρ) → (¬ J → F' ρ) → r ρ fun b ρ2 => if b = true then A' ρ2 else F' ρ2) (ha : J → ra { e with nx := rc e } ρ) (hf : ¬ J → rc e ρ) : rSeq (rIf r ra rNx) rc e ρ := h (fun ρ => ra { e with nx := rc e } ρ) (fun ρ => rNx { e with nx := rc e } ρ) ha hf
theorem sAsg {i : Nat} {r : RE} {rc : RS} {e : DEnds} {ρ : En} {d : D} (h : ∀ Q : W → En → Prop, Q (.d d) ρ → r ρ Q) (k : rc e (ρ.set i (.v d))) : rSeq (rAsg i r) rc e ρ := h _ k
theorem rowOf_el {d : D} {ds : List D} (h : rowOf d = some ds) : d = .tup ds ∨ d = .lst ds := by
  cases d with
  | tup es => exact .inl (congrArg D.tup (Option.some.inj h))
  | lst es => exact .inr (congrArg D.lst (Option.some.inj h))
  | _ => cases h
theorem len2 {α : Type} {xs : List α} (h : xs.length = 2) : ∃ a b, xs = [a, b] := by
  match xs, h with
  | [a, b], _ => exact ⟨a, b, rfl⟩
def dTup (ns : List Int) : D := .tup (ns.map D.int)
def toIs (d : D) : List Int := ((rowOf d).getD []).map toI
theorem toIs_of {d : D} {ns : List Int} (h : rowOf d = some (ns.map D.int)) : toIs d = ns := by
  unfold toIs
  rw [h]
  exact toI_map ns
theorem len_repL {α : Type} (n : Nat) (l : List α) : (List.replicate n l).flatten.length = n * l.length := by
  induction n with
  | zero => simp
  | succ n ih => rw [List.replicate_succ, List.flatten_cons, List.length_append, ih, Nat.succ_mul]; omega
theorem rep_ints (n : Nat) (ns : List Int) : (List.replicate n (ns.map D.int)).flatten = ((List.replicate n ns).flatten).map D.int := by
  rw [List.map_flatten, List.map_replicate]
theorem pdAll_ints : ∀ ns : List Int, pdAll (ns.map D.int) = some (ns.map PyData.int)
  | [] => by rw [List.map_nil, pdAll]; rfl
  | n :: ns => by rw [List.map_cons, pdAll, pd, pdAll_ints ns]; rfl
theorem lay_ints : ∀ ns : List Int, PyData.canLayAll0 (ns.map PyData.int) = true
  | [] => rfl
  | n :: ns => by rw [List.map_cons, PyData.canLayAll0, lay_ints ns]; rfl
theorem depth_ints : ∀ ns : List Int, PyData.depthAll (ns.map PyData.int) = 0
  | [] => by rw [List.map_nil, PyData.depthAll]
  | n :: ns => by rw [List.map_cons, PyData.depthAll, depth_ints ns, PyData.depth]; rfl
theorem shaped_tints (ns : List Int) : SeqAt.shaped (.tuple (ns.map PyData.int)) = true := by
  have dq : PyData.depth (.tuple (ns.map PyData.int)) ≤ 64 := by rw [PyData.depth, depth_ints]; decide
  have c2 : PyData.canLay0 (.tuple (ns.map PyData.int)) = true := lay_ints ns
  unfold SeqAt.shaped
  rw [decide_eq_true dq, c2]
  rfl
theorem eqv_tints : ∀ as bs : List Int, PyData.eqv (.tuple (as.map PyData.int)) (.tuple (bs.map PyData.int)) = decide (as = bs)
  | [], [] => by simp; rfl
  | [], b :: bs => by simp; rfl
  | a :: as, [] => by simp; rfl
  | a :: as, b :: bs => by
    have ih := eqv_tints as bs
    show (decide (a = b) && PyData.eqv (.tuple (as.map PyData.int)) (.tuple (bs.map PyData.int))) = _
    rw [ih]
    by_cases h : a = b
    · by_cases h2 : as = bs
      · simp [h, h2]
      · simp [h, h2]
    · simp [h]
theorem pd_tints (ns : List Int) : pd (dTup ns) = some (.tuple (ns.map PyData.int)) := by
  show pd (.tup (ns.map D.int)) = _
  rw [pd, pdAll_ints]
  rfl
theorem eqT {ρ : En} {as bs : List Int} {P : D → Prop} (h : P (.bl (decide (as = bs)))) : oEqD id (.d (dTup as)) (.d (dTup bs)) ρ P := by
  refine ⟨.tuple (as.map PyData.int), .tuple (bs.map PyData.int), pd_tints as, pd_tints bs, shaped_tints as, shaped_tints bs, ?_⟩
  rw [eqv_tints]
  exact h
theorem at_ints' {ns : List Int} {k : Nat} (h : k < ns.length) : atI (ns.map D.int) (k : Int) = some (.int (ns.getD k 0)) := by
  have hx : ns[k]? = some (ns.getD k 0) := by rw [List.getD_eq_getElem?_getD, List.getElem?_eq_getElem h]; rfl
  exact at_ints hx
theorem atI_end {α : Type} (A : List α) (y : α) : atI (A ++ [y]) (-1) = some y := by
  unfold atI
  have e : ixN (A ++ [y]).length (-1) = some A.length := by
    unfold ixN
    rw [if_neg (by omega)]
    rw [List.length_append, List.length_singleton]
    first
    | rw [if_pos (by omega)]; congr 1; omega
    | simp; omega
  rw [e]
  show (A ++ [y])[A.length]? = some y
  rw [List.getElem?_append_right (Nat.le_refl _), Nat.sub_self]
  rfl
theorem ixN_end {α : Type} (A : List α) (y : α) : ixN (A ++ [y]).length (-1) = some A.length := by
  unfold ixN
  rw [if_neg (by omega)]
  rw [List.length_append, List.length_singleton]
  first
  | rw [if_pos (by omega)]; congr 1; omega
  | simp; omega
theorem eq_step {ra rb : RE} {ρ : En} {as bs : List Int} {Q : Bool → En → Prop} (ha : ∀ Q, Q (.d (dTup as)) ρ → ra ρ Q) (hb : ∀ Q, Q (.d (dTup bs)) ρ → rb ρ Q) (h : Q (decide (as = bs)) ρ) : rTB (r2 ra rb (oEqD id)) ρ Q := ha _ (hb _ (eqT h))
theorem shaped_lints (ns : List Int) : SeqAt.shaped (.list (ns.map PyData.int)) = true := by
  have dq : PyData.depth (.list (ns.map PyData.int)) ≤ 64 := by rw [PyData.depth, depth_ints]; decide
  have c2 : PyData.canLay0 (.list (ns.map PyData.int)) = true := lay_ints ns
  unfold SeqAt.shaped
  rw [decide_eq_true dq, c2]
  rfl
theorem eqv_lints : ∀ as bs : List Int, PyData.eqv (.list (as.map PyData.int)) (.list (bs.map PyData.int)) = decide (as = bs) := fun as bs => eqv_tints as bs
theorem pd_lints (ns : List Int) : pd (.lst (ns.map D.int)) = some (.list (ns.map PyData.int)) := by
  rw [pd, pdAll_ints]
  rfl
theorem eqL {ρ : En} {as bs : List Int} {P : D → Prop} (h : P (.bl (decide (as = bs)))) : oEqD id (.d (.lst (as.map D.int))) (.d (.lst (bs.map D.int))) ρ P := by
  refine ⟨.list (as.map PyData.int), .list (bs.map PyData.int), pd_lints as, pd_lints bs, shaped_lints as, shaped_lints bs, ?_⟩
  rw [eqv_lints]
  exact h
theorem eqL_step {ra rb : RE} {ρ : En} {as bs : List Int} {Q : Bool → En → Prop} (ha : ∀ Q, Q (.d (.lst (as.map D.int))) ρ → ra ρ Q) (hb : ∀ Q, Q (.d (.lst (bs.map D.int))) ρ → rb ρ Q) (h : Q (decide (as = bs)) ρ) : rTB (r2 ra rb (oEqD id)) ρ Q := ha _ (hb _ (eqL h))
theorem shpL_ints (ns : List Int) (w : Int) : shpL (ns.map D.int) w = ns.map D.int := by
  rw [shpL_map, List.map_map]
  rfl
theorem shp_row (ns : List Int) (w : Int) : shp (.lst (ns.map D.int)) w = .lst (ns.map D.int) ∨ shp (.lst (ns.map D.int)) w = .tup (ns.map D.int) := by
  rw [shp, shpL_ints]
  by_cases h : w % 2 = 0
  · exact .inl (if_pos h)
  · exact .inr (if_neg h)
theorem depL_ints : ∀ ns : List Int, depL (ns.map D.int) = 0
  | [] => rfl
  | n :: ns => by rw [List.map_cons, depL, depL_ints ns]; rfl
theorem shOk_ints {ns : List Int} (h : ns.length ≤ 16777216) : shOk (.lst (ns.map D.int)) = true ∧ shOk (.tup (ns.map D.int)) = true := by
  have e : shOkL (ns.map D.int) = true := shOkL_mem.mpr fun d hd => by
    obtain ⟨n, _, rfl⟩ := List.mem_map.mp hd
    rfl
  rw [shOk, shOk, e, List.length_map, decide_eq_true h]
  exact ⟨rfl, rfl⟩
theorem wt_row {ns : List Int} (h : ns.length ≤ 1000) : (sameOk (.lst (ns.map D.int)) = true ∧ wt (.lst (ns.map D.int)) ≤ 1000000) ∧ sameOk (.tup (ns.map D.int)) = true ∧ wt (.tup (ns.map D.int)) ≤ 1000000 := by
  refine ⟨⟨sameOk_ints ns, ?_⟩, sameOk_ints ns, ?_⟩ <;> rw [wt, wt_ints] <;> omega
theorem ints_inj {a b : List Int} (h : a.map D.int = b.map D.int) : a = b := by
  have := congrArg (List.map toI) h
  rw [toI_map, toI_map] at this
  exact this
theorem ty_row {d : D} {ds : List D} (h : rowOf d = some ds) : (ty7 d).isSome = true := by
  rcases rowOf_el h with rfl | rfl <;> rfl
theorem many_pre {n : Int} : sp_refused.pre ("TooMany", .int n) := ⟨rfl, by show wt (.int n) ≤ 1000000; rw [wt]; decide, by show ("TooMany" : Str) ≠ "Gains"; decide, by show SeqAt.shaped (.list [.str "TooMany"]) = true; decide +kernel⟩
theorem rowOf_shp (ds : List D) (w : Int) : rowOf (shp (.lst ds) w) = some (ds.map fun d => shp d (w / 2)) ∧ rowOf (shp (.tup ds) w) = some (ds.map fun d => shp d (w / 2)) := by
  rw [shp, shp, shpL_map]
  by_cases h : w % 2 = 0
  · rw [if_pos h]; exact ⟨rfl, rfl⟩
  · rw [if_neg h]; exact ⟨rfl, rfl⟩
theorem joinA {r1 r2 : RS} {e : DEnds} {ρ : En} (J : En → Prop) (k : ∀ R : En → Prop, (∀ ρ', J ρ' → R ρ') → r1 { e with nx := R } ρ) (h : ∀ ρ', J ρ' → r2 e ρ') : rSeq r1 r2 e ρ := k _ h
theorem flat_repD (n : Nat) (d : D) : (List.replicate n [d]).flatten = List.replicate n d := by
  induction n with
  | zero => rfl
  | succ n ih => rw [List.replicate_succ, List.flatten_cons, ih, List.replicate_succ]; rfl
theorem ref_pre {nm : Str} (h : nm ∈ cls13) : sp_refused.pre (nm, .non) := by
  have h2 : ∀ nm ∈ cls13, decide (nm = ("Gains" : Str)) = false ∧ SeqAt.shaped (.list [.str nm]) = true := by decide +kernel
  exact ⟨rfl, by show wt .non ≤ 1000000; rw [wt]; decide, of_decide_eq_false (h2 nm h).1, (h2 nm h).2⟩
theorem st_ne {s ds : List D} {m : Int} (hs : StOk s) (h : ∀ x ∈ ds, isK m x = true) : s ≠ ds := by
  rintro rfl
  obtain ⟨cells, _, _, _, _, rfl, _⟩ := hs
  have := h (.lst cells) (by simp)
  cases this
theorem rowIn_no {d : D} (h : rowOf d = none) (t : (ty7 d).isSome = true) : RowIn d := ⟨t, fun ds e => by rw [h] at e; cases e⟩
theorem rowIn_l {ds : List D} (h : ∀ x ∈ ds, (ty7 x).isSome = true) : RowIn (.lst ds) ∧ RowIn (.tup ds) := ⟨⟨rfl, fun es e x hx => by cases e; exact h x hx⟩, ⟨rfl, fun es e x hx => by cases e; exact h x hx⟩⟩
theorem rowIn_1 {a : D} (h : (ty7 a).isSome = true) : RowIn (.lst [a]) := (rowIn_l fun x hx => by rw [List.mem_singleton.mp hx]; exact h).1
theorem cutG {α : Type} (f : α → D) (l : List α) (a b : Option Int) : ∃ ms : List α, N.cutD (l.map f) a b = ms.map f ∧ ms.length ≤ l.length ∧ ∀ x ∈ ms, x ∈ l := by
  refine ⟨(l.drop (HT.sIx l.length 0 a)).take (HT.sIx l.length l.length b - HT.sIx l.length 0 a), ?_, ?_, fun x hx => List.mem_of_mem_drop (List.mem_of_mem_take hx)⟩
  · unfold N.cutD
    rw [List.length_map, List.map_take, List.map_drop]
  · rw [List.length_take, List.length_drop]
    omega
theorem row_drawn {n : Int} {r : D} (hn : n ≤ 200) (h : sp_row.post (8, n) r) : ∃ ns : List Int, r = .lst (ns.map D.int) ∧ RowV 8 ns := by
  obtain ⟨ds, rfl, hl, hd⟩ := h
  obtain ⟨fs, rfl, hf⟩ := ints_of (m := 8) hd
  have hl : ((fs.map D.int).length : Int) ≤ n := hl
  rw [List.length_map] at hl
  exact ⟨fs, rfl, by omega, hf⟩
theorem rp {n : Int} (h0 : 0 ≤ n) (h : n ≤ 1000) : sp_row.pre (8, n) := ⟨by show (1 : Int) ≤ 8; decide, by show (8 : Int) ≤ 64; decide, h0, h⟩
theorem pick3 {d a b c : D} (h : d ∈ [a, b, c]) : d = a ∨ d = b ∨ d = c := by simpa using h
mutual
theorem shp_same : ∀ (d : D) (w : Int), sameOk (shp d w) = sameOk d
  | .lst ds, w => by
    have := shpL_same ds (w / 2)
    rw [shp]
    by_cases h : w % 2 = 0
    · rw [if_pos h, sameOk, sameOk, this]
    · rw [if_neg h, sameOk, sameOk, this]
  | .tup ds, w => by
    have := shpL_same ds (w / 2)
    rw [shp]
    by_cases h : w % 2 = 0
    · rw [if_pos h, sameOk, sameOk, this]
    · rw [if_neg h, sameOk, sameOk, this]
  | .non, _ => rfl
  | .bl _, _ => rfl
  | .int _, _ => rfl
  | .str _, _ => rfl
  | .dic _, _ => rfl
  | .obj _, _ => rfl
  | .ins _ _ _, _ => rfl
  | .ty _, _ => rfl
theorem shpL_same : ∀ (ds : List D) (w : Int), sameOkL (shpL ds w) = sameOkL ds
  | [], _ => rfl
  | d :: ds, w => by rw [shpL, sameOkL, sameOkL, shp_same d w, shpL_same ds w]
end
mutual
theorem shp_wt : ∀ (d : D) (w : Int), wt (shp d w) = wt d
  | .lst ds, w => by
    have := shpL_wt ds (w / 2)
    rw [shp]
    by_cases h : w % 2 = 0
    · rw [if_pos h, wt, wt, this]
    · rw [if_neg h, wt, wt, this]
  | .tup ds, w => by
    have := shpL_wt ds (w / 2)
    rw [shp]
    by_cases h : w % 2 = 0
    · rw [if_pos h, wt, wt, this]
    · rw [if_neg h, wt, wt, this]
  | .non, _ => rfl
  | .bl _, _ => rfl
  | .int _, _ => rfl
  | .str _, _ => rfl
  | .dic _, _ => rfl
  | .obj _, _ => rfl
  | .ins _ _ _, _ => rfl
  | .ty _, _ => rfl
theorem shpL_wt : ∀ (ds : List D) (w : Int), wtL (shpL ds w) = wtL ds
  | [], _ => rfl
  | d :: ds, w => by rw [shpL, wtL, wtL, shp_wt d w, shpL_wt ds w]
end
theorem at_state {r : RS} {e : DEnds} {ρ : En} (ρ' : En) (h : ρ' = ρ) (k : r e ρ') : r e ρ := h ▸ k
def sp_is_whole : FS := { α := D, args := fun d => [d], pre := fun d => (ty7 d).isSome = true, post := fun d r => r = .bl (isW d) }
def sp_is_list : FS := { α := D, args := fun d => [d], pre := fun d => (ty7 d).isSome = true, post := fun d r => r = .bl (isL d) }
def sp_any_shape : SS := { α := D, args := fun d => [d], pre := fun d => dep d < 4 ∧ shOk d = true, post := fun d r => ∃ w, r = shp d w, s0 := fun _ => StOk, s1 := fun _ => StOk }
theorem mem4' {d a b c e : D} (h : d ∈ [a, b, c, e]) : d = a ∨ d = b ∨ d = c ∨ d = e := by simpa using h
/-! _law_any_shape -/
abbrev s_law_any_shape : Stmt := topS 68
abbrev n_law_any_shape : List Str := ["store", "thing"]
theorem sc_law_any_shape : FnScope n_law_any_shape ["store", "thing"] (defScope s_law_any_shape) := ⟨rfl, rfl, rfl, by decide +kernel, rfl, by decide +kernel, by decide +kernel⟩
theorem ok_law_any_shape (T : Tx K mg) (h_law_shaped : Has P w K mg base "_law_shaped" 4 ["thing", "way"] (spO K (sp_shaped 4))) (h_law_pick : Has P w K mg base "_law_pick" 3 ["store", "things"] (spS K sp_pick)) {f : Addr} {fd : FuncData} (F : Fd K "_law_any_shape" s_law_any_shape [] f fd) : FnOk P w K mg base (L2N.CX P w) 5 f fd ["store", "thing"] (spS K sp_any_shape) := by
  refine fnS_ok F sc_law_any_shape sp_any_shape (fun _ => rfl) (by decide) fun cdv A outer s H E g p ss hr pre hs => ?_
  refine ⟨_, (ds_one (ds_ret (de_callO h_law_shaped hr (da_cons (dv 1) (da_cons (de_callS h_law_pick (hr.mono (by decide : 3 ≤ 4)) (dv 0) (da_cons (de_new (dn_lst (da_cons de_int (da_cons de_int (da_cons de_int (da_cons de_int (da_cons de_int (da_cons de_int (da_cons de_int (da_cons de_int da_nil)))))))))) da_nil)) da_nil))))), ?_⟩
  change D at g
  refine ⟨(false, [.int 0, .int 63, .int 1, .int 2, .int 62, .int 21, .int 42, .int 61]), rfl, hs, ⟨by simp, by decide⟩, fun d s1 hd hs => ?_⟩
  obtain ⟨w, rfl⟩ : ∃ w : Int, d = .int w := by
    have hd : d ∈ [D.int 0, .int 63, .int 1, .int 2, .int 62, .int 21, .int 42, .int 61] := hd
    simp only [List.mem_cons, List.not_mem_nil, or_false] at hd
    rcases hd with h | h | h | h | h | h | h | h <;> exact ⟨_, h⟩
  exact ⟨(g, w), rfl, pre, fun r hr => ⟨⟨w, hr⟩, _, rfl, hs⟩, fun _ _ => trivial⟩
theorem has_law_any_shape (T : Tx K mg) (h_law_shaped : Has P w K mg base "_law_shaped" 4 ["thing", "way"] (spO K (sp_shaped 4))) (h_law_pick : Has P w K mg base "_law_pick" 3 ["store", "things"] (spS K sp_pick)) {f : Addr} {fd : FuncData} (F : Fd K "_law_any_shape" s_law_any_shape [] f fd) (gm : mg "_law_any_shape" = some (.ref f)) : Has P w K mg base "_law_any_shape" 5 ["store", "thing"] (spS K sp_any_shape) := by
  exact has_of F gm (ok_law_any_shape T  h_law_shaped h_law_pick F) fun _ _ _ _ _ _ us hl => match us, hl with | [_, _], _ => rfl
end
end Q
/-! C7 -/
set_option Elab.async false
set_option linter.all false
set_option maxRecDepth 100000
set_option maxHeartbeats 8000000
namespace Q
open PySem PySem.Spec PyProof.Rows L2 N
section
variable {P : Program} {w : World} {K : PySem.W.Frag} {mg : Str → Option Value} {base : Heap}
/-! the names of is_whole -/
/-! is_whole_table -/
abbrev s_is_whole_table : Stmt := topS 22
abbrev n_is_whole_table : List Str := ["value"]
theorem sc_is_whole_table : FnScope n_is_whole_table ["value"] (defScope s_is_whole_table) := ⟨rfl, rfl, rfl, by decide +kernel, rfl, by decide +kernel, by decide +kernel⟩
theorem ok_is_whole_table (T : Tx K mg) {f : Addr} {fd : FuncData} (F : Fd K "is_whole" s_is_whole_table [] f fd) : FnOk P w K mg base (L2N.CX P w) 1 f fd ["value"] (spF K sp_is_whole) := by
  refine fn_ok F sc_is_whole_table sp_is_whole (fun _ => rfl) fun cdv A outer s H E g hr pre hx => ?_
  refine ⟨_, (ds_one (ds_ret (de_and (de_isi T.b_isinstance (da_cons (dv 0) (da_cons (de_ty T.b_int boot_int) da_nil))) (de_one (de_not (de_isi T.b_isinstance (da_cons (dv 0) (da_cons (de_ty T.b_bool bt_bool) da_nil)))))))), ?_⟩
  cases g <;> first | exact rfl | cases pre
theorem has_is_whole_table (T : Tx K mg) {f : Addr} {fd : FuncData} (F : Fd K "is_whole" s_is_whole_table [] f fd) (gm : mg "is_whole_table" = some (.ref f)) : Has P w K mg base "is_whole_table" 1 ["value"] (spF K sp_is_whole) := by
  exact hasY_of F gm (ok_is_whole_table T   F) fun _ _ _ _ _ _ us hl => match us, hl with | [_], _ => rfl
/-! is_whole_rows -/
abbrev s_is_whole_rows : Stmt := topS 43
abbrev n_is_whole_rows : List Str := ["value"]
theorem sc_is_whole_rows : FnScope n_is_whole_rows ["value"] (defScope s_is_whole_rows) := ⟨rfl, rfl, rfl, by decide +kernel, rfl, by decide +kernel, by decide +kernel⟩
theorem ok_is_whole_rows (T : Tx K mg) {f : Addr} {fd : FuncData} (F : Fd K "is_whole" s_is_whole_rows [] f fd) : FnOk P w K mg base (L2N.CX P w) 1 f fd ["value"] (spF K sp_is_whole) := by
  refine fn_ok F sc_is_whole_rows sp_is_whole (fun _ => rfl) fun cdv A outer s H E g hr pre hx => ?_
  refine ⟨_, (ds_one (ds_ret (de_and (de_isi T.b_isinstance (da_cons (dv 0) (da_cons (de_ty T.b_int boot_int) da_nil))) (de_one (de_not (de_isi T.b_isinstance (da_cons (dv 0) (da_cons (de_ty T.b_bool bt_bool) da_nil)))))))), ?_⟩
  cases g <;> first | exact rfl | cases pre
theorem has_is_whole_rows (T : Tx K mg) {f : Addr} {fd : FuncData} (F : Fd K "is_whole" s_is_whole_rows [] f fd) (gm : mg "is_whole_rows" = some (.ref f)) : Has P w K mg base "is_whole_rows" 1 ["value"] (spF K sp_is_whole) := by
  exact hasY_of F gm (ok_is_whole_rows T   F) fun _ _ _ _ _ _ us hl => match us, hl with | [_], _ => rfl
end
end Q
/-! C8 -/
set_option Elab.async false
set_option linter.all false
set_option maxRecDepth 100000
set_option maxHeartbeats 8000000
namespace Q
open PySem PySem.Spec PyProof.Rows L2 N
section
variable {P : Program} {w : World} {K : PySem.W.Frag} {mg : Str → Option Value} {base : Heap}
/-! kinds, lots, numbers of kinds checked -/
theorem inB_isK (m : Int) (d : D) : inB 0 (m - 1) d = isK m d := by
  cases d with
  | int i =>
    show decide (0 ≤ i ∧ i ≤ m - 1) = decide (0 ≤ i ∧ i < m)
    exact decide_eq_decide.mpr ⟨fun h => ⟨h.1, by omega⟩, fun h => ⟨h.1, by omega⟩⟩
  | _ => rfl
def sp_is_between : FS := { α := D × Int × Int, args := fun g => [g.1, .int g.2.1, .int g.2.2], pre := fun g => (ty7 g.1).isSome = true, post := fun g r => r = .bl (inB g.2.1 g.2.2 g.1) }
def sp_is_kindT : FS := { α := Int × D, args := fun g => [.int g.1, g.2], pre := fun g => (ty7 g.2).isSome = true, post := fun g r => r = .bl (isK g.1 g.2) }
/-! is_whole -/
abbrev s_is_whole : Stmt := topS 43
abbrev n_is_whole : List Str := ["value"]
theorem sc_is_whole : FnScope n_is_whole ["value"] (defScope s_is_whole) := ⟨rfl, rfl, rfl, by decide +kernel, rfl, by decide +kernel, by decide +kernel⟩
theorem ok_is_whole (T : Tx K mg) {f : Addr} {fd : FuncData} (F : Fd K "is_whole" s_is_whole [] f fd) : FnOk P w K mg base (L2N.CX P w) 1 f fd ["value"] (spF K sp_is_whole) := by
  refine fn_ok F sc_is_whole sp_is_whole (fun _ => rfl) fun cdv A outer s H E g hr pre hx => ?_
  refine ⟨_, (ds_one (ds_ret (de_and (de_isi T.b_isinstance (da_cons (dv 0) (da_cons (de_ty T.b_int boot_int) da_nil))) (de_one (de_not (de_isi T.b_isinstance (da_cons (dv 0) (da_cons (de_ty T.b_bool bt_bool) da_nil)))))))), ?_⟩
  cases g <;> first | exact rfl | cases pre
theorem has_is_whole (T : Tx K mg) {f : Addr} {fd : FuncData} (F : Fd K "is_whole" s_is_whole [] f fd) (gm : mg "is_whole" = some (.ref f)) : Has P w K mg base "is_whole" 1 ["value"] (spF K sp_is_whole) := by
  exact has_of F gm (ok_is_whole T   F) fun _ _ _ _ _ _ us hl => match us, hl with | [_], _ => rfl
/-! is_listed -/
abbrev s_is_listed : Stmt := topS 24
abbrev n_is_listed : List Str := ["value"]
theorem sc_is_listed : FnScope n_is_listed ["value"] (defScope s_is_listed) := ⟨rfl, rfl, rfl, by decide +kernel, rfl, by decide +kernel, by decide +kernel⟩
theorem ok_is_listed (T : Tx K mg) {f : Addr} {fd : FuncData} (F : Fd K "is_listed" s_is_listed [] f fd) : FnOk P w K mg base (L2N.CX P w) 1 f fd ["value"] (spF K sp_is_list) := by
  refine fn_ok F sc_is_listed sp_is_list (fun _ => rfl) fun cdv A outer s H E g hr pre hx => ?_
  refine ⟨_, (ds_one (ds_ret (de_isi2 T.b_isinstance (da_cons (dv 0) (da_cons (de_tup (da_cons (de_ty T.b_list bt_list) (da_cons (de_ty T.b_tuple bt_tuple) da_nil))) da_nil))))), ?_⟩
  cases g <;> first | exact rfl | cases pre
theorem has_is_listed (T : Tx K mg) {f : Addr} {fd : FuncData} (F : Fd K "is_listed" s_is_listed [] f fd) (gm : mg "is_listed" = some (.ref f)) : Has P w K mg base "is_listed" 1 ["value"] (spF K sp_is_list) := by
  exact has_of F gm (ok_is_listed T   F) fun _ _ _ _ _ _ us hl => match us, hl with | [_], _ => rfl
/-! is_between -/
abbrev s_is_between : Stmt := topS 25
abbrev n_is_between : List Str := ["value", "least", "most"]
theorem sc_is_between : FnScope n_is_between ["value", "least", "most"] (defScope s_is_between) := ⟨rfl, rfl, rfl, by decide +kernel, rfl, by decide +kernel, by decide +kernel⟩
theorem ok_is_between (T : Tx K mg) (h_is_whole_table : Has P w K mg base "is_whole_table" 1 ["value"] (spF K sp_is_whole)) {f : Addr} {fd : FuncData} (F : Fd K "is_between" s_is_between [] f fd) : FnOk P w K mg base (L2N.CX P w) 2 f fd ["value", "least", "most"] (spF K sp_is_between) := by
  refine fn_ok F sc_is_between sp_is_between (fun _ => rfl) fun cdv A outer s H E g hr pre hx => ?_
  refine ⟨_, (ds_one (ds_ret (de_and (de_call h_is_whole_table hr (da_cons (dv 0) da_nil)) (de_one (de_chain op_le op_le (dv 1) (dv 0) (dv 2)))))), ?_⟩
  obtain ⟨d, lo, hi⟩ := g
  change (ty7 d).isSome = true at pre
  refine ⟨d, rfl, pre, fun r hr => ?_, fun _ h => h.elim⟩
  have hr : r = .bl (isW d) := hr
  subst hr
  cases d with
  | int i =>
    show if decide (lo ≤ i) = true then _ else _
    refine ite2 (fun h => ?_) (fun h => ?_)
    · have h := of_decide_eq_true h
      show D.bl (decide (i ≤ hi)) = D.bl (decide (lo ≤ i ∧ i ≤ hi))
      simp [h]
    · have h : ¬ lo ≤ i := fun z => h (decide_eq_true z)
      show D.bl false = D.bl (decide (lo ≤ i ∧ i ≤ hi))
      simp [h]
  | _ => first | exact rfl | cases pre
theorem has_is_between (T : Tx K mg) (h_is_whole_table : Has P w K mg base "is_whole_table" 1 ["value"] (spF K sp_is_whole)) {f : Addr} {fd : FuncData} (F : Fd K "is_between" s_is_between [] f fd) (gm : mg "is_between" = some (.ref f)) : Has P w K mg base "is_between" 2 ["value", "least", "most"] (spF K sp_is_between) := by
  exact has_of F gm (ok_is_between T  h_is_whole_table F) fun _ _ _ _ _ _ us hl => match us, hl with | [_, _, _], _ => rfl
/-! is_kind -/
abbrev s_is_kind : Stmt := topS 27
abbrev n_is_kind : List Str := ["many", "value"]
theorem sc_is_kind : FnScope n_is_kind ["many", "value"] (defScope s_is_kind) := ⟨rfl, rfl, rfl, by decide +kernel, rfl, by decide +kernel, by decide +kernel⟩
theorem ok_is_kind (T : Tx K mg) (h_is_between : Has P w K mg base "is_between" 2 ["value", "least", "most"] (spF K sp_is_between)) {f : Addr} {fd : FuncData} (F : Fd K "is_kind" s_is_kind [] f fd) : FnOk P w K mg base (L2N.CX P w) 3 f fd ["many", "value"] (spF K sp_is_kindT) := by
  refine fn_ok F sc_is_kind sp_is_kindT (fun _ => rfl) fun cdv A outer s H E g hr pre hx => ?_
  refine ⟨_, (ds_one (ds_ret (de_call h_is_between hr (da_cons (dv 1) (da_cons de_int (da_cons (de_sub (dv 0) de_int) da_nil)))))), ?_⟩
  obtain ⟨m, d⟩ := g
  exact ⟨(d, 0, m - 1), rfl, pre, fun r hr => Eq.trans (show r = _ from hr) (congrArg D.bl (inB_isK m d)), fun _ h => h.elim⟩
theorem has_is_kind (T : Tx K mg) (h_is_between : Has P w K mg base "is_between" 2 ["value", "least", "most"] (spF K sp_is_between)) {f : Addr} {fd : FuncData} (F : Fd K "is_kind" s_is_kind [] f fd) (gm : mg "is_kind" = some (.ref f)) : Has P w K mg base "is_kind" 3 ["many", "value"] (spF K sp_is_kindT) := by
  exact has_of F gm (ok_is_kind T  h_is_between F) fun _ _ _ _ _ _ us hl => match us, hl with | [_, _], _ => rfl
def lotGo (m : Int) : Int → List D → Bool
  | _, [] => true
  | b, .int i :: xs => decide (0 ≤ i ∧ i < m ∧ b < i) && lotGo m i xs
  | _, _ :: _ => false
def isLotD (m : Int) (d : D) : Bool := match rowOf d with
  | some ds => !ds.isEmpty && lotGo m (-1) ds
  | none => false
theorem lotGo_no {m b : Int} {x : D} {xs : List D} (h : isK m x = false) : lotGo m b (x :: xs) = false := by
  cases x with
  | int i =>
    have h : ¬ (0 ≤ i ∧ i < m) := of_decide_eq_false h
    show (decide (0 ≤ i ∧ i < m ∧ b < i) && lotGo m i xs) = false
    rw [decide_eq_false (fun z => h ⟨z.1, z.2.1⟩), Bool.false_and]
  | _ => rfl
theorem lotGo_yes {m b i : Int} {xs : List D} (h : isK m (.int i) = true) : lotGo m b (.int i :: xs) = (decide (b < i) && lotGo m i xs) := by
  have h : 0 ≤ i ∧ i < m := of_decide_eq_true h
  show (decide (0 ≤ i ∧ i < m ∧ b < i) && lotGo m i xs) = _
  congr 1
  exact decide_eq_decide.mpr ⟨fun z => z.2.2, fun z => ⟨h.1, h.2, z⟩⟩
theorem lotGo_el {m : Int} : ∀ {xs : List D} {b : Int}, lotGo m b xs = true → ∃ ns : List Int, xs = ns.map D.int ∧ ns.Pairwise (· < ·) ∧ ∀ n ∈ ns, 0 ≤ n ∧ n < m ∧ b < n
  | [], b, _ => ⟨[], rfl, List.Pairwise.nil, fun n hn => by simp at hn⟩
  | .int i :: xs, b, h => by
    obtain ⟨h1, h2⟩ := Bool.and_eq_true_iff.mp (show (decide (0 ≤ i ∧ i < m ∧ b < i) && lotGo m i xs) = true from h)
    have h1 := of_decide_eq_true h1
    obtain ⟨ns, rfl, hp, hn⟩ := lotGo_el h2
    refine ⟨i :: ns, rfl, List.pairwise_cons.mpr ⟨fun n hm => (hn n hm).2.2, hp⟩, fun n hm => ?_⟩
    rcases List.mem_cons.mp hm with rfl | hm
    · exact h1
    · have := hn n hm
      exact ⟨this.1, this.2.1, by omega⟩
  | .non :: _, _, h => by cases h
  | .bl _ :: _, _, h => by cases h
  | .str _ :: _, _, h => by cases h
  | .tup _ :: _, _, h => by cases h
  | .lst _ :: _, _, h => by cases h
  | .dic _ :: _, _, h => by cases h
  | .obj _ :: _, _, h => by cases h
  | .ins _ _ _ :: _, _, h => by cases h
  | .ty _ :: _, _, h => by cases h
theorem lotGo_of {m : Int} : ∀ {ns : List Int} {b : Int}, ns.Pairwise (· < ·) → (∀ n ∈ ns, 0 ≤ n ∧ n < m ∧ b < n) → lotGo m b (ns.map D.int) = true
  | [], _, _, _ => rfl
  | i :: ns, b, hp, hn => by
    obtain ⟨p1, p2⟩ := List.pairwise_cons.mp hp
    show (decide (0 ≤ i ∧ i < m ∧ b < i) && lotGo m i (ns.map D.int)) = true
    rw [decide_eq_true (hn i List.mem_cons_self), Bool.true_and]
    exact lotGo_of p2 fun n h => by
      have := hn n (List.mem_cons_of_mem _ h)
      exact ⟨this.1, this.2.1, p1 n h⟩
theorem isLot_el {m : Int} {d : D} (h : isLotD m d = true) : ∃ ns : List Int, rowOf d = some (ns.map D.int) ∧ LotOk m ns := by
  unfold isLotD at h
  cases e : rowOf d with
  | none => rw [e] at h; cases h
  | some ds =>
    rw [e] at h
    obtain ⟨h1, h2⟩ := Bool.and_eq_true_iff.mp h
    obtain ⟨ns, rfl, hp, hn⟩ := lotGo_el h2
    exact ⟨ns, rfl, ⟨fun z => (by rw [z] at h1; cases h1), hp, fun n hm => ⟨(hn n hm).1, (hn n hm).2.1⟩⟩⟩
theorem isLot_of {m : Int} {d : D} {ns : List Int} (e : rowOf d = some (ns.map D.int)) (h : LotOk m ns) : isLotD m d = true := by
  unfold isLotD
  rw [e]
  have h1 : (ns.map D.int).isEmpty = false := by
    cases ns with
    | nil => exact absurd rfl h.1
    | cons => rfl
  show (!(ns.map D.int).isEmpty && lotGo m (-1) (ns.map D.int)) = true
  rw [h1, lotGo_of h.2.1 fun n hn => ⟨(h.2.2 n hn).1, (h.2.2 n hn).2, by have := (h.2.2 n hn).1; omega⟩]
  rfl
theorem isLot_seq {m : Int} (b : Bool) (ds : List D) : isLotD m (seqD b ds) = (!ds.isEmpty && lotGo m (-1) ds) := by cases b <;> rfl
def sp_is_lot : FS := { α := Int × D, args := fun g => [.int g.1, g.2], pre := fun g => RowIn g.2, post := fun g r => r = .bl (isLotD g.1 g.2) }
/-! is_lot -/
abbrev s_is_lot : Stmt := topS 29
abbrev n_is_lot : List Str := ["many", "value", "before", "kind"]
theorem sc_is_lot : FnScope n_is_lot ["many", "value"] (defScope s_is_lot) := ⟨rfl, rfl, rfl, by decide +kernel, rfl, by decide +kernel, by decide +kernel⟩
theorem ok_is_lot (T : Tx K mg) (h_is_listed : Has P w K mg base "is_listed" 1 ["value"] (spF K sp_is_list)) (h_is_kind : Has P w K mg base "is_kind" 3 ["many", "value"] (spF K sp_is_kindT)) {f : Addr} {fd : FuncData} (F : Fd K "is_lot" s_is_lot [] f fd) : FnOk P w K mg base (L2N.CX P w) 4 f fd ["many", "value"] (spF K sp_is_lot) := by
  refine fn_ok F sc_is_lot sp_is_lot (fun _ => rfl) fun cdv A outer s H E g hr pre hx => ?_
  refine ⟨_, (ds_cons (ds_if ((dw_or (dt_not (dt_val (de_call h_is_listed (hr.mono (by decide : 1 ≤ 3)) (da_cons (dv 1) da_nil)))) (dw_or1 (dt_eq (de_len T.b_len (da_cons (dv 1) da_nil)) de_int)))).dt
      (ds_one (ds_ret de_bl))
      ds_nil)
      (ds_cons (ds_set (i := 2) sc_is_lot.nd (de_neg de_int))
      (ds_cons (ds_for (passes_of rfl) (di_seq (dv 1)) (dg 3 sc_is_lot.nd)
      (ds_cons (ds_if ((dw_or (dt_not (dt_val (de_call h_is_kind hr (da_cons (dv 0) (da_cons (dv 3) da_nil))))) (dw_or1 (dt_le (dv 3) (dv 2))))).dt
      (ds_one (ds_ret de_bl))
      ds_nil)
      (ds_one (ds_set (i := 2) sc_is_lot.nd (dv 3)))))
      (ds_one (ds_ret de_bl))))), ?_⟩
  obtain ⟨m, d⟩ := g
  obtain ⟨p1, p2⟩ := pre
  change (ty7 d).isSome = true at p1
  refine ⟨d, rfl, p1, fun r hr => ?_, fun _ h => h.elim⟩
  have hr : r = .bl (isL d) := hr
  subst hr
  cases er : rowOf d with
  | none =>
    have e : isLotD m d = false := by unfold isLotD; rw [er]
    cases d with
    | tup ds => cases er
    | lst ds => cases er
    | _ => first | exact congrArg D.bl e.symm | cases p1
  | some ds =>
    have p3 : ∀ x ∈ ds, (ty7 x).isSome = true := p2 ds er
    clear p2
    have ed : ∃ b, d = seqD b ds := by
      rcases rowOf_el er with rfl | rfl
      · exact ⟨true, rfl⟩
      · exact ⟨false, rfl⟩
    clear er
    obtain ⟨b, rfl⟩ := ed
    have el := isLot_seq (m := m) b ds
    have main : (decide (((ds.length : Nat) : Int) = 0) = true → isLotD m (seqD b ds) = false) ∧ (¬ decide (((ds.length : Nat) : Int) = 0) = true → isLotD m (seqD b ds) = lotGo m (-1) ds) := by
      rw [el]
      refine ⟨fun h => ?_, fun h => ?_⟩
      · have := of_decide_eq_true h
        rw [List.length_eq_zero_iff.mp (by omega : ds.length = 0)]
        rfl
      · cases ds with
        | nil => exact absurd rfl h
        | cons => exact Bool.true_and _
    obtain ⟨m1, m2⟩ := main
    cases b <;> (
      show if decide (((ds.length : Nat) : Int) = 0) = true then _ else _
      refine ite2 (fun h => congrArg D.bl (m1 h).symm) (fun h => ?_)
      have m3 := m2 h
      try dsimp only [rNx]
      refine sAsg (d := .int (-1)) (fun Q h => h) ?_
      refine ⟨fun k ρ => ∃ (b : Int) (s3 : Slot), ρ = [.v (.int m), .v _, .v (.int b), s3] ∧ lotGo m (-1) ds = lotGo m b (ds.drop k), ⟨-1, _, rfl, rfl⟩, fun _ _ _ _ => trivial, ?_, ?_⟩
      · rintro k x ρ hk hx ⟨b, s3, rfl, hg⟩
        have hx : ds[k]? = some x := hx
        have hm := List.mem_of_getElem? hx
        have ex : ds.drop k = x :: ds.drop (k + 1) := by
          obtain ⟨h1, h2⟩ := List.getElem?_eq_some_iff.mp hx
          rw [← h2]
          exact List.drop_eq_getElem_cons h1
        rw [ex] at hg
        refine ⟨(m, x), rfl, p3 x hm, fun r hr => ?_, fun _ h => h.elim⟩
        have hr : r = .bl (isK m x) := hr
        subst hr
        show if (!isK m x) = true then _ else _
        refine ite2 (fun h2 => ?_) (fun h2 => ?_)
        · have h2 : isK m x = false := by simpa using h2
          exact congrArg D.bl ((m3.trans (hg.trans (lotGo_no h2))).symm)
        have h2 : isK m x = true := by simpa using h2
        obtain ⟨i, rfl, i0, i1⟩ := isK_el h2
        rw [lotGo_yes h2] at hg
        show if decide (i ≤ b) = true then _ else _
        refine ite2 (fun h3 => ?_) (fun h3 => ?_)
        · have h3 := of_decide_eq_true h3
          rw [decide_eq_false (by omega), Bool.false_and] at hg
          exact congrArg D.bl ((m3.trans hg).symm)
        · have h3 : ¬ i ≤ b := fun z => h3 (decide_eq_true z)
          rw [decide_eq_true (by omega), Bool.true_and] at hg
          exact ⟨_, _, rfl, hg⟩
      · rintro ρ ⟨b, s3, rfl, hg⟩
        have hg : lotGo m (-1) ds = lotGo m b (ds.drop ds.length) := hg
        rw [List.drop_length] at hg
        exact congrArg D.bl ((m3.trans hg).symm))
theorem has_is_lot (T : Tx K mg) (h_is_listed : Has P w K mg base "is_listed" 1 ["value"] (spF K sp_is_list)) (h_is_kind : Has P w K mg base "is_kind" 3 ["many", "value"] (spF K sp_is_kindT)) {f : Addr} {fd : FuncData} (F : Fd K "is_lot" s_is_lot [] f fd) (gm : mg "is_lot" = some (.ref f)) : Has P w K mg base "is_lot" 4 ["many", "value"] (spF K sp_is_lot) := by
  exact has_of F gm (ok_is_lot T  h_is_listed h_is_kind F) fun _ _ _ _ _ _ us hl => match us, hl with | [_, _], _ => rfl
def sp_check_lot (K : PySem.W.Frag) : FS := { α := Int × D, args := fun g => [.int g.1, g.2], pre := fun g => RowIn g.2, post := fun g r => isLotD g.1 g.2 = true ∧ r = .non, exc := fun g x => isLotD g.1 g.2 = false ∧ x = exBad K "BadLot" }
/-! check_lot -/
abbrev s_check_lot : Stmt := topS 31
abbrev n_check_lot : List Str := ["many", "lot"]
theorem sc_check_lot : FnScope n_check_lot ["many", "lot"] (defScope s_check_lot) := ⟨rfl, rfl, rfl, by decide +kernel, rfl, by decide +kernel, by decide +kernel⟩
theorem ok_check_lot (T : Tx K mg) (h_is_lot : Has P w K mg base "is_lot" 4 ["many", "value"] (spF K sp_is_lot)) {f : Addr} {fd : FuncData} (F : Fd K "check_lot" s_check_lot [] f fd) : FnOk P w K mg base (L2N.CX P w) 5 f fd ["many", "lot"] (spF K (sp_check_lot K)) := by
  refine fn_ok F sc_check_lot (sp_check_lot K) (fun _ => rfl) fun cdv A outer s H E g hr pre hx => ?_
  refine ⟨_, (ds_one (ds_if (dt_not (dt_val (de_call h_is_lot hr (da_cons (dv 0) (da_cons (dv 1) da_nil)))))
      (ds_one (ds_raise (L2N.takes_of rfl rfl rfl rfl) hx PySem.F.excBase_ValueError T.x_BadLot.1 T.c_BadLot T.x_BadLot.2.1 (raises_own T.x_BadLot.2.2.1 T.x_BadLot.2.2.2)))
      ds_nil)), ?_⟩
  obtain ⟨m, d⟩ := g
  refine ⟨(m, d), rfl, pre, fun r hr => ?_, fun _ h => h.elim⟩
  have hr : r = .bl (isLotD m d) := hr
  subst hr
  show if (!isLotD m d) = true then _ else _
  exact ite2 (fun h => ⟨by simpa using h, rfl⟩) (fun h => ⟨by simpa using h, rfl⟩)
theorem has_check_lot (T : Tx K mg) (h_is_lot : Has P w K mg base "is_lot" 4 ["many", "value"] (spF K sp_is_lot)) {f : Addr} {fd : FuncData} (F : Fd K "check_lot" s_check_lot [] f fd) (gm : mg "check_lot" = some (.ref f)) : Has P w K mg base "check_lot" 5 ["many", "lot"] (spF K (sp_check_lot K)) := by
  exact has_of F gm (ok_check_lot T  h_is_lot F) fun _ _ _ _ _ _ us hl => match us, hl with | [_, _], _ => rfl
def sp_check_many (K : PySem.W.Frag) : FS := { α := D, args := fun d => [d], pre := fun d => (ty7 d).isSome = true, post := fun d r => inB 1 8 d = true ∧ r = .non, exc := fun d x => inB 1 8 d = false ∧ x = exBad K "BadNumber" }
/-! check_many -/
abbrev s_check_many : Stmt := topS 37
abbrev n_check_many : List Str := ["many"]
theorem sc_check_many : FnScope n_check_many ["many"] (defScope s_check_many) := ⟨rfl, rfl, rfl, by decide +kernel, rfl, by decide +kernel, by decide +kernel⟩
theorem ok_check_many (T : Tx K mg) (h_is_between : Has P w K mg base "is_between" 2 ["value", "least", "most"] (spF K sp_is_between)) {f : Addr} {fd : FuncData} (F : Fd K "check_many" s_check_many [] f fd) : FnOk P w K mg base (L2N.CX P w) 3 f fd ["many"] (spF K (sp_check_many K)) := by
  refine fn_ok F sc_check_many (sp_check_many K) (fun _ => rfl) fun cdv A outer s H E g hr pre hx => ?_
  refine ⟨_, (ds_one (ds_if (dt_not (dt_val (de_call h_is_between hr (da_cons (dv 0) (da_cons de_int (da_cons (de_globI (by rfl) T.g_KINDS_MOST) da_nil))))))
      (ds_one (ds_raise (L2N.takes_of rfl rfl rfl rfl) hx PySem.F.excBase_ValueError T.x_BadNumber.1 T.c_BadNumber T.x_BadNumber.2.1 (raises_own T.x_BadNumber.2.2.1 T.x_BadNumber.2.2.2)))
      ds_nil)), ?_⟩
  change D at g
  refine ⟨(g, 1, 8), rfl, pre, fun r hr => ?_, fun _ h => h.elim⟩
  have hr : r = .bl (inB 1 8 g) := hr
  subst hr
  show if (!inB 1 8 g) = true then _ else _
  exact ite2 (fun h => ⟨by simpa using h, rfl⟩) (fun h => ⟨by simpa using h, rfl⟩)
theorem has_check_many (T : Tx K mg) (h_is_between : Has P w K mg base "is_between" 2 ["value", "least", "most"] (spF K sp_is_between)) {f : Addr} {fd : FuncData} (F : Fd K "check_many" s_check_many [] f fd) (gm : mg "check_many" = some (.ref f)) : Has P w K mg base "check_many" 3 ["many"] (spF K (sp_check_many K)) := by
  exact has_of F gm (ok_check_many T  h_is_between F) fun _ _ _ _ _ _ us hl => match us, hl with | [_], _ => rfl
def isBatch (d : D) : Bool := match rowOf d with
  | some ds => decide (1 ≤ ds.length ∧ ds.length ≤ 8) && ds.all (inB 0 1000000000)
  | none => false
def sp_check_own_batch (K : PySem.W.Frag) : FS := { α := D, args := fun d => [d], pre := fun d => RowIn d, post := fun d r => isBatch d = true ∧ r = .non, exc := fun d x => isBatch d = false ∧ x = exBad K "BadBatch" }
theorem bls_take {f : D → Bool} {ds : List D} {k : Nat} {x : D} (h : ds[k]? = some x) : ((ds.take (k + 1)).map f) = (ds.take k).map f ++ [f x] := by
  rw [List.take_add_one, h, List.map_append]
  rfl
end
end Q
/-! C9 -/
set_option Elab.async false
set_option linter.all false
set_option maxRecDepth 100000
set_option maxHeartbeats 8000000
namespace Q
open PySem PySem.Spec PyProof.Rows L2 N
section
variable {P : Program} {w : World} {K : PySem.W.Frag} {mg : Str → Option Value} {base : Heap}
/-! tables -/
def sp_is_price : FS := { α := D, args := fun g => [g], pre := fun g => (ty7 g).isSome = true, post := fun g r => r = .bl (inB 0 9999 g) }
/-! is_price -/
abbrev s_is_price : Stmt := topS 26
abbrev n_is_price : List Str := ["value"]
theorem sc_is_price : FnScope n_is_price ["value"] (defScope s_is_price) := ⟨rfl, rfl, rfl, by decide +kernel, rfl, by decide +kernel, by decide +kernel⟩
theorem ok_is_price (T : Tx K mg) (h_is_between : Has P w K mg base "is_between" 2 ["value", "least", "most"] (spF K sp_is_between)) {f : Addr} {fd : FuncData} (F : Fd K "is_price" s_is_price [] f fd) : FnOk P w K mg base (L2N.CX P w) 3 f fd ["value"] (spF K sp_is_price) := by
  refine fn_ok F sc_is_price sp_is_price (fun _ => rfl) fun cdv A outer s H E g hr pre hx => ?_
  refine ⟨_, (ds_one (ds_ret (de_call h_is_between hr (da_cons (dv 0) (da_cons de_int (da_cons (de_globI (by rfl) T.g_PRICE_MOST) da_nil)))))), ?_⟩
  change D at g
  exact ⟨(g, 0, 9999), rfl, pre, fun r hr => hr, fun _ h => h.elim⟩
theorem has_is_price (T : Tx K mg) (h_is_between : Has P w K mg base "is_between" 2 ["value", "least", "most"] (spF K sp_is_between)) {f : Addr} {fd : FuncData} (F : Fd K "is_price" s_is_price [] f fd) (gm : mg "is_price" = some (.ref f)) : Has P w K mg base "is_price" 3 ["value"] (spF K sp_is_price) := by
  exact has_of F gm (ok_is_price T  h_is_between F) fun _ _ _ _ _ _ us hl => match us, hl with | [_], _ => rfl
def isPrs (m : Int) (d : D) : Bool := match rowOf d with
  | some ds => decide (((ds.length : Nat) : Int) = m) && ds.all (inB 0 9999)
  | none => false
def sp_are_prices : FS := { α := Int × D, args := fun g => [.int g.1, g.2], pre := fun g => g.1 ≤ 1000 ∧ RowIn g.2, post := fun g r => r = .bl (isPrs g.1 g.2) }
/-! are_prices -/
abbrev s_are_prices : Stmt := topS 28
abbrev n_are_prices : List Str := ["many", "values", "value"]
theorem sc_are_prices : FnScope n_are_prices ["many", "values"] (defScope s_are_prices) := ⟨rfl, rfl, rfl, by decide +kernel, rfl, by decide +kernel, by decide +kernel⟩
theorem ok_are_prices (T : Tx K mg) (h_is_price : Has P w K mg base "is_price" 3 ["value"] (spF K sp_is_price)) (h_is_listed : Has P w K mg base "is_listed" 1 ["value"] (spF K sp_is_list)) {f : Addr} {fd : FuncData} (F : Fd K "are_prices" s_are_prices [] f fd) : FnOk P w K mg base (L2N.CX P w) 4 f fd ["many", "values"] (spF K sp_are_prices) := by
  refine fn_ok F sc_are_prices sp_are_prices (fun _ => rfl) fun cdv A outer s H E g hr pre hx => ?_
  refine ⟨_, (ds_one (ds_ret (de_and (de_call h_is_listed (hr.mono (by decide : 1 ≤ 3)) (da_cons (dv 1) da_nil)) (de_and (de_eq (de_len T.b_len (da_cons (dv 1) da_nil)) (dv 0)) (de_one (de_all rfl T.b_all (da_cons (de_new (dn_lc sc_are_prices.nd (di_seq (dv 1)) (blkOk_by (own := [("value", 2)]) (N := n_are_prices) (sc := defScope s_are_prices) (by decide +kernel)) (fun _ _ _ _ _ _ _ => dts_nil) (fun _ _ _ _ _ _ _ => (de_call h_is_price hr (da_cons (dv 2) da_nil))) (fun _ _ _ _ _ => pg_name (i := 2) sc_are_prices.nd rfl (Or.inl rfl)))) da_nil))))))), ?_⟩
  obtain ⟨m, d⟩ := g
  obtain ⟨hm, p1, p2⟩ := pre
  have hm : m ≤ 1000 := hm
  refine ⟨d, rfl, p1, fun r hr => ?_, fun _ h => h.elim⟩
  have hr : r = .bl (isL d) := hr
  subst hr
  cases er : rowOf d with
  | none =>
    have e : isPrs m d = false := by unfold isPrs; rw [er]
    cases d with
    | tup ds => cases er
    | lst ds => cases er
    | _ => first | exact congrArg D.bl e.symm | cases p1
  | some ds =>
    have p3 : ∀ x ∈ ds, (ty7 x).isSome = true := p2 ds er
    clear p2
    have el : isPrs m d = (decide (((ds.length : Nat) : Int) = m) && ds.all (inB 0 9999)) := by unfold isPrs; rw [er]
    rcases rowOf_el er with rfl | rfl <;> (
      show if decide (((ds.length : Nat) : Int) = m) = true then _ else _
      refine ite2 (fun h => ?_) (fun h => ?_)
      · have h := of_decide_eq_true h
        rw [decide_eq_true h, Bool.true_and] at el
        refine ⟨trivial, by show ds.length ≤ 16777216; omega, fun k acc ρ => ρ = [.v (.int m), .v _, .un] ∧ acc = ((ds.take k).map (inB 0 9999)).map D.bl, ⟨rfl, rfl⟩, fun _ _ _ _ _ => trivial, ?_, ?_⟩
        · rintro k x acc ρ hk hx ⟨rfl, rfl⟩
          have hx : ds[k]? = some x := hx
          refine ⟨x, rfl, p3 x (List.mem_of_getElem? hx), fun r hr => ?_, fun _ h => h.elim⟩
          have hr : r = .bl (inB 0 9999 x) := hr
          subst hr
          exact ⟨rfl, by rw [bls_take hx, List.map_append]; rfl⟩
        · rintro acc ρ ⟨rfl, rfl⟩
          refine ⟨_, rfl, ?_⟩
          have ea : ((ds.take ds.length).map (inB 0 9999)).all id = ds.all (inB 0 9999) := by
            rw [List.take_length, List.all_map]
            rfl
          exact congrArg D.bl (ea.trans el.symm)
      · rw [decide_eq_false (fun z => h (decide_eq_true z)), Bool.false_and] at el
        exact congrArg D.bl el.symm)
theorem has_are_prices (T : Tx K mg) (h_is_price : Has P w K mg base "is_price" 3 ["value"] (spF K sp_is_price)) (h_is_listed : Has P w K mg base "is_listed" 1 ["value"] (spF K sp_is_list)) {f : Addr} {fd : FuncData} (F : Fd K "are_prices" s_are_prices [] f fd) (gm : mg "are_prices" = some (.ref f)) : Has P w K mg base "are_prices" 4 ["many", "values"] (spF K sp_are_prices) := by
  exact has_of F gm (ok_are_prices T  h_is_price h_is_listed F) fun _ _ _ _ _ _ us hl => match us, hl with | [_, _], _ => rfl
def sp_check_kind (K : PySem.W.Frag) : FS := { α := Int × D, args := fun g => [.int g.1, g.2], pre := fun g => (ty7 g.2).isSome = true, post := fun g r => isK g.1 g.2 = true ∧ r = .non, exc := fun g x => isK g.1 g.2 = false ∧ x = exBad K "BadKind" }
/-! check_kind -/
abbrev s_check_kind : Stmt := topS 30
abbrev n_check_kind : List Str := ["many", "kind"]
theorem sc_check_kind : FnScope n_check_kind ["many", "kind"] (defScope s_check_kind) := ⟨rfl, rfl, rfl, by decide +kernel, rfl, by decide +kernel, by decide +kernel⟩
theorem ok_check_kind (T : Tx K mg) (h_is_kind : Has P w K mg base "is_kind" 3 ["many", "value"] (spF K sp_is_kindT)) {f : Addr} {fd : FuncData} (F : Fd K "check_kind" s_check_kind [] f fd) : FnOk P w K mg base (L2N.CX P w) 4 f fd ["many", "kind"] (spF K (sp_check_kind K)) := by
  refine fn_ok F sc_check_kind (sp_check_kind K) (fun _ => rfl) fun cdv A outer s H E g hr pre hx => ?_
  refine ⟨_, (ds_one (ds_if (dt_not (dt_val (de_call h_is_kind hr (da_cons (dv 0) (da_cons (dv 1) da_nil)))))
      (ds_one (ds_raise (L2N.takes_of rfl rfl rfl rfl) hx PySem.F.excBase_ValueError T.x_BadKind.1 T.c_BadKind T.x_BadKind.2.1 (raises_own T.x_BadKind.2.2.1 T.x_BadKind.2.2.2)))
      ds_nil)), ?_⟩
  obtain ⟨m, d⟩ := g
  refine ⟨(m, d), rfl, pre, fun r hr => ?_, fun _ h => h.elim⟩
  have hr : r = .bl (isK m d) := hr
  subst hr
  show if (!isK m d) = true then _ else _
  exact ite2 (fun h => ⟨by simpa using h, rfl⟩) (fun h => ⟨by simpa using h, rfl⟩)
theorem has_check_kind (T : Tx K mg) (h_is_kind : Has P w K mg base "is_kind" 3 ["many", "value"] (spF K sp_is_kindT)) {f : Addr} {fd : FuncData} (F : Fd K "check_kind" s_check_kind [] f fd) (gm : mg "check_kind" = some (.ref f)) : Has P w K mg base "check_kind" 4 ["many", "kind"] (spF K (sp_check_kind K)) := by
  exact has_of F gm (ok_check_kind T  h_is_kind F) fun _ _ _ _ _ _ us hl => match us, hl with | [_, _], _ => rfl
/-- what makes a table -/
def isTab (a b c : D) : Bool := match rowOf a with
  | some rs => decide (1 ≤ rs.length ∧ rs.length ≤ 8) && (rs.all (isPrs rs.length) && (isPrs rs.length b && isPrs rs.length c))
  | none => false
def tupR (d : D) : D := .tup ((rowOf d).getD [])
def tabOf (K : PySem.W.Frag) (a b c : D) : D := .ins (He.ga K "Table") nsF_Table [.tup (((rowOf a).getD []).map tupR), tupR b, tupR c]
def SqIn (d : D) : Prop := RowIn d ∧ ∀ rs, rowOf d = some rs → ∀ r ∈ rs, RowIn r
def sp_Table_init (K : PySem.W.Frag) : FS := { α := D × D × D, args := fun g => [g.1, g.2.1, g.2.2], pre := fun g => SqIn g.1 ∧ RowIn g.2.1 ∧ RowIn g.2.2, post := fun g d => isTab g.1 g.2.1 g.2.2 = true ∧ d = tabOf K g.1 g.2.1 g.2.2, exc := fun g x => isTab g.1 g.2.1 g.2.2 = false ∧ x = exBad K "BadTable" }
theorem pl_in {l u : Int} {d : D} (h : inB l u d = true) : pl d = true := by
  cases d with
  | int i => rfl
  | _ => cases h
theorem isPrs_el {m : Int} {d : D} (h : isPrs m d = true) : ∃ ds, rowOf d = some ds ∧ ((ds.length : Nat) : Int) = m ∧ (∀ x ∈ ds, inB 0 9999 x = true) ∧ pl d = true := by
  unfold isPrs at h
  cases e : rowOf d with
  | none => rw [e] at h; cases h
  | some ds =>
    rw [e] at h
    obtain ⟨h1, h2⟩ := Bool.and_eq_true_iff.mp h
    refine ⟨ds, rfl, of_decide_eq_true h1, fun x hx => List.all_eq_true.mp h2 x hx, ?_⟩
    have hp : plL ds = true := plL_of fun x hx => pl_in (List.all_eq_true.mp h2 x hx)
    rcases rowOf_el e with rfl | rfl <;> exact hp
theorem rTup_of {i : Nat} {d : D} {ds : List D} {ρ : En} {Q : W → En → Prop} (h : ρ[i]? = some (.v d)) (hd : rowOf d = some ds) (q : Q (.d (.tup ds)) ρ) : rA (rCons (rVar i) rNil) oTup ρ Q := by
  refine rVar.mk (w := .d d) (by unfold rd; rw [h]) ?_
  rcases rowOf_el hd with rfl | rfl <;> exact q
/-! Table.__init__ -/
abbrev s_Table___init__ : Stmt := methS (topS 35) 0
abbrev n_Table___init__ : List Str := ["self", "turns", "begins", "ends", "many", "row"]
theorem sc_Table___init__ : FnScope n_Table___init__ ["self", "turns", "begins", "ends"] (defScope s_Table___init__) := ⟨rfl, rfl, rfl, by decide +kernel, rfl, by decide +kernel, by decide +kernel⟩
theorem ok_Table___init__ (T : Tx K mg) (h_is_listed : Has P w K mg base "is_listed" 1 ["value"] (spF K sp_is_list)) (h_are_prices : Has P w K mg base "are_prices" 4 ["many", "values"] (spF K sp_are_prices)) {f : Addr} {fd : FuncData} (F : FunD K "__init__" "Table.__init__" (defArgs s_Table___init__) (defBody s_Table___init__) (defScope s_Table___init__) [] [] f fd) : FnOk P w K mg base (L2N.CX P w) 5 f fd ["self", "turns", "begins", "ends"] (spI K (He.ga K "Table") (sp_Table_init K)) := by
  refine fnI_ok (ns := nsF_Table) F sc_Table___init__ (sp_Table_init K) (fun _ => rfl) fun cdv A outer s H E g p dx hr pre hx => ?_
  refine ⟨_, (i_cons (ds_if ((dw_or (dt_not (dt_val (de_call h_is_listed (hr.mono (by decide : 1 ≤ 4)) (da_cons (dv 1) da_nil)))) (dw_or1 (dt_not (dt_chain op_le op_le de_int (de_len T.b_len (da_cons (dv 1) da_nil)) (de_globI (by rfl) T.g_KINDS_MOST)))))).dt
      (ds_one (ds_raise (L2N.takes_of rfl rfl rfl rfl) hx PySem.F.excBase_ValueError T.x_BadTable.1 T.c_BadTable T.x_BadTable.2.1 (raises_own T.x_BadTable.2.2.1 T.x_BadTable.2.2.2)))
      ds_nil)
      (i_cons (ds_set (i := 4) sc_Table___init__.nd (de_len T.b_len (da_cons (dv 1) da_nil)))
      (i_cons (ds_if (dt_not (dt_val (de_all rfl T.b_all (da_cons (de_new (dn_lc sc_Table___init__.nd (di_seq (dv 1)) (blkOk_by (own := [("row", 5)]) (N := n_Table___init__) (sc := defScope s_Table___init__) (by decide +kernel)) (fun _ _ _ _ _ _ _ => dts_nil) (fun _ _ _ _ _ _ _ => (de_call h_are_prices hr (da_cons (dv 4) (da_cons (dv 5) da_nil)))) (fun _ _ _ _ _ => pg_name (i := 5) sc_Table___init__.nd rfl (Or.inl rfl)))) da_nil))))
      (ds_one (ds_raise (L2N.takes_of rfl rfl rfl rfl) hx PySem.F.excBase_ValueError T.x_BadTable.1 T.c_BadTable T.x_BadTable.2.1 (raises_own T.x_BadTable.2.2.1 T.x_BadTable.2.2.2)))
      ds_nil)
      (i_cons (ds_if ((dw_or (dt_not (dt_val (de_call h_are_prices hr (da_cons (dv 4) (da_cons (dv 2) da_nil))))) (dw_or1 (dt_not (dt_val (de_call h_are_prices hr (da_cons (dv 4) (da_cons (dv 3) da_nil)))))))).dt
      (ds_one (ds_raise (L2N.takes_of rfl rfl rfl rfl) hx PySem.F.excBase_ValueError T.x_BadTable.1 T.c_BadTable T.x_BadTable.2.1 (raises_own T.x_BadTable.2.2.1 T.x_BadTable.2.2.2)))
      ds_nil)
      (i_enter (j_cons T.cl_Table T.na_Table_own_turns (by decide +kernel) (by decide) (fun _ => dv 0) (fun _ => (de_tuple T.b_tuple (da_cons (de_new (dn_lc sc_Table___init__.nd (di_seq (dv 1)) (blkOk_by (own := [("row", 5)]) (N := n_Table___init__) (sc := defScope s_Table___init__) (by decide +kernel)) (fun _ _ _ _ _ _ _ => dts_nil) (fun _ _ _ _ _ _ _ => (de_tuple T.b_tuple (da_cons (dv 5) da_nil))) (fun _ _ _ _ _ => pg_name (i := 5) sc_Table___init__.nd rfl (Or.inl rfl)))) da_nil)))
      (j_cons T.cl_Table T.na_Table_own_begins (by decide +kernel) (by decide) (fun _ => dv 0) (fun _ => (de_tuple T.b_tuple (da_cons (dv 2) da_nil)))
      (j_cons T.cl_Table T.na_Table_own_ends (by decide +kernel) (by decide) (fun _ => dv 0) (fun _ => (de_tuple T.b_tuple (da_cons (dv 3) da_nil)))
      j_nil)))))))), ?_⟩
  obtain ⟨a, b, c⟩ := g
  obtain ⟨⟨⟨a1, a2⟩, a3⟩, pb, pc⟩ := pre
  refine ⟨a, rfl, a1, fun r hr => ?_, fun _ h => h.elim⟩
  have hr : r = .bl (isL a) := hr
  subst hr
  cases er : rowOf a with
  | none =>
    have e : isTab a b c = false := by unfold isTab; rw [er]
    cases a with
    | tup ds => cases er
    | lst ds => cases er
    | _ => first | exact ⟨e, rfl⟩ | cases a1
  | some rs =>
    have p3 : ∀ x ∈ rs, (ty7 x).isSome = true := a2 rs er
    have p4 : ∀ x ∈ rs, RowIn x := a3 rs er
    clear a2 a3
    have el : isTab a b c = (decide (1 ≤ rs.length ∧ rs.length ≤ 8) && (rs.all (isPrs rs.length) && (isPrs rs.length b && isPrs rs.length c))) := by unfold isTab; rw [er]
    rcases rowOf_el er with rfl | rfl <;> (
      show if decide ((1 : Int) ≤ ((rs.length : Nat) : Int)) = true then _ else _
      refine ite2 (fun h => ?_) (fun h => ⟨by rw [el, decide_eq_false (fun z => h (decide_eq_true (by omega)))]; rfl, rfl⟩)
      have h := of_decide_eq_true h
      show if (!decide (((rs.length : Nat) : Int) ≤ 8)) = true then _ else _
      refine ite2 (fun h2 => ⟨by rw [el, decide_eq_false (fun z => by rw [decide_eq_true (by omega)] at h2; cases h2)]; rfl, rfl⟩) (fun h2 => ?_)
      have h2 : ((rs.length : Nat) : Int) ≤ 8 := Classical.byContradiction fun z => h2 (by rw [decide_eq_false z]; rfl)
      rw [decide_eq_true (by omega), Bool.true_and] at el
      dsimp only [rNx]
      refine ⟨trivial, by show rs.length ≤ 16777216; omega, fun k acc ρ => ρ = [.v (.obj p), .v _, .v b, .v c, .v (.int (rs.length : Nat)), .un] ∧ acc = ((rs.take k).map (isPrs rs.length)).map D.bl, ⟨rfl, rfl⟩, fun _ _ _ _ _ => trivial, ?_, ?_⟩
      · rintro k x acc ρ hk hx ⟨rfl, rfl⟩
        have hx : rs[k]? = some x := hx
        refine ⟨((rs.length : Nat), x), rfl, ⟨by show ((rs.length : Nat) : Int) ≤ 1000; omega, p4 x (List.mem_of_getElem? hx)⟩, fun r hr => ?_, fun _ h => h.elim⟩
        have hr : r = .bl (isPrs rs.length x) := hr
        subst hr
        exact ⟨rfl, by rw [bls_take hx, List.map_append]; rfl⟩
      rintro acc ρ ⟨rfl, rfl⟩
      refine ⟨_, rfl, ?_⟩
      have ea : ((rs.take rs.length).map (isPrs rs.length)).all id = rs.all (isPrs rs.length) := by
        rw [List.take_length, List.all_map]
        rfl
      show if (!((rs.take rs.length).map (isPrs rs.length)).all id) = true then _ else _
      rw [ea]
      refine ite2 (fun h3 => ⟨by rw [el, show rs.all (isPrs rs.length) = false by simpa using h3]; rfl, rfl⟩) (fun h3 => ?_)
      have h3 : rs.all (isPrs rs.length) = true := by simpa using h3
      rw [h3, Bool.true_and] at el
      dsimp only [rNx]
      refine ⟨((rs.length : Nat), b), rfl, ⟨by show ((rs.length : Nat) : Int) ≤ 1000; omega, pb⟩, fun r hr => ?_, fun _ h => h.elim⟩
      have hr : r = .bl (isPrs rs.length b) := hr
      subst hr
      show if (!isPrs rs.length b) = true then _ else _
      refine ite2 (fun h4 => ite2 (fun _ => ⟨by rw [el, show isPrs rs.length b = false by simpa using h4]; rfl, rfl⟩) fun z => absurd rfl z) (fun h4 => ?_)
      have h4 : isPrs rs.length b = true := by simpa using h4
      rw [h4, Bool.true_and] at el
      refine ⟨((rs.length : Nat), c), rfl, ⟨by show ((rs.length : Nat) : Int) ≤ 1000; omega, pc⟩, fun r hr => ?_, fun _ h => h.elim⟩
      have hr : r = .bl (isPrs rs.length c) := hr
      subst hr
      show if (!isPrs rs.length c) = true then _ else _
      refine ite2 (fun h5 => ⟨by rw [el]; simpa using h5, rfl⟩) (fun h5 => ?_)
      have h5 : isPrs rs.length c = true := by simpa using h5
      rw [h5] at el
      dsimp only [rNx]
      have q3 : ∀ x ∈ rs, isPrs rs.length x = true := fun x hx => List.all_eq_true.mp h3 x hx
      have hpa : plL rs = true := plL_of fun x hx => (isPrs_el (q3 x hx)).elim fun _ z => z.2.2.2
      obtain ⟨bs, eb, _, bin, hpb⟩ := isPrs_el h4
      obtain ⟨cs, ec, _, cin, hpc⟩ := isPrs_el h5
      have hE : plE [.v (.obj p), .v (.tup rs), .v b, .v c, .v (.int (rs.length : Nat)), .un] = true := by
        show (true && (plL rs && (pl b && (pl c && (true && (true && true)))))) = true
        rw [hpa, hpb, hpc]
        rfl
      have htR : ∀ x ∈ rs, ∃ ds, rowOf x = some ds ∧ tupR x = .tup ds ∧ plL ds = true := fun x hx => by
        obtain ⟨ds, e, _, din, _⟩ := isPrs_el (q3 x hx)
        exact ⟨ds, e, by unfold tupR; rw [e]; rfl, plL_of fun y hy => pl_in (din y hy)⟩
      have hp1 : plL (rs.map tupR) = true := plL_of fun y hy => by
        obtain ⟨x, hx, rfl⟩ := List.mem_map.mp hy
        obtain ⟨ds, _, e2, e3⟩ := htR x hx
        rw [e2]
        exact e3
      refine ⟨hE, rfl, trivial, by show rs.length ≤ 16777216; omega, fun k acc ρ => ρ = [.v (.obj p), .v _, .v b, .v c, .v (.int (rs.length : Nat)), .un] ∧ acc = (rs.take k).map tupR, ⟨rfl, rfl⟩, fun _ _ _ _ _ => trivial, ?_, ?_⟩
      · rintro k x acc ρ hk hx ⟨rfl, rfl⟩
        have hx : rs[k]? = some x := hx
        obtain ⟨ds, e1, e2, _⟩ := htR x (List.mem_of_getElem? hx)
        show rA (rCons (rVar 5) rNil) oTup [.v (.obj p), .v _, .v b, .v c, .v (.int (rs.length : Nat)), .v x] _
        refine rTup_of (i := 5) (d := x) rfl e1 ?_
        refine ⟨rfl, ?_⟩
        rw [List.take_add_one, hx, List.map_append, ← e2]
        rfl
      rintro acc ρ ⟨rfl, rfl⟩
      rw [List.take_length]
      refine ⟨hE, rfl, hp1, ?_⟩
      refine rTup_of (i := 2) (d := b) rfl eb ?_
      refine ⟨hE, rfl, plL_of fun y hy => pl_in (bin y hy), ?_⟩
      refine rTup_of (i := 3) (d := c) rfl ec ?_
      refine ⟨hE, rfl, plL_of fun y hy => pl_in (cin y hy), el, ?_⟩
      show D.ins _ _ _ = tabOf K _ b c
      unfold tabOf tupR
      rw [eb, ec]
      rfl)
theorem hasmk_Table___init__ (T : Tx K mg) (h_is_listed : Has P w K mg base "is_listed" 1 ["value"] (spF K sp_is_list)) (h_are_prices : Has P w K mg base "are_prices" 4 ["many", "values"] (spF K sp_are_prices)) {f pr : Addr} {fd : FuncData} (F : FunD K "__init__" "Table.__init__" (defArgs s_Table___init__) (defBody s_Table___init__) (defScope s_Table___init__) [] [] f fd) (gc : mg "Table" = some (.ref (He.ga K "Table"))) (gm : Mk K (He.ga K "Table") f) : HasMk P w K mg base "Table" (He.ga K "Table") 5 ["self", "turns", "begins", "ends"] (spI K (He.ga K "Table") (sp_Table_init K)) :=
  hasMk_of F gc gm (ok_Table___init__ T h_is_listed h_are_prices F) fun _ _ _ _ _ _ us hl => match us, hl with | [_, _, _, _], _ => rfl
def tblD (K : PySem.W.Frag) (a b c : D) : D := .ins (He.ga K "Table") nsF_Table [a, b, c]
def sp_Table_many (K : PySem.W.Frag) : FS := { α := List D × D × D, args := fun g => [tblD K (.tup g.1) g.2.1 g.2.2], pre := fun _ => True, post := fun g r => r = .int (g.1.length : Nat) }
def sp_Table_turns (K : PySem.W.Frag) : FS := { α := D × D × D, args := fun g => [tblD K g.1 g.2.1 g.2.2], pre := fun _ => True, post := fun g r => r = g.1 }
def sp_Table_begins (K : PySem.W.Frag) : FS := { α := D × D × D, args := fun g => [tblD K g.1 g.2.1 g.2.2], pre := fun _ => True, post := fun g r => r = g.2.1 }
def sp_Table_ends (K : PySem.W.Frag) : FS := { α := D × D × D, args := fun g => [tblD K g.1 g.2.1 g.2.2], pre := fun _ => True, post := fun g r => r = g.2.2 }
/-! Table.many -/
abbrev s_Table_many : Stmt := methS (topS 35) 1
abbrev n_Table_many : List Str := ["self"]
theorem sc_Table_many : FnScope n_Table_many ["self"] (defScope s_Table_many) := ⟨rfl, rfl, rfl, by decide +kernel, rfl, by decide +kernel, by decide +kernel⟩
theorem ok_Table_many (T : Tx K mg) {f : Addr} {fd : FuncData} (F : FunD K "many" "Table.many" (defArgs s_Table_many) (defBody s_Table_many) (defScope s_Table_many) [] [] f fd) : FnOk P w K mg base (L2N.CX P w) 1 f fd ["self"] (spF K (sp_Table_many K)) := by
  refine fn_ok F sc_Table_many (sp_Table_many K) (fun _ => rfl) fun cdv A outer s H E g hr pre hx => ?_
  refine ⟨_, (ds_one (ds_ret (de_len T.b_len (da_cons (de_fld T.cl_Table T.na_Table_own_turns ixF_Table_own_turns (dv 0)) da_nil)))), ?_⟩
  obtain ⟨a, b, c⟩ := g
  exact ⟨_, _, rfl, rfl, rfl⟩
theorem hasp_Table_many (T : Tx K mg) {f pr : Addr} {fd : FuncData} (F : FunD K "many" "Table.many" (defArgs s_Table_many) (defBody s_Table_many) (defScope s_Table_many) [] [] f fd) (gm : PropOf K (He.ga K "Table") "many" pr f) : HasPr P w K mg base (He.ga K "Table") "many" 1 (spF K (sp_Table_many K)) :=
  hasPr_of F gm (ok_Table_many T  F) fun _ _ _ _ _ _ us hl => match us, hl with | [_], _ => rfl
/-! Table.turns -/
abbrev s_Table_turns : Stmt := methS (topS 35) 2
abbrev n_Table_turns : List Str := ["self"]
theorem sc_Table_turns : FnScope n_Table_turns ["self"] (defScope s_Table_turns) := ⟨rfl, rfl, rfl, by decide +kernel, rfl, by decide +kernel, by decide +kernel⟩
theorem ok_Table_turns (T : Tx K mg) {f : Addr} {fd : FuncData} (F : FunD K "turns" "Table.turns" (defArgs s_Table_turns) (defBody s_Table_turns) (defScope s_Table_turns) [] [] f fd) : FnOk P w K mg base (L2N.CX P w) 1 f fd ["self"] (spF K (sp_Table_turns K)) := by
  refine fn_ok F sc_Table_turns (sp_Table_turns K) (fun _ => rfl) fun cdv A outer s H E g hr pre hx => ?_
  refine ⟨_, (ds_one (ds_ret (de_fld T.cl_Table T.na_Table_own_turns ixF_Table_own_turns (dv 0)))), ?_⟩
  obtain ⟨a, b, c⟩ := g
  exact ⟨_, _, rfl, rfl, rfl⟩
theorem hasp_Table_turns (T : Tx K mg) {f pr : Addr} {fd : FuncData} (F : FunD K "turns" "Table.turns" (defArgs s_Table_turns) (defBody s_Table_turns) (defScope s_Table_turns) [] [] f fd) (gm : PropOf K (He.ga K "Table") "turns" pr f) : HasPr P w K mg base (He.ga K "Table") "turns" 1 (spF K (sp_Table_turns K)) :=
  hasPr_of F gm (ok_Table_turns T  F) fun _ _ _ _ _ _ us hl => match us, hl with | [_], _ => rfl
/-! Table.begins -/
abbrev s_Table_begins : Stmt := methS (topS 35) 3
abbrev n_Table_begins : List Str := ["self"]
theorem sc_Table_begins : FnScope n_Table_begins ["self"] (defScope s_Table_begins) := ⟨rfl, rfl, rfl, by decide +kernel, rfl, by decide +kernel, by decide +kernel⟩
theorem ok_Table_begins (T : Tx K mg) {f : Addr} {fd : FuncData} (F : FunD K "begins" "Table.begins" (defArgs s_Table_begins) (defBody s_Table_begins) (defScope s_Table_begins) [] [] f fd) : FnOk P w K mg base (L2N.CX P w) 1 f fd ["self"] (spF K (sp_Table_begins K)) := by
  refine fn_ok F sc_Table_begins (sp_Table_begins K) (fun _ => rfl) fun cdv A outer s H E g hr pre hx => ?_
  refine ⟨_, (ds_one (ds_ret (de_fld T.cl_Table T.na_Table_own_begins ixF_Table_own_begins (dv 0)))), ?_⟩
  obtain ⟨a, b, c⟩ := g
  exact ⟨_, _, rfl, rfl, rfl⟩
theorem hasp_Table_begins (T : Tx K mg) {f pr : Addr} {fd : FuncData} (F : FunD K "begins" "Table.begins" (defArgs s_Table_begins) (defBody s_Table_begins) (defScope s_Table_begins) [] [] f fd) (gm : PropOf K (He.ga K "Table") "begins" pr f) : HasPr P w K mg base (He.ga K "Table") "begins" 1 (spF K (sp_Table_begins K)) :=
  hasPr_of F gm (ok_Table_begins T  F) fun _ _ _ _ _ _ us hl => match us, hl with | [_], _ => rfl
/-! Table.ends -/
abbrev s_Table_ends : Stmt := methS (topS 35) 4
abbrev n_Table_ends : List Str := ["self"]
theorem sc_Table_ends : FnScope n_Table_ends ["self"] (defScope s_Table_ends) := ⟨rfl, rfl, rfl, by decide +kernel, rfl, by decide +kernel, by decide +kernel⟩
theorem ok_Table_ends (T : Tx K mg) {f : Addr} {fd : FuncData} (F : FunD K "ends" "Table.ends" (defArgs s_Table_ends) (defBody s_Table_ends) (defScope s_Table_ends) [] [] f fd) : FnOk P w K mg base (L2N.CX P w) 1 f fd ["self"] (spF K (sp_Table_ends K)) := by
  refine fn_ok F sc_Table_ends (sp_Table_ends K) (fun _ => rfl) fun cdv A outer s H E g hr pre hx => ?_
  refine ⟨_, (ds_one (ds_ret (de_fld T.cl_Table T.na_Table_own_ends ixF_Table_own_ends (dv 0)))), ?_⟩
  obtain ⟨a, b, c⟩ := g
  exact ⟨_, _, rfl, rfl, rfl⟩
theorem hasp_Table_ends (T : Tx K mg) {f pr : Addr} {fd : FuncData} (F : FunD K "ends" "Table.ends" (defArgs s_Table_ends) (defBody s_Table_ends) (defScope s_Table_ends) [] [] f fd) (gm : PropOf K (He.ga K "Table") "ends" pr f) : HasPr P w K mg base (He.ga K "Table") "ends" 1 (spF K (sp_Table_ends K)) :=
  hasPr_of F gm (ok_Table_ends T  F) fun _ _ _ _ _ _ us hl => match us, hl with | [_], _ => rfl
end
end Q
/-! C10 -/
set_option Elab.async false
set_option linter.all false
set_option maxRecDepth 100000
set_option maxHeartbeats 8000000
namespace Q
open PySem PySem.Spec PyProof.Rows L2 N
section
variable {P : Program} {w : World} {K : PySem.W.Frag} {mg : Str → Option Value} {base : Heap}
/-! prices of rows -/
structure Tb where
  t : List (List Int)
  b : List Int
  e : List Int
def PrOk (n : Nat) (l : List Int) : Prop := l.length = n ∧ ∀ x ∈ l, 0 ≤ x ∧ x ≤ 9999
structure TbOk (n : Nat) (T : Tb) : Prop where
  n1 : 1 ≤ n
  n8 : n ≤ 8
  len : T.t.length = n
  row : ∀ r ∈ T.t, PrOk n r
  b : PrOk n T.b
  e : PrOk n T.e
def tabI (K : PySem.W.Frag) (T : Tb) : D := tblD K (.tup (T.t.map dTup)) (dTup T.b) (dTup T.e)
def lstI (l : List Int) : D := .lst (l.map D.int)
def tt (t : List (List Int)) (i j : Int) : Int := (t.getD i.toNat []).getD j.toNat 0
def g0 (l : List Int) (i : Int) : Int := l.getD i.toNat 0
def stepsTo (t : List (List Int)) (ns : List Int) : Nat → Int
  | 0 => 0
  | k + 1 => stepsTo t ns k + tt t (ns.getD k 0) (ns.getD (k + 1) 0)
def priceOf (T : Tb) (ns : List Int) : Int := if ns = [] then 0 else g0 T.b (ns.getD 0 0) + g0 T.e (ns.getD (ns.length - 1) 0) + stepsTo T.t ns (ns.length - 1)
def staysTo (t : List (List Int)) (ns : List Int) : Nat → Int
  | 0 => 0
  | k + 1 => staysTo t ns k + tt t (ns.getD k 0) (ns.getD k 0)
def overOf (T : Tb) (ns : List Int) : Int := priceOf T ns - staysTo T.t ns ns.length
theorem at_mi {α : Type} {f : α → D} {l : List α} {i : Int} {d : α} (h0 : 0 ≤ i) (h : i < (l.length : Int)) : atI (l.map f) i = some (f (l.getD i.toNat d)) := by
  have hk : i.toNat < l.length := by omega
  unfold atI
  rw [ixN_nat h0 (by rw [List.length_map]; omega)]
  show (l.map f)[i.toNat]? = _
  rw [List.getElem?_map, List.getD_eq_getElem?_getD, List.getElem?_eq_getElem hk]
  rfl
def KindsIn (n : Nat) (ns : List Int) : Prop := ∀ k ∈ ns, 0 ≤ k ∧ k < (n : Int)
theorem kin {n : Nat} {ns : List Int} (h : KindsIn n ns) {k : Nat} (hk : k < ns.length) : 0 ≤ ns.getD k 0 ∧ ns.getD k 0 < (n : Int) := by
  rw [List.getD_eq_getElem?_getD, List.getElem?_eq_getElem hk]
  exact h _ (List.getElem_mem hk)
theorem atI_last {ns : List Int} (h : ns ≠ []) : atI (ns.map D.int) (-1) = some (.int (ns.getD (ns.length - 1) 0)) := by
  have hl : 0 < ns.length := List.length_pos_iff.mpr h
  unfold atI
  have e : ixN (ns.map D.int).length (-1) = some (ns.length - 1) := by
    rw [List.length_map]
    unfold ixN
    rw [if_neg (by omega)]
    first
    | rw [if_pos (by omega)]; congr 1; omega
    | simp; omega
  rw [e]
  show (ns.map D.int)[ns.length - 1]? = _
  rw [List.getElem?_map, List.getD_eq_getElem?_getD, List.getElem?_eq_getElem (by omega)]
  rfl
theorem at_row {n : Nat} {T : Tb} (h : TbOk n T) {i : Int} (h0 : 0 ≤ i) (h1 : i < (n : Int)) : atI (T.t.map dTup) i = some (dTup (T.t.getD i.toNat [])) ∧ (T.t.getD i.toNat []).length = n := by
  refine ⟨at_mi h0 (by rw [h.len]; exact h1), ?_⟩
  have hk : i.toNat < T.t.length := by rw [h.len]; omega
  rw [List.getD_eq_getElem?_getD, List.getElem?_eq_getElem hk]
  exact (h.row _ (List.getElem_mem hk)).1
theorem pr_turns {K : PySem.W.Frag} {T : Tb} {re : RE} {ρ : En} {Q : W → En → Prop} (h : ∀ Q' : W → En → Prop, Q' (.d (tabI K T)) ρ → re ρ Q') (q : Q (.d (.tup (T.t.map dTup))) ρ) : rPr (He.ga K "Table") (sp_Table_turns K) re ρ Q :=
  h _ ⟨(.tup (T.t.map dTup), dTup T.b, dTup T.e), _, _, rfl, rfl, trivial, fun d hd => by
    have hd : d = .tup (T.t.map dTup) := hd
    subst hd
    exact q, fun _ z => z⟩
theorem pr_begins {K : PySem.W.Frag} {T : Tb} {re : RE} {ρ : En} {Q : W → En → Prop} (h : ∀ Q' : W → En → Prop, Q' (.d (tabI K T)) ρ → re ρ Q') (q : Q (.d (dTup T.b)) ρ) : rPr (He.ga K "Table") (sp_Table_begins K) re ρ Q :=
  h _ ⟨(.tup (T.t.map dTup), dTup T.b, dTup T.e), _, _, rfl, rfl, trivial, fun d hd => by
    have hd : d = dTup T.b := hd
    subst hd
    exact q, fun _ z => z⟩
theorem pr_ends {K : PySem.W.Frag} {T : Tb} {re : RE} {ρ : En} {Q : W → En → Prop} (h : ∀ Q' : W → En → Prop, Q' (.d (tabI K T)) ρ → re ρ Q') (q : Q (.d (dTup T.e)) ρ) : rPr (He.ga K "Table") (sp_Table_ends K) re ρ Q :=
  h _ ⟨(.tup (T.t.map dTup), dTup T.b, dTup T.e), _, _, rfl, rfl, trivial, fun d hd => by
    have hd : d = dTup T.e := hd
    subst hd
    exact q, fun _ z => z⟩
theorem pr_many {K : PySem.W.Frag} {T : Tb} {re : RE} {ρ : En} {Q : W → En → Prop} (h : ∀ Q' : W → En → Prop, Q' (.d (tabI K T)) ρ → re ρ Q') (q : Q (.d (.int (T.t.length : Nat))) ρ) : rPr (He.ga K "Table") (sp_Table_many K) re ρ Q :=
  h _ ⟨(T.t.map dTup, dTup T.b, dTup T.e), _, _, rfl, rfl, trivial, fun d hd => by
    have hd : d = .int ((T.t.map dTup).length : Nat) := hd
    rw [List.length_map] at hd
    subst hd
    exact q, fun _ z => z⟩
theorem at_tt {n : Nat} {T : Tb} (h : TbOk n T) {i j : Int} (h0 : 0 ≤ i ∧ i < (n : Int)) (h1 : 0 ≤ j ∧ j < (n : Int)) : atI ((T.t.getD i.toNat []).map D.int) j = some (.int (tt T.t i j)) :=
  at_mi (f := D.int) (d := 0) h1.1 (by rw [(at_row h h0.1 h0.2).2]; exact h1.2)
theorem at_g0 {n : Nat} {l : List Int} (h : PrOk n l) {j : Int} (h1 : 0 ≤ j ∧ j < (n : Int)) : atI (l.map D.int) j = some (.int (g0 l j)) := at_mi (f := D.int) (d := 0) h1.1 (by rw [h.1]; exact h1.2)
theorem int_at {ns : List Int} {k : Nat} {x : D} (h : (ns.map D.int)[k]? = some x) : k < ns.length ∧ x = .int (ns.getD k 0) := by
  have hk := (List.getElem?_eq_some_iff.mp h).1
  rw [List.length_map] at hk
  refine ⟨hk, ?_⟩
  rw [List.getElem?_map, List.getElem?_eq_getElem hk] at h
  rw [List.getD_eq_getElem?_getD, List.getElem?_eq_getElem hk]
  exact (Option.some.inj h).symm
def sp_price_of (K : PySem.W.Frag) : FS := { α := Nat × Tb × List Int, args := fun g => [tabI K g.2.1, dTup g.2.2], pre := fun g => TbOk g.1 g.2.1 ∧ KindsIn g.1 g.2.2, post := fun g r => r = .int (priceOf g.2.1 g.2.2) }
/-! price_of -/
abbrev s_price_of : Stmt := topS 48
abbrev n_price_of : List Str := ["table", "pieces", "turns", "total", "one", "behind"]
theorem sc_price_of : FnScope n_price_of ["table", "pieces"] (defScope s_price_of) := ⟨rfl, rfl, rfl, by decide +kernel, rfl, by decide +kernel, by decide +kernel⟩
theorem ok_price_of (T : Tx K mg) (h_Table_turns : HasPr P w K mg base (He.ga K "Table") "turns" 1 (spF K (sp_Table_turns K))) (h_Table_begins : HasPr P w K mg base (He.ga K "Table") "begins" 1 (spF K (sp_Table_begins K))) (h_Table_ends : HasPr P w K mg base (He.ga K "Table") "ends" 1 (spF K (sp_Table_ends K))) {f : Addr} {fd : FuncData} (F : Fd K "price_of" s_price_of [] f fd) : FnOk P w K mg base (L2N.CX P w) 3 f fd ["table", "pieces"] (spF K (sp_price_of K)) := by
  refine fn_ok F sc_price_of (sp_price_of K) (fun _ => rfl) fun cdv A outer s H E g hr pre hx => ?_
  refine ⟨_, (ds_cons (ds_if (dt_eq (de_len T.b_len (da_cons (dv 1) da_nil)) de_int)
      (ds_one (ds_ret de_int))
      ds_nil)
      (ds_cons (ds_set (i := 2) sc_price_of.nd (de_prop T.cl_Table h_Table_turns hr (dv 0)))
      (ds_cons (ds_set (i := 3) sc_price_of.nd (de_add (de_ix (de_prop T.cl_Table h_Table_begins hr (dv 0)) (de_ix (dv 1) de_int)) (de_ix (de_prop T.cl_Table h_Table_ends hr (dv 0)) (de_ix (dv 1) (de_neg de_int)))))
      (ds_cons (ds_for2 4 5 sc_price_of.nd (passes_of rfl) (di_zipA T.b_zip (da_cons (dv 1) (da_cons (de_sliceT (dv 1) (do_some de_int) do_none) da_nil)))
      (ds_one (ds_set (i := 3) sc_price_of.nd (de_add (dv 3) (de_ix (de_ix (dv 2) (dv 4)) (dv 5))))))
      (ds_one (ds_ret (dv 3))))))), ?_⟩
  obtain ⟨n, T, ns⟩ := g
  obtain ⟨hT, hn⟩ := pre
  have hT : TbOk n T := hT
  have hn : KindsIn n ns := hn
  show if decide ((((ns.map D.int).length : Nat) : Int) = 0) = true then _ else _
  refine ite2 (fun h => ?_) (fun h => ?_)
  · have h := of_decide_eq_true h
    rw [List.length_map] at h
    have : ns = [] := List.length_eq_zero_iff.mp (by omega)
    subst this
    rfl
  have hl : 0 < ns.length := Nat.pos_of_ne_zero fun z => h (decide_eq_true (by rw [List.length_map, z]; rfl))
  have hne : ns ≠ [] := List.length_pos_iff.mp hl
  have h9 : ns.length - 1 < ns.length := by omega
  try dsimp only [rNx]
  refine sAsg (d := .tup (T.t.map dTup)) (fun Q h => pr_turns (fun _ h' => h') h) ?_
  refine sAsg (d := .int (g0 T.b (ns.getD 0 0) + g0 T.e (ns.getD (ns.length - 1) 0))) (fun Q h => ?_) ?_
  · dsimp only [N.r2]
    refine pr_begins (T := T) (fun _ h' => h') ?_
    refine ⟨.int (ns.getD 0 0), at_ints' hl, _, at_g0 hT.b (kin hn hl), ?_⟩
    dsimp only [N.r2]
    refine pr_ends (T := T) (fun _ h' => h') ?_
    exact ⟨_, atI_last hne, _, at_g0 hT.e (kin hn h9), h⟩
  have ec : N.cutD (ns.map D.int) (some 1) none = (ns.drop 1).map D.int := (cut_from (n := 1) (by rw [List.length_map]; omega)).trans (by rw [List.map_drop])
  refine ⟨ns.map D.int, rfl, ?_⟩
  refine ⟨true, _, _, ns.map D.int, (ns.drop 1).map D.int, rfl, rfl, congrArg (fun z => some (true, z)) ec, ?_⟩
  have em : min (ns.map D.int).length ((ns.drop 1).map D.int).length = ns.length - 1 := by rw [List.length_map, List.length_map, List.length_drop]; omega
  refine ⟨fun k ρ => ∃ s4 s5, ρ = [.v (tabI K T), .v (dTup ns), .v (.tup (T.t.map dTup)), .v (.int (g0 T.b (ns.getD 0 0) + g0 T.e (ns.getD (ns.length - 1) 0) + stepsTo T.t ns k)), s4, s5], ⟨_, _, by show _ = _; rw [show stepsTo T.t ns 0 = 0 from rfl, Int.add_zero]; rfl⟩, fun _ _ _ _ => ⟨trivial, trivial⟩, ?_, ?_⟩
  · rintro k d ρ hk ⟨x, y, hx, hy, rfl⟩ ⟨s4, s5, rfl⟩
    obtain ⟨h1, rfl⟩ := int_at hx
    rw [List.map_drop, List.getElem?_drop, Nat.add_comm] at hy
    obtain ⟨h2, rfl⟩ := int_at hy
    exact ⟨_, (at_row hT (kin hn h1).1 (kin hn h1).2).1, _, at_tt hT (kin hn h1) (kin hn h2), _, _, by rw [show stepsTo T.t ns (k + 1) = stepsTo T.t ns k + tt T.t (ns.getD k 0) (ns.getD (k + 1) 0) from rfl, ← Int.add_assoc]; rfl⟩
  · rw [em]
    rintro ρ ⟨s4, s5, rfl⟩
    show D.int _ = D.int (priceOf T ns)
    unfold priceOf
    rw [if_neg hne]
theorem has_price_of (T : Tx K mg) (h_Table_turns : HasPr P w K mg base (He.ga K "Table") "turns" 1 (spF K (sp_Table_turns K))) (h_Table_begins : HasPr P w K mg base (He.ga K "Table") "begins" 1 (spF K (sp_Table_begins K))) (h_Table_ends : HasPr P w K mg base (He.ga K "Table") "ends" 1 (spF K (sp_Table_ends K))) {f : Addr} {fd : FuncData} (F : Fd K "price_of" s_price_of [] f fd) (gm : mg "price_of" = some (.ref f)) : Has P w K mg base "price_of" 3 ["table", "pieces"] (spF K (sp_price_of K)) := by
  exact has_of F gm (ok_price_of T  h_Table_turns h_Table_begins h_Table_ends F) fun _ _ _ _ _ _ us hl => match us, hl with | [_, _], _ => rfl
def sp_over_of (K : PySem.W.Frag) : FS := { α := Nat × Tb × List Int, args := fun g => [tabI K g.2.1, dTup g.2.2], pre := fun g => TbOk g.1 g.2.1 ∧ KindsIn g.1 g.2.2, post := fun g r => r = .int (overOf g.2.1 g.2.2) }
/-! over_of -/
abbrev s_over_of : Stmt := topS 49
abbrev n_over_of : List Str := ["table", "pieces", "turns", "total", "kind"]
theorem sc_over_of : FnScope n_over_of ["table", "pieces"] (defScope s_over_of) := ⟨rfl, rfl, rfl, by decide +kernel, rfl, by decide +kernel, by decide +kernel⟩
theorem ok_over_of (T : Tx K mg) (h_Table_turns : HasPr P w K mg base (He.ga K "Table") "turns" 1 (spF K (sp_Table_turns K))) (h_price_of : Has P w K mg base "price_of" 3 ["table", "pieces"] (spF K (sp_price_of K))) {f : Addr} {fd : FuncData} (F : Fd K "over_of" s_over_of [] f fd) : FnOk P w K mg base (L2N.CX P w) 4 f fd ["table", "pieces"] (spF K (sp_over_of K)) := by
  refine fn_ok F sc_over_of (sp_over_of K) (fun _ => rfl) fun cdv A outer s H E g hr pre hx => ?_
  refine ⟨_, (ds_cons (ds_set (i := 2) sc_over_of.nd (de_prop T.cl_Table h_Table_turns (hr.mono (by decide : 2 ≤ 3)) (dv 0)))
      (ds_cons (ds_set (i := 3) sc_over_of.nd (de_call h_price_of hr (da_cons (dv 0) (da_cons (dv 1) da_nil))))
      (ds_cons (ds_for (passes_of rfl) (di_seq (dv 1)) (dg 4 sc_over_of.nd)
      (ds_one (ds_set (i := 3) sc_over_of.nd (de_sub (dv 3) (de_ix (de_ix (dv 2) (dv 4)) (dv 4))))))
      (ds_one (ds_ret (dv 3)))))), ?_⟩
  obtain ⟨n, T, ns⟩ := g
  obtain ⟨hT, hn⟩ := pre
  have hT : TbOk n T := hT
  have hn : KindsIn n ns := hn
  refine sAsg (d := .tup (T.t.map dTup)) (fun Q h => pr_turns (fun _ h' => h') h) ?_
  refine ⟨(n, T, ns), rfl, ⟨hT, hn⟩, fun r hr => ?_, fun _ h => h.elim⟩
  have hr : r = .int (priceOf T ns) := hr
  subst hr
  refine ⟨fun k ρ => ∃ s4, ρ = [.v (tabI K T), .v (dTup ns), .v (.tup (T.t.map dTup)), .v (.int (priceOf T ns - staysTo T.t ns k)), s4], ⟨_, by rw [show staysTo T.t ns 0 = 0 from rfl, Int.sub_zero]; rfl⟩, fun _ _ _ _ => trivial, ?_, ?_⟩
  · rintro k d ρ hk hx ⟨s4, rfl⟩
    have hx : (ns.map D.int)[k]? = some d := hx
    obtain ⟨h1, rfl⟩ := int_at hx
    exact ⟨_, (at_row hT (kin hn h1).1 (kin hn h1).2).1, _, at_tt hT (kin hn h1) (kin hn h1), _, by rw [show staysTo T.t ns (k + 1) = staysTo T.t ns k + tt T.t (ns.getD k 0) (ns.getD k 0) from rfl, ← Int.sub_sub]; rfl⟩
  · rintro ρ ⟨s4, rfl⟩
    show D.int (priceOf T ns - staysTo T.t ns (ns.map D.int).length) = D.int (overOf T ns)
    rw [List.length_map]
    rfl
theorem has_over_of (T : Tx K mg) (h_Table_turns : HasPr P w K mg base (He.ga K "Table") "turns" 1 (spF K (sp_Table_turns K))) (h_price_of : Has P w K mg base "price_of" 3 ["table", "pieces"] (spF K (sp_price_of K))) {f : Addr} {fd : FuncData} (F : Fd K "over_of" s_over_of [] f fd) (gm : mg "over_of" = some (.ref f)) : Has P w K mg base "over_of" 4 ["table", "pieces"] (spF K (sp_over_of K)) := by
  exact has_of F gm (ok_over_of T  h_Table_turns h_price_of F) fun _ _ _ _ _ _ us hl => match us, hl with | [_, _], _ => rfl
end
end Q
/-! C11 -/
set_option Elab.async false
set_option linter.all false
set_option maxRecDepth 100000
set_option maxHeartbeats 8000000
namespace Q
open PySem PySem.Spec PyProof.Rows L2 N
section
variable {P : Program} {w : World} {K : PySem.W.Frag} {mg : Str → Option Value} {base : Heap}
/-! orders and lots of the house -/
def sp_are_kinds : FS := { α := D × Int, args := fun g => [g.1, .int g.2], pre := fun g => RowIn g.1 ∧ (rowOf g.1).isSome = true, post := fun g r => r = .bl (((rowOf g.1).getD []).all (isK g.2)) }
/-! is_list -/
abbrev s_is_list : Stmt := topS 45
abbrev n_is_list : List Str := ["value"]
theorem sc_is_list : FnScope n_is_list ["value"] (defScope s_is_list) := ⟨rfl, rfl, rfl, by decide +kernel, rfl, by decide +kernel, by decide +kernel⟩
theorem ok_is_list (T : Tx K mg) {f : Addr} {fd : FuncData} (F : Fd K "is_list" s_is_list [] f fd) : FnOk P w K mg base (L2N.CX P w) 1 f fd ["value"] (spF K sp_is_list) := by
  refine fn_ok F sc_is_list sp_is_list (fun _ => rfl) fun cdv A outer s H E g hr pre hx => ?_
  refine ⟨_, (ds_one (ds_ret (de_isi2 T.b_isinstance (da_cons (dv 0) (da_cons (de_tup (da_cons (de_ty T.b_list bt_list) (da_cons (de_ty T.b_tuple bt_tuple) da_nil))) da_nil))))), ?_⟩
  cases g <;> first | exact rfl | cases pre
theorem has_is_list (T : Tx K mg) {f : Addr} {fd : FuncData} (F : Fd K "is_list" s_is_list [] f fd) (gm : mg "is_list" = some (.ref f)) : Has P w K mg base "is_list" 1 ["value"] (spF K sp_is_list) := by
  exact has_of F gm (ok_is_list T   F) fun _ _ _ _ _ _ us hl => match us, hl with | [_], _ => rfl
/-! are_kinds -/
abbrev s_are_kinds : Stmt := topS 46
abbrev n_are_kinds : List Str := ["values", "many", "value"]
theorem sc_are_kinds : FnScope n_are_kinds ["values", "many"] (defScope s_are_kinds) := ⟨rfl, rfl, rfl, by decide +kernel, rfl, by decide +kernel, by decide +kernel⟩
theorem ok_are_kinds (T : Tx K mg) (h_is_whole_rows : Has P w K mg base "is_whole_rows" 1 ["value"] (spF K sp_is_whole)) {f : Addr} {fd : FuncData} (F : Fd K "are_kinds" s_are_kinds [] f fd) : FnOk P w K mg base (L2N.CX P w) 2 f fd ["values", "many"] (spF K sp_are_kinds) := by
  refine fn_ok F sc_are_kinds sp_are_kinds (fun _ => rfl) fun cdv A outer s H E g hr pre hx => ?_
  refine ⟨_, (ds_cons (ds_for (passes_of rfl) (di_seq (dv 0)) (dg 2 sc_are_kinds.nd)
      (ds_one (ds_if ((dw_or (dt_not (dt_val (de_call h_is_whole_rows hr (da_cons (dv 2) da_nil)))) (dw_or (dt_lt (dv 2) de_int) (dw_or1 (dt_ge (dv 2) (dv 1)))))).dt
      (ds_one (ds_ret de_bl))
      ds_nil)))
      (ds_one (ds_ret de_bl))), ?_⟩
  obtain ⟨d0, m⟩ := g
  obtain ⟨⟨_, p2⟩, p3⟩ := pre
  cases er : rowOf d0 with
  | none => (rw [show rowOf (d0, m).1 = rowOf d0 from rfl, er] at p3; cases p3)
  | some ds =>
  have pre : ∀ x ∈ ds, (ty7 x).isSome = true := p2 ds er
  clear p2 p3
  rcases rowOf_el er with rfl | rfl <;> (
    refine ⟨fun k ρ => (∃ kk : Slot, ρ = [.v _, .v (.int m), kk]) ∧ ∀ x ∈ ds.take k, isK m x = true, ⟨⟨_, rfl⟩, fun x hx => by simp at hx⟩, fun _ _ _ _ => trivial, ?_, ?_⟩
    · rintro k d ρ hk hd ⟨⟨kk, rfl⟩, hall⟩
      have hd : ds[k]? = some d := hd
      have hm := List.mem_of_getElem? hd
      refine rif (isK m d = false) (fun A' F' hA hF => ?_) (fun h => ?_) (fun h => ?_)
      · refine ⟨d, rfl, pre d hm, fun r hr => ?_, fun _ h => h.elim⟩
        have hr : r = .bl (isW d) := hr
        subst hr
        have pd := pre d hm
        cases d with
        | int i =>
          show if decide (i < (0 : Int)) = true then _ else _
          refine ite2 (fun h => hA ?_) (fun h => ?_)
          · exact decide_eq_false fun z => by have := of_decide_eq_true h; omega
          · show if decide (m ≤ i) = true then _ else _
            refine ite2 (fun h2 => hA ?_) (fun h2 => hF ?_)
            · exact decide_eq_false fun z => by have := of_decide_eq_true h2; omega
            · intro z
              have z : decide (0 ≤ i ∧ i < m) = false := z
              have := of_decide_eq_false z
              have h3 : ¬ i < 0 := fun y => h (decide_eq_true y)
              have h4 : ¬ m ≤ i := fun y => h2 (decide_eq_true y)
              omega
        | _ => first | exact hA rfl | cases pd
      · show D.bl false = D.bl (ds.all (isK m))
        have : ds.all (isK m) = false := by
          rw [List.all_eq_false]
          exact ⟨d, hm, by rw [h]; exact Bool.false_ne_true⟩
        rw [this]
      · have h2 : isK m d = true := by simpa using h
        refine ⟨⟨_, rfl⟩, fun x hx => ?_⟩
        rw [List.take_add_one, hd] at hx
        rcases List.mem_append.mp hx with h | h
        · exact hall x h
        · rw [List.mem_singleton.mp h]
          exact h2
    · rintro ρ ⟨⟨kk, rfl⟩, hall⟩
      show D.bl true = D.bl (ds.all (isK m))
      rw [all_step hall (Nat.le_refl _)])
theorem has_are_kinds (T : Tx K mg) (h_is_whole_rows : Has P w K mg base "is_whole_rows" 1 ["value"] (spF K sp_is_whole)) {f : Addr} {fd : FuncData} (F : Fd K "are_kinds" s_are_kinds [] f fd) (gm : mg "are_kinds" = some (.ref f)) : Has P w K mg base "are_kinds" 2 ["values", "many"] (spF K sp_are_kinds) := by
  exact has_of F gm (ok_are_kinds T  h_is_whole_rows F) fun _ _ _ _ _ _ us hl => match us, hl with | [_, _], _ => rfl
theorem rRetTup {i : Nat} {d : D} {ds : List D} {ρ : En} {e : DEnds} (h : ρ[i]? = some (.v d)) (hd : rowOf d = some ds) (q : e.rt (.tup ds) ρ) : rRet (rA (rCons (rVar i) rNil) oTup) e ρ := rTup_of h hd q
theorem in_ints {k : Int} {ns : List Int} : decide (k ∈ ns) = true ↔ k ∈ ns := decide_eq_true_iff
def ordIn (ds : List D) : Bool := ds.all (isK (ds.length : Nat)) && (List.range ds.length).all fun k => decide (((k : Nat) : Int) ∈ ds.map toI)
def isOrd (lo hi : Int) (d : D) : Bool := match rowOf d with
  | some ds => decide (lo ≤ ((ds.length : Nat) : Int) ∧ ((ds.length : Nat) : Int) ≤ hi) && ordIn ds
  | none => false
/-- an order of n kinds -/
def OrdV (n : Nat) (ns : List Int) : Prop := ns.length = n ∧ KindsIn n ns ∧ ∀ k : Nat, k < n → (k : Int) ∈ ns
theorem isOrd_el {lo hi : Int} {d : D} (h : isOrd lo hi d = true) : ∃ ns : List Int, rowOf d = some (ns.map D.int) ∧ lo ≤ (ns.length : Nat) ∧ ((ns.length : Nat) : Int) ≤ hi ∧ OrdV ns.length ns := by
  unfold isOrd at h
  cases e : rowOf d with
  | none => rw [e] at h; cases h
  | some ds =>
    rw [e] at h
    obtain ⟨h1, h2⟩ := Bool.and_eq_true_iff.mp h
    obtain ⟨h2, h3⟩ := Bool.and_eq_true_iff.mp h2
    have h1 := of_decide_eq_true h1
    obtain ⟨ns, rfl, hn⟩ := ints_of fun x hx => List.all_eq_true.mp h2 x hx
    rw [List.length_map] at h1 hn h3
    refine ⟨ns, rfl, h1.1, h1.2, rfl, hn, fun k hk => ?_⟩
    have := of_decide_eq_true (List.all_eq_true.mp h3 k (List.mem_range.mpr hk))
    rwa [toI_map] at this
def sp_checked_order (K : PySem.W.Frag) : FS := { α := D × Int × Int, args := fun g => [g.1, .int g.2.1, .int g.2.2], pre := fun g => RowIn g.1 ∧ 0 ≤ g.2.1 ∧ g.2.2 ≤ 8, post := fun g r => isOrd g.2.1 g.2.2 g.1 = true ∧ r = tupR g.1, exc := fun g x => isOrd g.2.1 g.2.2 g.1 = false ∧ x = exBad K "BadOrder" }
/-! checked_order -/
abbrev s_checked_order : Stmt := topS 51
abbrev n_checked_order : List Str := ["order", "least", "most", "kind"]
theorem sc_checked_order : FnScope n_checked_order ["order", "least", "most"] (defScope s_checked_order) := ⟨rfl, rfl, rfl, by decide +kernel, rfl, by decide +kernel, by decide +kernel⟩
theorem ok_checked_order (T : Tx K mg) (h_is_list : Has P w K mg base "is_list" 1 ["value"] (spF K sp_is_list)) (h_are_kinds : Has P w K mg base "are_kinds" 2 ["values", "many"] (spF K sp_are_kinds)) {f : Addr} {fd : FuncData} (F : Fd K "checked_order" s_checked_order [] f fd) : FnOk P w K mg base (L2N.CX P w) 3 f fd ["order", "least", "most"] (spF K (sp_checked_order K)) := by
  refine fn_ok F sc_checked_order (sp_checked_order K) (fun _ => rfl) fun cdv A outer s H E g hr pre hx => ?_
  refine ⟨_, (ds_cons (ds_if ((dw_or (dt_not (dt_val (de_call h_is_list (hr.mono (by decide : 1 ≤ 2)) (da_cons (dv 0) da_nil)))) (dw_or (dt_lt (de_len T.b_len (da_cons (dv 0) da_nil)) (dv 1)) (dw_or1 (dt_gt (de_len T.b_len (da_cons (dv 0) da_nil)) (dv 2)))))).dt
      (ds_one (ds_raise (L2N.takes_of rfl rfl rfl rfl) hx PySem.F.excBase_ValueError T.x_BadOrder.1 T.c_BadOrder T.x_BadOrder.2.1 (raises_own T.x_BadOrder.2.2.1 T.x_BadOrder.2.2.2)))
      ds_nil)
      (ds_cons (ds_if (dt_not (dt_val (de_call h_are_kinds hr (da_cons (dv 0) (da_cons (de_len T.b_len (da_cons (dv 0) da_nil)) da_nil)))))
      (ds_one (ds_raise (L2N.takes_of rfl rfl rfl rfl) hx PySem.F.excBase_ValueError T.x_BadOrder.1 T.c_BadOrder T.x_BadOrder.2.1 (raises_own T.x_BadOrder.2.2.1 T.x_BadOrder.2.2.2)))
      ds_nil)
      (ds_cons (ds_for (passes_of rfl) (di_range1 T.b_range (da_cons (de_len T.b_len (da_cons (dv 0) da_nil)) da_nil)) (dg 3 sc_checked_order.nd)
      (ds_one (ds_if (dt_notin (dv 3) (dv 0))
      (ds_one (ds_raise (L2N.takes_of rfl rfl rfl rfl) hx PySem.F.excBase_ValueError T.x_BadOrder.1 T.c_BadOrder T.x_BadOrder.2.1 (raises_own T.x_BadOrder.2.2.1 T.x_BadOrder.2.2.2)))
      ds_nil)))
      (ds_one (ds_ret (de_tuple T.b_tuple (da_cons (dv 0) da_nil))))))), ?_⟩
  obtain ⟨d, lo, hi⟩ := g
  obtain ⟨⟨p1, p2⟩, h0, h8⟩ := pre
  have h0 : 0 ≤ lo := h0
  have h8 : hi ≤ 8 := h8
  refine ⟨d, rfl, p1, fun r hr => ?_, fun _ h => h.elim⟩
  have hr : r = .bl (isL d) := hr
  subst hr
  cases er : rowOf d with
  | none =>
    have e : isOrd lo hi d = false := by unfold isOrd; rw [er]
    cases d with
    | tup ds => cases er
    | lst ds => cases er
    | _ => first | exact ⟨e, rfl⟩ | cases p1
  | some ds =>
    have p3 : ∀ x ∈ ds, (ty7 x).isSome = true := p2 ds er
    have el : isOrd lo hi d = (decide (lo ≤ ((ds.length : Nat) : Int) ∧ ((ds.length : Nat) : Int) ≤ hi) && (ds.all (isK (ds.length : Nat)) && (List.range ds.length).all fun k => decide (((k : Nat) : Int) ∈ ds.map toI))) := by unfold isOrd; rw [er]; rfl
    rcases rowOf_el er with rfl | rfl <;> (
      show if decide (((ds.length : Nat) : Int) < lo) = true then _ else _
      refine ite2 (fun h => ⟨by rw [el, decide_eq_false (fun z => by have := of_decide_eq_true h; omega)]; rfl, rfl⟩) (fun h => ?_)
      have h : ¬ ((ds.length : Nat) : Int) < lo := fun z => h (decide_eq_true z)
      show if decide (hi < ((ds.length : Nat) : Int)) = true then _ else _
      refine ite2 (fun h2 => ⟨by rw [el, decide_eq_false (fun z => by have := of_decide_eq_true h2; omega)]; rfl, rfl⟩) (fun h2 => ?_)
      have h2 : ¬ hi < ((ds.length : Nat) : Int) := fun z => h2 (decide_eq_true z)
      rw [decide_eq_true (by omega), Bool.true_and] at el
      dsimp only [rNx]
      refine ⟨(_, (ds.length : Nat)), rfl, ⟨⟨p1, p2⟩, rfl⟩, fun r hr => ?_, fun _ h => h.elim⟩
      have hr : r = .bl (ds.all (isK (ds.length : Nat))) := hr
      subst hr
      show if (!ds.all (isK (ds.length : Nat))) = true then _ else _
      refine ite2 (fun h3 => ⟨by rw [el, show ds.all (isK (ds.length : Nat)) = false by simpa using h3]; rfl, rfl⟩) (fun h3 => ?_)
      have h3 : ds.all (isK (ds.length : Nat)) = true := by simpa using h3
      rw [h3, Bool.true_and] at el
      dsimp only [rNx]
      obtain ⟨ns, rfl, hn⟩ := ints_of fun x hx => List.all_eq_true.mp h3 x hx
      rw [List.length_map, toI_map] at el
      refine ⟨by decide, by decide, by show (-(2 ^ 62) : Int) ≤ ((ns.map D.int).length : Nat); omega, by show (((ns.map D.int).length : Nat) : Int) < 2 ^ 62; omega, fun k ρ => (∃ s, ρ = [.v _, .v (.int lo), .v (.int hi), s]) ∧ ∀ j : Nat, j < k → ((j : Nat) : Int) ∈ ns, ⟨⟨_, rfl⟩, fun j hj => absurd hj (Nat.not_lt_zero _)⟩, fun _ _ _ _ => trivial, ?_, ?_⟩
      · rintro k d ρ hk hd ⟨⟨s, rfl⟩, hall⟩
        have hd : d = .int (0 + (k : Int)) := hd
        subst hd
        have hk : k < ((((ns.map D.int).length : Nat) : Int) - 0).toNat := hk
        rw [List.length_map] at hk
        refine ⟨_, _, ns, rfl, rfl, ?_⟩
        show if (!decide ((0 + (k : Int)) ∈ ns)) = true then _ else _
        rw [Int.zero_add]
        refine ite2 (fun h4 => ⟨?_, rfl⟩) (fun h4 => ⟨⟨_, rfl⟩, fun j hj => ?_⟩)
        · rw [el, List.all_eq_false]
          exact ⟨k, List.mem_range.mpr (by omega), by simpa using h4⟩
        · have h4 : (k : Int) ∈ ns := by simpa using h4
          by_cases e : j = k
          · rw [e]; exact h4
          · exact hall j (by omega)
      rintro ρ ⟨⟨s, rfl⟩, hall⟩
      have hall : ∀ j : Nat, j < ((((ns.map D.int).length : Nat) : Int) - 0).toNat → (j : Int) ∈ ns := hall
      rw [List.length_map] at hall
      dsimp only
      refine rRetTup (i := 0) rfl er ?_
      refine ⟨?_, ?_⟩
      · rw [el]
        exact List.all_eq_true.mpr fun j hj => decide_eq_true (hall j (by have := List.mem_range.mp hj; omega))
      · unfold tupR
        rw [er]
        rfl)
theorem has_checked_order (T : Tx K mg) (h_is_list : Has P w K mg base "is_list" 1 ["value"] (spF K sp_is_list)) (h_are_kinds : Has P w K mg base "are_kinds" 2 ["values", "many"] (spF K sp_are_kinds)) {f : Addr} {fd : FuncData} (F : Fd K "checked_order" s_checked_order [] f fd) (gm : mg "checked_order" = some (.ref f)) : Has P w K mg base "checked_order" 3 ["order", "least", "most"] (spF K (sp_checked_order K)) := by
  exact has_of F gm (ok_checked_order T  h_is_list h_are_kinds F) fun _ _ _ _ _ _ us hl => match us, hl with | [_, _, _], _ => rfl
end
end Q
/-! C12 -/
set_option Elab.async false
set_option linter.all false
set_option maxRecDepth 100000
set_option maxHeartbeats 8000000
namespace Q
open PySem PySem.Spec PyProof.Rows L2 N
section
variable {P : Program} {w : World} {K : PySem.W.Frag} {mg : Str → Option Value} {base : Heap}
theorem len_le_of : ∀ {l r : List Int}, l.Nodup → (∀ x ∈ l, x ∈ r) → l.length ≤ r.length
  | [], _, _, _ => Nat.zero_le _
  | x :: l, r, h, hs => by
    obtain ⟨h1, h2⟩ := List.nodup_cons.mp h
    have hx := hs x List.mem_cons_self
    have ih := len_le_of (l := l) (r := r.erase x) h2 fun y hy => by
      have hne : y ≠ x := fun z => h1 (z ▸ hy)
      exact (List.mem_erase_of_ne hne).mpr (hs y (List.mem_cons_of_mem _ hy))
    rw [List.length_erase_of_mem hx] at ih
    have := List.length_pos_of_mem hx
    rw [List.length_cons]
    omega
/-! lots, level by level -/
def nxt (ns lot : List Int) : List (List Int) := (ns.filter fun k => decide (lot.getLastD 0 < k)).map fun k => lot ++ [k]
def lvl (ns : List Int) : Nat → List (List Int)
  | 0 => ns.map fun k => [k]
  | j + 1 => (lvl ns j).flatMap (nxt ns)
def lotsTo (ns : List Int) (j : Nat) : List (List Int) := (List.range j).flatMap (lvl ns)
def lotsOf (ns : List Int) : List (List Int) := lotsTo ns ns.length
theorem lotsTo_succ (ns : List Int) (j : Nat) : lotsTo ns (j + 1) = lotsTo ns j ++ lvl ns j := by
  unfold lotsTo
  rw [List.range_succ, List.flatMap_append]
  simp
theorem lvl_stay {ns : List Int} {j : Nat} (h : lvl ns j = []) : ∀ i, j ≤ i → lvl ns i = [] := fun i hi => by
  induction i with
  | zero =>
    obtain rfl : j = 0 := by omega
    exact h
  | succ i ih =>
    by_cases e : j = i + 1
    · rw [← e]; exact h
    · rw [lvl, ih (by omega)]
      rfl
theorem lotsTo_stay {ns : List Int} {j : Nat} (h : lvl ns j = []) : ∀ i, j ≤ i → lotsTo ns i = lotsTo ns j := fun i hi => by
  induction i with
  | zero =>
    obtain rfl : j = 0 := by omega
    rfl
  | succ i ih =>
    by_cases e : j = i + 1
    · rw [e]
    · rw [lotsTo_succ, lvl_stay h i (by omega), List.append_nil, ih (by omega)]
theorem last_le : ∀ {l : List Int}, l.Pairwise (· < ·) → ∀ x ∈ l, x ≤ l.getLastD 0
  | [], _, x, h => by simp at h
  | [a], _, x, h => by rw [List.mem_singleton.mp h]; exact Int.le_refl _
  | a :: b :: l, hp, x, h => by
    obtain ⟨p1, p2⟩ := List.pairwise_cons.mp hp
    have ih := last_le p2
    show x ≤ (b :: l).getLastD 0
    rcases List.mem_cons.mp h with rfl | h
    · have h1 := p1 b List.mem_cons_self
      have h2 := ih b List.mem_cons_self
      omega
    · exact ih x h
theorem lvl_ok {ns : List Int} : ∀ {j : Nat} {lot : List Int}, lot ∈ lvl ns j → lot.length = j + 1 ∧ lot.Pairwise (· < ·) ∧ ∀ x ∈ lot, x ∈ ns
  | 0, lot, h => by
    obtain ⟨k, hk, rfl⟩ := List.mem_map.mp h
    exact ⟨rfl, List.pairwise_singleton _ _, fun x hx => by rw [List.mem_singleton.mp hx]; exact hk⟩
  | j + 1, lot, h => by
    rw [lvl] at h
    obtain ⟨l, hl, hm⟩ := List.mem_flatMap.mp h
    obtain ⟨k, hk, rfl⟩ := List.mem_map.mp hm
    obtain ⟨k1, k2⟩ := List.mem_filter.mp hk
    have k2 := of_decide_eq_true k2
    obtain ⟨h1, h2, h3⟩ := lvl_ok hl
    refine ⟨by rw [List.length_append, h1]; rfl, ?_, fun x hx => ?_⟩
    · rw [List.pairwise_append]
      refine ⟨h2, List.pairwise_singleton _ _, fun a ha b hb => ?_⟩
      rw [List.mem_singleton.mp hb]
      have := last_le h2 a ha
      omega
    · rcases List.mem_append.mp hx with h | h
      · exact h3 x h
      · rw [List.mem_singleton.mp h]; exact k1
theorem lvl_nil {ns : List Int} {j : Nat} (h : ns.length ≤ j) : lvl ns j = [] := by
  cases e : lvl ns j with
  | nil => rfl
  | cons l r =>
    obtain ⟨h1, h2, h3⟩ := lvl_ok (ns := ns) (j := j) (lot := l) (by rw [e]; exact List.mem_cons_self)
    have := len_le_of (h2.imp fun h => Int.ne_of_lt h) h3
    omega
theorem nxt_len {ns lot : List Int} (hp : ns.Pairwise (· < ·)) (h2 : lot.Pairwise (· < ·)) (hs : ∀ x ∈ lot, x ∈ ns) : (nxt ns lot).length + lot.length ≤ ns.length := by
  unfold nxt
  rw [List.length_map, Nat.add_comm, ← List.length_append]
  refine len_le_of ?_ fun x hx => ?_
  · refine List.nodup_append.mpr ⟨h2.imp fun h => Int.ne_of_lt h, (hp.imp fun h => Int.ne_of_lt h).sublist (List.filter_sublist), fun a ha b hb => ?_⟩
    have h3 := last_le h2 a ha
    have h4 := of_decide_eq_true (List.mem_filter.mp hb).2
    omega
  · rcases List.mem_append.mp hx with h | h
    · exact hs x h
    · exact (List.mem_filter.mp h).1
theorem flatMap_len {α β : Type} {f : α → List β} {c : Nat} : ∀ {l : List α}, (∀ x ∈ l, (f x).length ≤ c) → (l.flatMap f).length ≤ c * l.length
  | [], _ => by simp
  | a :: l, h => by
    have h1 := h a List.mem_cons_self
    have h2 := flatMap_len (f := f) (c := c) (l := l) fun x hx => h x (List.mem_cons_of_mem _ hx)
    rw [List.flatMap_cons, List.length_append, List.length_cons, Nat.mul_add, Nat.mul_one]
    omega
def facF : Nat → Nat
  | 0 => 8
  | j + 1 => (7 - j) * facF j
theorem nxt_7 {ns lot : List Int} {j : Nat} (hp : ns.Pairwise (· < ·)) (h8 : ns.length ≤ 8) (hl : lot ∈ lvl ns j) : (nxt ns lot).length ≤ 7 - j := by
  obtain ⟨a, b, c⟩ := lvl_ok hl
  have := nxt_len hp b c
  omega
theorem lvl_fac {ns : List Int} (hp : ns.Pairwise (· < ·)) (h8 : ns.length ≤ 8) : ∀ j, (lvl ns j).length ≤ facF j
  | 0 => by rw [lvl, List.length_map]; exact h8
  | j + 1 => by
    have ih := lvl_fac hp h8 j
    have h1 : (lvl ns (j + 1)).length ≤ (7 - j) * (lvl ns j).length := by
      rw [lvl]
      exact flatMap_len fun lot hl => nxt_7 hp h8 hl
    exact Nat.le_trans h1 (Nat.mul_le_mul_left _ ih)
theorem lvl_len {ns : List Int} (hp : ns.Pairwise (· < ·)) (h8 : ns.length ≤ 8) (j : Nat) : (lvl ns j).length ≤ 40320 := by
  by_cases h : ns.length ≤ j
  · rw [lvl_nil h]
    decide
  · have h1 := lvl_fac hp h8 j
    have h2 : ∀ j : Fin 8, facF j.val ≤ 40320 := by decide
    exact Nat.le_trans h1 (h2 ⟨j, by omega⟩)
theorem lotsTo_len {ns : List Int} (hp : ns.Pairwise (· < ·)) (h8 : ns.length ≤ 8) : ∀ j, (lotsTo ns j).length ≤ 40320 * j
  | 0 => by simp [lotsTo]
  | j + 1 => by
    have ih := lotsTo_len hp h8 j
    have h1 := lvl_len hp h8 j
    rw [lotsTo_succ, List.length_append]
    omega
def sp_lots_among : FS := { α := List Int, args := fun ns => [.lst (ns.map D.int)], pre := fun ns => ns.length ≤ 8 ∧ ns.Pairwise (· < ·), post := fun ns r => r = .tup ((lotsOf ns).map dTup) }
/-! lots_among -/
abbrev s_lots_among : Stmt := topS 38
abbrev n_lots_among : List Str := ["kinds", "found", "layer", "kind", "lot"]
theorem sc_lots_among : FnScope n_lots_among ["kinds"] (defScope s_lots_among) := ⟨rfl, rfl, rfl, by decide +kernel, rfl, by decide +kernel, by decide +kernel⟩
theorem ok_lots_among (T : Tx K mg) {f : Addr} {fd : FuncData} (F : Fd K "lots_among" s_lots_among [] f fd) : FnOk P w K mg base (L2N.CX P w) 1 f fd ["kinds"] (spF K sp_lots_among) := by
  refine fn_ok F sc_lots_among sp_lots_among (fun _ => rfl) fun cdv A outer s H E g hr pre hx => ?_
  refine ⟨_, (ds_cons (ds_setO (i := 1) sc_lots_among.nd (dn_lst da_nil))
      (ds_cons (ds_setLcO (j := 2) sc_lots_among.nd (di_seq (dv 0)) (blkOk_by (own := [("kind", 3)]) (N := n_lots_among) (sc := defScope s_lots_among) (by decide +kernel)) (fun _ _ _ _ _ _ _ => dts_nil) (fun _ _ _ _ _ _ _ => (de_tup (da_cons (dv 3) da_nil))) (fun _ _ _ _ _ => pg_name (i := 3) sc_lots_among.nd rfl (Or.inl rfl)) (sw_true rfl rfl rfl (by decide +kernel)))
      (ds_cons (ds_while (passes_of rfl) (dt_truth (dv 2))
      (ds_cons (ds_expr (de_extend (dv 1) (dv 2)))
      (ds_one (ds_setLc22O (j := 2) sc_lots_among.nd (di_seq (dv 2)) (blkOk_by (own := [("lot", 4), ("kind", 3)]) (N := n_lots_among) (sc := defScope s_lots_among) (by decide +kernel)) (by decide) (fun _ _ _ _ _ _ _ => dts_nil) (fun _ _ _ _ _ _ _ => (dia_seq (dv 0))) (fun _ _ _ _ _ _ _ => (dts_one (dt_gt (dv 3) (de_ix (dv 4) (de_neg de_int))))) (fun _ _ _ _ _ _ _ => (de_catT (dv 4) (de_tup (da_cons (dv 3) da_nil)))) (fun _ _ _ _ _ => pg_name (i := 4) sc_lots_among.nd rfl (Or.inl rfl)) (fun _ _ _ _ _ => pg_name (i := 3) sc_lots_among.nd rfl (Or.inl rfl)) (sw_true rfl rfl rfl (by decide +kernel))))))
      (ds_one (ds_ret (de_tuple T.b_tuple (da_cons (dv 1) da_nil))))))), ?_⟩
  change List Int at g
  obtain ⟨h8, hp⟩ : g.length ≤ 8 ∧ g.Pairwise (· < ·) := pre
  have dl : ∀ l : List (List Int), ((l.map dTup).length : Nat) = l.length := fun l => List.length_map _
  intro q1
  refine ⟨trivial, by rw [List.length_map]; omega, fun k acc ρ => ρ = [.v (.lst (g.map D.int)), .own q1 [], .un, .un, .un] ∧ acc = ((g.take k).map fun k => [k]).map dTup, ⟨rfl, rfl⟩, fun _ _ _ _ _ => trivial, ?_, ?_⟩
  · rintro k d acc ρ hk hd ⟨rfl, rfl⟩
    have hd : (g.map D.int)[k]? = some d := hd
    rw [List.getElem?_map] at hd
    obtain ⟨x, hx, rfl⟩ := Option.map_eq_some_iff.mp hd
    refine ⟨rfl, ?_⟩
    rw [List.take_add_one, hx, List.map_append, List.map_append]
    rfl
  rintro acc ρ ⟨rfl, rfl⟩ q2
  have e0 : ((g.take (g.map D.int).length).map fun k => [k]).map dTup = (lvl g 0).map dTup := by rw [List.length_map, List.take_length]; rfl
  rw [e0]
  try dsimp only
  refine joinA (fun ρ => ∃ q1 q2, ρ = [.v (.lst (g.map D.int)), .own q1 ((lotsOf g).map dTup), .own q2 [], .un, .un]) (fun R hR => ?_) ?_
  · refine ⟨fun m ρ => ∃ j q1 q2, ρ = [.v (.lst (g.map D.int)), .own q1 ((lotsTo g j).map dTup), .own q2 ((lvl g j).map dTup), .un, .un] ∧ m = g.length - j ∧ j ≤ g.length, ⟨_, 0, q1, q2, rfl, rfl, Nat.zero_le _⟩, ?_⟩
    rintro m ρ ⟨j, q1, q2, rfl, rfl, hj⟩
    refine ⟨_, rfl, ?_⟩
    show if (!((lvl g j).map dTup).isEmpty) = true then _ else _
    refine ite2 (fun h => ?_) (fun h => ?_)
    · have hne : lvl g j ≠ [] := fun z => by rw [z] at h; cases h
      have hjl : j < g.length := Nat.lt_of_not_le fun z => hne (lvl_nil z)
      have l1 := lotsTo_len hp h8 j
      have l2 := lvl_len hp h8 j
      refine ⟨_, rfl, by rw [dl, dl]; omega, ?_⟩
      have e1 : (lotsTo g j).map dTup ++ (lvl g j).map dTup = (lotsTo g (j + 1)).map dTup := by rw [lotsTo_succ, List.map_append]
      rw [e1]
      refine ⟨trivial, trivial, fun k acc ρ => ρ = [.v (.lst (g.map D.int)), .own q1 ((lotsTo g (j + 1)).map dTup), .own q2 ((lvl g j).map dTup), .un, .un] ∧ acc = (((lvl g j).take k).flatMap (nxt g)).map dTup, ⟨rfl, rfl⟩, fun k acc ρ _ ⟨e, _⟩ => ⟨q2, rfl, by rw [e]; rfl⟩, ?_, ?_⟩
      · rintro k d acc ρ hk hd ⟨rfl, rfl⟩
        have hd : ((lvl g j).map dTup)[k]? = some d := hd
        rw [List.getElem?_map] at hd
        obtain ⟨lot, hx, rfl⟩ := Option.map_eq_some_iff.mp hd
        have hlot := List.mem_of_getElem? hx
        obtain ⟨o1, o2, o3⟩ := lvl_ok hlot
        obtain ⟨r, y, rfl⟩ := last_of (l := lot) (by omega)
        have ey : (r ++ [y]).getLastD 0 = y := by simp
        refine ⟨fun i acc ρ => ρ = [.v (.lst (g.map D.int)), .own q1 ((lotsTo g (j + 1)).map dTup), .own q2 ((lvl g j).map dTup), .un, .v (dTup (r ++ [y]))] ∧ acc = (((lvl g j).take k).flatMap (nxt g)).map dTup ++ (((g.take i).filter fun k => decide (y < k)).map fun k => (r ++ [y]) ++ [k]).map dTup, ⟨rfl, by simp⟩, fun _ _ _ _ _ => trivial, ?_, ?_⟩
        · rintro i d acc ρ hi hd ⟨rfl, rfl⟩
          have hd : (g.map D.int)[i]? = some d := hd
          rw [List.getElem?_map] at hd
          obtain ⟨x, hx2, rfl⟩ := Option.map_eq_some_iff.mp hd
          refine ⟨.int y, ?_, ?_⟩
          · show atI ((r ++ [y]).map D.int) (-1) = _
            rw [List.map_append]
            exact atI_end _ _
          have et : g.take (i + 1) = g.take i ++ [x] := by rw [List.take_add_one, hx2]; rfl
          show if decide (y < x) = true then _ else _
          refine ite2 (fun h2 => ?_) (fun h2 => ?_)
          · have b1 : ((((lvl g j).take k).flatMap (nxt g)).map dTup ++ (((g.take i).filter fun k => decide (y < k)).map fun k => (r ++ [y]) ++ [k]).map dTup).length < 16777216 := by
              have c1 : (((lvl g j).take k).flatMap (nxt g)).length ≤ 7 * ((lvl g j).take k).length := flatMap_len fun lot hl => by
                have := nxt_7 hp h8 (List.mem_of_mem_take hl)
                omega
              have c2 := List.length_filter_le (fun k => decide (y < k)) (g.take i)
              have c3 : ((lvl g j).take k).length ≤ (lvl g j).length := by rw [List.length_take]; omega
              have c4 : (g.take i).length ≤ g.length := by rw [List.length_take]; omega
              rw [List.length_append, List.length_map, List.length_map, List.length_map]
              omega
            refine ⟨by show ((r ++ [y]).map D.int).length + 1 ≤ 16777216; rw [List.length_map, o1]; omega, b1, rfl, ?_⟩
            have ef : ((g.take (i + 1)).filter fun k => decide (y < k)) = ((g.take i).filter fun k => decide (y < k)) ++ [x] := by
              rw [et, List.filter_append, List.filter_cons_of_pos (p := fun k => decide (y < k)) (l := []) h2]
              rfl
            have eg : ∀ F : List Int, List.map dTup (List.map (fun k => r ++ [y] ++ [k]) (F ++ [x])) = List.map dTup (List.map (fun k => r ++ [y] ++ [k]) F) ++ [dTup (r ++ [y] ++ [x])] := fun F => by
              rw [List.map_append, List.map_append]
              rfl
            have eh : D.tup (List.map D.int (r ++ [y]) ++ [D.int x]) = dTup (r ++ [y] ++ [x]) := by
              unfold dTup
              rw [List.map_append (l₁ := r ++ [y]) (l₂ := [x])]
              rfl
            rw [ef, eg, ← List.append_assoc, ← eh]
          · exact ⟨rfl, by rw [et, List.filter_append, List.filter_cons_of_neg (p := fun k => decide (y < k)) (l := []) h2]; simp⟩
        · rintro acc ρ ⟨rfl, rfl⟩
          refine ⟨rfl, ?_⟩
          have ek : (lvl g j).take (k + 1) = (lvl g j).take k ++ [r ++ [y]] := by rw [List.take_add_one, hx]; rfl
          rw [ek, List.flatMap_append, List.map_append]
          have e2 : (g.take (g.map D.int).length) = g := by rw [List.length_map, List.take_length]
          rw [e2]
          have e3 : [r ++ [y]].flatMap (nxt g) = (g.filter fun k => decide (y < k)).map fun k => (r ++ [y]) ++ [k] := by
            rw [List.flatMap_singleton]
            unfold nxt
            rw [ey]
          rw [e3]
      · rintro acc ρ ⟨rfl, rfl⟩ q3
        refine ⟨g.length - (j + 1), by omega, j + 1, q1, q3, ?_, rfl, by omega⟩
        rw [dl, List.take_length]
        rfl
    · have he : lvl g j = [] := by
        cases e : lvl g j with
        | nil => rfl
        | cons a l => exact absurd (by rw [e]; rfl) h
      refine hR _ ⟨q1, q2, ?_⟩
      have := lotsTo_stay he g.length hj
      unfold lotsOf
      rw [this, he]
      rfl
  rintro ρ ⟨q1, q2, rfl⟩
  rfl
theorem has_lots_among (T : Tx K mg) {f : Addr} {fd : FuncData} (F : Fd K "lots_among" s_lots_among [] f fd) (gm : mg "lots_among" = some (.ref f)) : Has P w K mg base "lots_among" 1 ["kinds"] (spF K sp_lots_among) := by
  exact has_of F gm (ok_lots_among T   F) fun _ _ _ _ _ _ us hl => match us, hl with | [_], _ => rfl
end
end Q
/-! C13 -/
set_option Elab.async false
set_option linter.all false
set_option maxRecDepth 100000
set_option maxHeartbeats 8000000
namespace Q
open PySem PySem.Spec PyProof.Rows L2 N
section
variable {P : Program} {w : World} {K : PySem.W.Frag} {mg : Str → Option Value} {base : Heap}
/-! the calls of lots -/
def sp_all_lots (K : PySem.W.Frag) : FS := { α := D, args := fun d => [d], pre := fun d => (ty7 d).isSome = true, post := fun d r => ∃ m, d = .int m ∧ 1 ≤ m ∧ m ≤ 8 ∧ r = .tup ((lotsOf (rgI m)).map dTup), exc := fun d x => inB 1 8 d = false ∧ x = exBad K "BadNumber" }
theorem inB_el {a b : Int} {d : D} (h : inB a b d = true) : ∃ i, d = .int i ∧ a ≤ i ∧ i ≤ b := by
  cases d with
  | int i => exact ⟨i, rfl, of_decide_eq_true h⟩
  | _ => cases h
theorem rgI_len (m : Int) : (rgI m).length = m.toNat := by unfold rgI; rw [List.length_map, List.length_range]
/-! all_lots -/
abbrev s_all_lots : Stmt := topS 39
abbrev n_all_lots : List Str := ["many"]
theorem sc_all_lots : FnScope n_all_lots ["many"] (defScope s_all_lots) := ⟨rfl, rfl, rfl, by decide +kernel, rfl, by decide +kernel, by decide +kernel⟩
theorem ok_all_lots (T : Tx K mg) (h_check_many : Has P w K mg base "check_many" 3 ["many"] (spF K (sp_check_many K))) (h_lots_among : Has P w K mg base "lots_among" 1 ["kinds"] (spF K sp_lots_among)) {f : Addr} {fd : FuncData} (F : Fd K "all_lots" s_all_lots [] f fd) : FnOk P w K mg base (L2N.CX P w) 4 f fd ["many"] (spF K (sp_all_lots K)) := by
  refine fn_ok F sc_all_lots (sp_all_lots K) (fun _ => rfl) fun cdv A outer s H E g hr pre hx => ?_
  refine ⟨_, (ds_cons (ds_expr (de_callX h_check_many hr (L2N.passes_call (L2N.takes_of rfl rfl rfl rfl) (fun _ _ _ _ h => h)) hx (da_cons (dv 0) da_nil)))
      (ds_one (ds_ret (de_call h_lots_among (hr.mono (by decide : 1 ≤ 3)) (da_cons (de_new (dn_listrange T.b_list T.b_range (dv 0))) da_nil))))), ?_⟩
  change D at g
  refine ⟨g, rfl, pre, fun r hr => ?_, fun x hx => hx⟩
  obtain ⟨h1, rfl⟩ := hr
  obtain ⟨m, rfl, m1, m2⟩ := inB_el h1
  refine ⟨rgOk (by omega) (by omega), rgI m, by rw [rgD_ints]; rfl, ⟨by rw [rgI_len]; omega, rgI_sorted m⟩, fun r hr => ?_, fun _ h => h.elim⟩
  exact ⟨m, rfl, m1, m2, hr⟩
theorem has_all_lots (T : Tx K mg) (h_check_many : Has P w K mg base "check_many" 3 ["many"] (spF K (sp_check_many K))) (h_lots_among : Has P w K mg base "lots_among" 1 ["kinds"] (spF K sp_lots_among)) {f : Addr} {fd : FuncData} (F : Fd K "all_lots" s_all_lots [] f fd) (gm : mg "all_lots" = some (.ref f)) : Has P w K mg base "all_lots" 4 ["many"] (spF K (sp_all_lots K)) := by
  exact has_of F gm (ok_all_lots T  h_check_many h_lots_among F) fun _ _ _ _ _ _ us hl => match us, hl with | [_], _ => rfl
theorem hask_all_lots_0_many (T : Tx K mg) (h_check_many : Has P w K mg base "check_many" 3 ["many"] (spF K (sp_check_many K))) (h_lots_among : Has P w K mg base "lots_among" 1 ["kinds"] (spF K sp_lots_among)) {f : Addr} {fd : FuncData} (F : Fd K "all_lots" s_all_lots [] f fd) (gm : mg "all_lots" = some (.ref f)) : HasK0 P w K mg base "all_lots" 4 [0] ["many"] ["many"] (spF K (sp_all_lots K)) := by
  exact hasK0_of F gm (ok_all_lots T h_check_many h_lots_among F) fun _ _ _ _ _ _ ws h2 => match ws, h2 with | [_], _ => rfl
theorem lot_len8 {ns : List Int} {m : Int} (h : LotOk m ns) : ns.length ≤ m.toNat := by
  have := len_le_of (l := ns) (r := rgI m) (h.2.1.imp fun h => Int.ne_of_lt h) fun x hx => by
    have := h.2.2 x hx
    unfold rgI
    exact List.mem_map.mpr ⟨x.toNat, List.mem_range.mpr (by omega), by omega⟩
  rw [rgI_len] at this
  exact this
def maskOf (ns : List Int) : Int := (ns.map fun k => (1 : Int) * 2 ^ k.toNat).sum
def sp_lot_mask (K : PySem.W.Frag) : FS := { α := D, args := fun d => [d], pre := fun d => RowIn d, post := fun d r => ∃ ns : List Int, rowOf d = some (ns.map D.int) ∧ LotOk 8 ns ∧ r = .int (maskOf ns), exc := fun d x => isLotD 8 d = false ∧ x = exBad K "BadLot" }
def bitB (i k : Int) : Bool := Builtin.bitAnd i (1 * 2 ^ k.toNat) != 0
def lotBits (i : Int) : List Int := (rgI 8).filter (bitB i)
def sp_lot_of_mask (K : PySem.W.Frag) : FS := { α := D, args := fun d => [d], pre := fun d => (ty7 d).isSome = true, post := fun d r => ∃ i, d = .int i ∧ 1 ≤ i ∧ i ≤ 255 ∧ r = dTup (lotBits i), exc := fun d x => inB 1 255 d = false ∧ x = exBad K "BadNumber" }
theorem rgI_get {n : Int} {k : Nat} (h : k < n.toNat) : (rgI n)[k]? = some (k : Int) := by
  unfold rgI
  rw [List.getElem?_map, List.getElem?_range h]
  rfl
theorem rgI_take {n : Int} {k : Nat} (h : k < n.toNat) : (rgI n).take (k + 1) = (rgI n).take k ++ [(k : Int)] := by rw [List.take_add_one, rgI_get h]; rfl
def sp_sub_lots (K : PySem.W.Frag) : FS := { α := D, args := fun d => [d], pre := fun d => RowIn d, post := fun d r => ∃ ns : List Int, rowOf d = some (ns.map D.int) ∧ LotOk 8 ns ∧ r = .tup ((lotsOf ns).map dTup), exc := fun d x => isLotD 8 d = false ∧ x = exBad K "BadLot" }
def batchLot (ns : List Int) : List Int := (rgI (ns.length : Nat)).filter fun k => ns.getD k.toNat 0 != 0
def sp_batch_lot (K : PySem.W.Frag) : FS := { α := D, args := fun d => [d], pre := fun d => RowIn d, post := fun d r => ∃ ns : List Int, rowOf d = some (ns.map D.int) ∧ isBatch d = true ∧ r = dTup (batchLot ns), exc := fun d x => isBatch d = false ∧ x = exBad K "BadBatch" }
theorem isBatch_el {d : D} (h : isBatch d = true) : ∃ ns : List Int, rowOf d = some (ns.map D.int) ∧ 1 ≤ ns.length ∧ ns.length ≤ 8 ∧ ∀ n ∈ ns, 0 ≤ n ∧ n ≤ 1000000000 := by
  unfold isBatch at h
  cases e : rowOf d with
  | none => rw [e] at h; cases h
  | some ds =>
    rw [e] at h
    obtain ⟨h1, h2⟩ := Bool.and_eq_true_iff.mp h
    have h1 := of_decide_eq_true h1
    obtain ⟨ns, rfl, hn⟩ := ints_of (m := 1000000001) (ds := ds) fun x hx => by
      obtain ⟨i, rfl, a, b⟩ := inB_el (List.all_eq_true.mp h2 x hx)
      exact decide_eq_true ⟨a, by omega⟩
    rw [List.length_map] at h1
    exact ⟨ns, rfl, h1.1, h1.2, fun n hm => ⟨(hn n hm).1, by have := (hn n hm).2; omega⟩⟩
def CH : List (List Int) := [[1], [1, 1], [1, 2, 1], [1, 3, 3, 1], [1, 4, 6, 4, 1], [1, 5, 10, 10, 5, 1], [1, 6, 15, 20, 15, 6, 1], [1, 7, 21, 35, 35, 21, 7, 1], [1, 8, 28, 56, 70, 56, 28, 8, 1]]
def ch (n k : Nat) : Int := (CH.getD n []).getD k 0
def rgN (a b : Nat) : List Nat := (List.range (b - a)).map (a + ·)
def placeGo (m : Nat) : Nat → List Int → Int
  | _, [] => 0
  | low, k :: ks => ((rgN low k.toNat).map fun s => ch (m - 1 - s) ks.length).sum + placeGo m (k.toNat + 1) ks
def placeOf (m : Nat) (ns : List Int) : Int := ((rgN 1 ns.length).map (ch m)).sum + placeGo m 0 ns
theorem CH_len : ∀ m : Fin 9, (CH.getD m.val []).length = m.val + 1 := by decide
theorem ch_at {m : Nat} (h : m ≤ 8) : atI (CH.map dTup) (m : Int) = some (dTup (CH.getD m [])) := by
  have := at_map (f := dTup) (l := CH) (k := m) (d := []) (by show m < 9; omega)
  rw [Int.zero_add] at this
  exact this
theorem ch_at2 {m k : Nat} (h : m ≤ 8) (hk : k ≤ m) : atI ((CH.getD m []).map D.int) (k : Int) = some (.int (ch m k)) := at_ints' (by rw [CH_len ⟨m, by omega⟩]; show k < m + 1; omega)
theorem asc_len {m : Int} : ∀ {ns : List Int} {a : Int}, a < m → ns.Pairwise (· < ·) → (∀ n ∈ ns, a < n ∧ n < m) → (ns.length : Int) ≤ m - 1 - a
  | [], a, h, _, _ => by simp; omega
  | x :: xs, a, h, hp, hn => by
    obtain ⟨p1, p2⟩ := List.pairwise_cons.mp hp
    have hx := hn x List.mem_cons_self
    have := asc_len (ns := xs) (a := x) hx.2 p2 fun n hm => ⟨p1 n hm, (hn n (List.mem_cons_of_mem _ hm)).2⟩
    rw [List.length_cons]
    omega
theorem rgN_take {a b k : Nat} (h : k < b - a) : (rgN a b).take (k + 1) = (rgN a b).take k ++ [a + k] := by
  unfold rgN
  rw [List.take_add_one, List.getElem?_map, List.getElem?_range h]
  rfl
theorem rgN_all {a b n : Nat} (h : b - a ≤ n) : (rgN a b).take n = rgN a b := List.take_of_length_le (by unfold rgN; rw [List.length_map, List.length_range]; exact h)
def sp_lot_place (K : PySem.W.Frag) : FS := { α := D × D, args := fun g => [g.1, g.2], pre := fun g => (ty7 g.1).isSome = true ∧ RowIn g.2, post := fun g r => ∃ (m : Nat) (ns : List Int), g.1 = .int m ∧ 1 ≤ m ∧ m ≤ 8 ∧ rowOf g.2 = some (ns.map D.int) ∧ LotOk m ns ∧ r = .int (placeOf m ns), exc := fun g x => (inB 1 8 g.1 = false ∧ x = exBad K "BadNumber") ∨ ∃ m : Nat, g.1 = .int m ∧ 1 ≤ m ∧ m ≤ 8 ∧ isLotD m g.2 = false ∧ x = exBad K "BadLot" }
end
end Q
/-! C14 -/
set_option Elab.async false
set_option linter.all false
set_option maxRecDepth 100000
set_option maxHeartbeats 8000000
namespace Q
open PySem PySem.Spec PyProof.Rows L2 N
section
variable {P : Program} {w : World} {K : PySem.W.Frag} {mg : Str → Option Value} {base : Heap}
/-! k02: what the law draws -/
def sp_huge : FS := { α := Unit, args := fun _ => [], pre := fun _ => True, post := fun _ r => ∃ i : Int, r = .int i ∧ 10 ^ 12 < i }
/-! _law_huge -/
abbrev s_law_huge : Stmt := topS 66
abbrev n_law_huge : List Str := ["number", "k"]
theorem sc_law_huge : FnScope n_law_huge [] (defScope s_law_huge) := ⟨rfl, rfl, rfl, by decide +kernel, rfl, by decide +kernel, by decide +kernel⟩
theorem ok_law_huge (T : Tx K mg) {f : Addr} {fd : FuncData} (F : Fd K "_law_huge" s_law_huge [] f fd) : FnOk P w K mg base (L2N.CX P w) 1 f fd [] (spF K sp_huge) := by
  refine fn_ok F sc_law_huge sp_huge (fun _ => rfl) fun cdv A outer s H E g hr pre hx => ?_
  refine ⟨_, (ds_cons (ds_set (i := 0) sc_law_huge.nd de_int)
      (ds_cons (ds_for (passes_of rfl) (di_range1 T.b_range (da_cons de_int da_nil)) (dg 1 sc_law_huge.nd)
      (ds_one (ds_set (i := 0) sc_law_huge.nd (de_mulW (dv 0) (de_pow de_int de_int)))))
      (ds_one (ds_ret (dv 0))))), ?_⟩
  refine sAsg (d := .int 1) (fun Q h => h) ?_
  refine ⟨by decide, by decide, by decide, by decide, fun k ρ => ∃ (x : Int) (s1 : Slot), ρ = [.v (.int x), s1] ∧ 0 < x ∧ x.natAbs < 2 ^ (200 * k + 1) ∧ (0 < k → 10 ^ 12 < x), ⟨1, _, rfl, by decide, by decide, fun h => absurd h (by decide)⟩, fun _ _ _ _ => trivial, ?_, ?_⟩
  · rintro k d ρ hk rfl ⟨x, s1, rfl, x0, x1, x2⟩
    have hk : k < 78 := hk
    refine ⟨⟨by decide, by decide, by decide⟩, wide_mul (a := 200 * k + 1) (b := 200) x1 (by decide +kernel) (by omega) (by decide) (by omega), x * 10 ^ (60 : Int).toNat, _, rfl, ?_, ?_, fun _ => ?_⟩
    · exact Int.mul_pos x0 (by decide)
    · rw [Int.natAbs_mul, show 200 * (k + 1) + 1 = (200 * k + 1) + 200 from by omega, Nat.pow_add]
      exact Nat.mul_lt_mul_of_lt_of_le x1 (by decide +kernel) (by decide +kernel)
    · have : (1 : Int) * 10 ^ (60 : Int).toNat ≤ x * 10 ^ (60 : Int).toNat := Int.mul_le_mul_of_nonneg_right (by omega) (by decide)
      have h2 : (10 : Int) ^ 12 < 1 * 10 ^ (60 : Int).toNat := by decide
      omega
  · rintro ρ ⟨x, s1, rfl, x0, x1, x2⟩
    exact ⟨x, rfl, x2 (by decide)⟩
theorem has_law_huge (T : Tx K mg) {f : Addr} {fd : FuncData} (F : Fd K "_law_huge" s_law_huge [] f fd) (gm : mg "_law_huge" = some (.ref f)) : Has P w K mg base "_law_huge" 1 [] (spF K sp_huge) := by
  exact has_of F gm (ok_law_huge T   F) fun _ _ _ _ _ _ us hl => match us, hl with | [], _ => rfl
def sp_many : SS := { α := Int, args := fun m => [.int m], pre := fun m => 3 ≤ m ∧ m ≤ 64, post := fun m r => ∃ i, r = .int i ∧ 1 ≤ i ∧ i ≤ m, s0 := fun _ => StOk, s1 := fun _ => StOk }
/-! _law_many -/
abbrev s_law_many : Stmt := topS 69
abbrev n_law_many : List Str := ["store", "top"]
theorem sc_law_many : FnScope n_law_many ["store", "top"] (defScope s_law_many) := ⟨rfl, rfl, rfl, by decide +kernel, rfl, by decide +kernel, by decide +kernel⟩
theorem ok_law_many (T : Tx K mg) (h_law_pick : Has P w K mg base "_law_pick" 3 ["store", "things"] (spS K sp_pick)) {f : Addr} {fd : FuncData} (F : Fd K "_law_many" s_law_many [] f fd) : FnOk P w K mg base (L2N.CX P w) 4 f fd ["store", "top"] (spS K sp_many) := by
  refine fnS_ok F sc_law_many sp_many (fun _ => rfl) (by decide) fun cdv A outer s H E g p ss hr pre hs => ?_
  refine ⟨_, (ds_one (ds_ret (de_min rfl T.b_min (da_cons (dv 1) (da_cons (de_callS h_law_pick hr (dv 0) (da_cons (de_new (dn_lst (da_cons de_int (da_cons (dv 1) (da_cons de_int (da_cons de_int (da_cons de_int (da_cons de_int (da_cons de_int (da_cons de_int da_nil)))))))))) da_nil)) da_nil))))), ?_⟩
  change Int at g
  obtain ⟨m1, m2⟩ := pre
  change 3 ≤ g at m1
  refine ⟨(false, [.int 1, .int g, .int 2, .int 3, .int 2, .int 3, .int 4, .int 3]), rfl, hs, ⟨by simp, by simp⟩, fun d s1 hd hs => ?_⟩
  obtain ⟨i, rfl, i0⟩ : ∃ i : Int, d = .int i ∧ 1 ≤ i := by
    have hd : d ∈ [D.int 1, .int g, .int 2, .int 3, .int 2, .int 3, .int 4, .int 3] := hd
    simp only [List.mem_cons, List.not_mem_nil, or_false] at hd
    rcases hd with h | h | h | h | h | h | h | h
    · exact ⟨_, h, by decide⟩
    · exact ⟨_, h, by omega⟩
    all_goals exact ⟨_, h, by decide⟩
  exact ⟨⟨_, rfl, by show (1 : Int) ≤ min g i; omega, by show min g i ≤ g; omega⟩, s1, rfl, hs⟩
theorem has_law_many (T : Tx K mg) (h_law_pick : Has P w K mg base "_law_pick" 3 ["store", "things"] (spS K sp_pick)) {f : Addr} {fd : FuncData} (F : Fd K "_law_many" s_law_many [] f fd) (gm : mg "_law_many" = some (.ref f)) : Has P w K mg base "_law_many" 4 ["store", "top"] (spS K sp_many) := by
  exact has_of F gm (ok_law_many T  h_law_pick F) fun _ _ _ _ _ _ us hl => match us, hl with | [_, _], _ => rfl
theorem rg_filter {l m : Int} {k : Nat} (hl : (-1 : Int) ≤ l) (h : (k : Int) ≤ l + 1) : ((rgI m).take k).filter (fun x => decide (l < x)) = [] := by
  rw [List.filter_eq_nil_iff]
  intro x hx z
  have z := of_decide_eq_true z
  obtain ⟨i, hi⟩ := List.mem_iff_getElem?.mp hx
  have hik : i < k := by
    have := (List.getElem?_eq_some_iff.mp hi).1
    rw [List.length_take] at this
    omega
  rw [List.getElem?_take_of_lt hik] at hi
  have hl2 : i < m.toNat := by
    have := (List.getElem?_eq_some_iff.mp hi).1
    rw [rgI_len] at this
    exact this
  rw [rgI_get hl2] at hi
  cases hi
  omega
def sp_lots : FS := { α := Nat, args := fun m => [.int (m : Nat)], pre := fun m => m ≤ 8, post := fun m r => r = .lst ((lotsOf (rgI (m : Nat))).map dTup) }
/-! _law_lots -/
abbrev s_law_lots : Stmt := topS 70
abbrev n_law_lots : List Str := ["many", "lots", "level", "size", "longer", "lot", "kind"]
theorem sc_law_lots : FnScope n_law_lots ["many"] (defScope s_law_lots) := ⟨rfl, rfl, rfl, by decide +kernel, rfl, by decide +kernel, by decide +kernel⟩
theorem ok_law_lots (T : Tx K mg) {f : Addr} {fd : FuncData} (F : Fd K "_law_lots" s_law_lots [] f fd) : FnOk P w K mg base (L2N.CX P w) 1 f fd ["many"] (spF K sp_lots) := by
  refine fn_ok F sc_law_lots sp_lots (fun _ => rfl) fun cdv A outer s H E g hr pre hx => ?_
  refine ⟨_, (ds_cons (ds_set (i := 1) sc_law_lots.nd (de_new (dn_lst da_nil)))
      (ds_cons (ds_setLcO (j := 2) sc_law_lots.nd (di_range1 T.b_range (da_cons (dv 0) da_nil)) (blkOk_by (own := [("kind", 6)]) (N := n_law_lots) (sc := defScope s_law_lots) (by decide +kernel)) (fun _ _ _ _ _ _ _ => dts_nil) (fun _ _ _ _ _ _ _ => (de_tup (da_cons (dv 6) da_nil))) (fun _ _ _ _ _ => pg_name (i := 6) sc_law_lots.nd rfl (Or.inl rfl)) (sw_true rfl rfl rfl (by decide +kernel)))
      (ds_lock 2 (ds_cons (ds_for (passes_of rfl) (di_range1 T.b_range (da_cons (dv 0) da_nil)) (dg 3 sc_law_lots.nd)
      (ds_cons (ds_set (i := 1) sc_law_lots.nd (de_new (dn_cat (dv 1) (dv 2))))
      (ds_cons (ds_setO (i := 4) sc_law_lots.nd (dn_lst da_nil))
      (ds_cons (ds_for (passes_of rfl) (di_seq (dv 2)) (dg 5 sc_law_lots.nd)
      (ds_one (ds_for (passes_of rfl) (di_range2 T.b_range (da_cons (de_add (de_ix (dv 5) (de_neg de_int)) de_int) (da_cons (dv 0) da_nil))) (dg 6 sc_law_lots.nd)
      (ds_one (ds_expr (de_append (dv 4) (de_catT (dv 5) (de_tup (da_cons (dv 6) da_nil)))))))))
      (ds_one (ds_set (i := 2) sc_law_lots.nd (de_new (dn_list T.b_list (da_cons (dv 4) da_nil)))))))))
      (ds_one (ds_ret (dv 1))))))), ?_⟩
  change Nat at g
  have h8 : g ≤ 8 := pre
  have el : (rgI (g : Nat)).length = g := by rw [rgI_len]; exact Int.toNat_natCast _
  have hp := rgI_sorted (g : Nat)
  have h8' : (rgI (g : Nat)).length ≤ 8 := by omega
  have dl : ∀ l : List (List Int), ((l.map dTup).length : Nat) = l.length := fun l => List.length_map _
  refine sAsg (d := .lst []) (fun Q h => h) ?_
  refine ⟨trivial, by decide, by decide, by show -(2 ^ 62) ≤ ((g : Nat) : Int); omega, by show ((g : Nat) : Int) < 2 ^ 62; omega, by show (((g : Nat) : Int) - 0).toNat ≤ 16777216; omega, fun k acc ρ => ρ = [.v (.int (g : Nat)), .v (.lst []), .un, .un, .un, .un, .un] ∧ acc = (((rgI (g : Nat)).take k).map fun k => [k]).map dTup, ⟨rfl, rfl⟩, fun _ _ _ _ _ => trivial, ?_, ?_⟩
  · rintro k d acc ρ hk rfl ⟨rfl, rfl⟩
    have hk : k < (((g : Nat) : Int) - 0).toNat := hk
    refine ⟨rfl, ?_⟩
    rw [rgI_take (by omega), List.map_append, List.map_append, Int.zero_add]
    rfl
  rintro acc ρ ⟨rfl, rfl⟩ q0
  have e0 : (((rgI (g : Nat)).take (((g : Nat) : Int) - 0).toNat).map fun k => [k]).map dTup = (lvl (rgI (g : Nat)) 0).map dTup := by rw [List.take_of_length_le (by omega)]; rfl
  rw [e0]
  try dsimp only
  refine ⟨by decide, by decide, by show -(2 ^ 62) ≤ ((g : Nat) : Int); omega, by show ((g : Nat) : Int) < 2 ^ 62; omega, fun k ρ => ∃ (s3 s4 s5 s6 : Slot), ρ = [.v (.int (g : Nat)), .v (.lst ((lotsTo (rgI (g : Nat)) k).map dTup)), .v (.lst ((lvl (rgI (g : Nat)) k).map dTup)), s3, s4, s5, s6], ⟨_, _, _, _, rfl⟩, fun _ _ _ _ => trivial, ?_, ?_⟩
  · rintro k d ρ hk rfl ⟨s3, s4, s5, s6, rfl⟩
    have hk : k < (((g : Nat) : Int) - 0).toNat := hk
    have l1 := lotsTo_len hp h8' k
    have l2 := lvl_len hp h8' k
    have e1 : (lotsTo (rgI (g : Nat)) k).map dTup ++ (lvl (rgI (g : Nat)) k).map dTup = (lotsTo (rgI (g : Nat)) (k + 1)).map dTup := by rw [lotsTo_succ, List.map_append]
    refine sAsg (d := .lst ((lotsTo (rgI (g : Nat)) (k + 1)).map dTup)) (fun Q h => ⟨by show ((lotsTo (rgI (g : Nat)) k).map dTup).length + ((lvl (rgI (g : Nat)) k).map dTup).length ≤ 16777216; rw [dl, dl]; omega, by rw [e1]; exact h⟩) ?_
    intro q
    refine ⟨fun i ρ => ∃ (s5 s6 : Slot), ρ = [.v (.int (g : Nat)), .v (.lst ((lotsTo (rgI (g : Nat)) (k + 1)).map dTup)), .v (.lst ((lvl (rgI (g : Nat)) k).map dTup)), .v (.int (0 + k)), .own q ((((lvl (rgI (g : Nat)) k).take i).flatMap (nxt (rgI (g : Nat)))).map dTup), s5, s6], ⟨_, _, rfl⟩, fun _ _ _ _ => trivial, ?_, ?_⟩
    · rintro i d ρ hi hd ⟨s5, s6, rfl⟩
      have hd : ((lvl (rgI (g : Nat)) k).map dTup)[i]? = some d := hd
      rw [List.getElem?_map] at hd
      obtain ⟨lot, hx, rfl⟩ := Option.map_eq_some_iff.mp hd
      have hlot := List.mem_of_getElem? hx
      obtain ⟨o1, o2, o3⟩ := lvl_ok hlot
      obtain ⟨r, y, rfl⟩ := last_of (l := lot) (by omega)
      have ey : (r ++ [y]).getLastD 0 = y := by simp
      have yb := rgI_mem (o3 y (List.mem_append_right _ (List.mem_singleton_self y)))
      refine ⟨.int y, ?_, ?_⟩
      · show atI ((r ++ [y]).map D.int) (-1) = _
        rw [List.map_append]
        exact atI_end _ _
      refine ⟨by show -(2 ^ 62) ≤ y + 1; omega, by show y + 1 < 2 ^ 62; omega, by omega, by omega, fun j ρ => ∃ s6 : Slot, ρ = [.v (.int (g : Nat)), .v (.lst ((lotsTo (rgI (g : Nat)) (k + 1)).map dTup)), .v (.lst ((lvl (rgI (g : Nat)) k).map dTup)), .v (.int (0 + k)), .own q ((((lvl (rgI (g : Nat)) k).take i).flatMap (nxt (rgI (g : Nat)))).map dTup ++ ((((rgI (g : Nat)).take ((y + 1).toNat + j)).filter fun x => decide (y < x)).map fun x => (r ++ [y]) ++ [x]).map dTup), .v (dTup (r ++ [y])), s6], ⟨s6, ?_⟩, fun _ _ _ _ => trivial, ?_, ?_⟩
      · rw [rg_filter (by omega) (by omega), List.map_nil, List.map_nil, List.append_nil]
        rfl
      · rintro j d ρ hj rfl ⟨s6, rfl⟩
        have hj : j < (((g : Nat) : Int) - (y + 1)).toNat := hj
        have et : (rgI (g : Nat)).take ((y + 1).toNat + (j + 1)) = (rgI (g : Nat)).take ((y + 1).toNat + j) ++ [y + 1 + (j : Int)] := by
          rw [← Nat.add_assoc, rgI_take (by omega)]
          congr 2
          omega
        have c1 : (((lvl (rgI (g : Nat)) k).take i).flatMap (nxt (rgI (g : Nat)))).length ≤ 7 * ((lvl (rgI (g : Nat)) k).take i).length := flatMap_len fun lot hl => by
          have := nxt_7 hp h8' (List.mem_of_mem_take hl)
          omega
        have c2 := List.length_filter_le (fun x => decide (y < x)) ((rgI (g : Nat)).take ((y + 1).toNat + j))
        have c3 : ((lvl (rgI (g : Nat)) k).take i).length ≤ (lvl (rgI (g : Nat)) k).length := by rw [List.length_take]; omega
        have c4 : ((rgI (g : Nat)).take ((y + 1).toNat + j)).length ≤ (rgI (g : Nat)).length := by rw [List.length_take]; omega
        refine ⟨by show ((r ++ [y]).map D.int).length + 1 ≤ 16777216; rw [List.length_map, o1]; omega, ?_, .v (.int (y + 1 + (j : Int))), ?_⟩
        · rw [List.length_append, List.length_map, List.length_map, List.length_map]
          omega
        · have ef : (((rgI (g : Nat)).take ((y + 1).toNat + (j + 1))).filter fun x => decide (y < x)) = (((rgI (g : Nat)).take ((y + 1).toNat + j)).filter fun x => decide (y < x)) ++ [y + 1 + (j : Int)] := by
            rw [et, List.filter_append, List.filter_cons_of_pos (p := fun x => decide (y < x)) (l := []) (decide_eq_true (by omega))]
            rfl
          have eg : ∀ F : List Int, List.map dTup (List.map (fun k => r ++ [y] ++ [k]) (F ++ [y + 1 + (j : Int)])) = List.map dTup (List.map (fun k => r ++ [y] ++ [k]) F) ++ [dTup (r ++ [y] ++ [y + 1 + (j : Int)])] := fun F => by
            rw [List.map_append, List.map_append]
            rfl
          have eh : D.tup (List.map D.int (r ++ [y]) ++ [D.int (y + 1 + (j : Int))]) = dTup (r ++ [y] ++ [y + 1 + (j : Int)]) := by
            unfold dTup
            rw [List.map_append (l₁ := r ++ [y]) (l₂ := [y + 1 + (j : Int)])]
            rfl
          rw [ef, eg, ← List.append_assoc, ← eh]
          rfl
      · rintro ρ ⟨s6, rfl⟩
        refine ⟨.v (dTup (r ++ [y])), s6, ?_⟩
        have ek : (lvl (rgI (g : Nat)) k).take (i + 1) = (lvl (rgI (g : Nat)) k).take i ++ [r ++ [y]] := by rw [List.take_add_one, hx]; rfl
        have et : (rgI (g : Nat)).take ((y + 1).toNat + (((g : Nat) : Int) - (y + 1)).toNat) = rgI (g : Nat) := List.take_of_length_le (by omega)
        have e3 : [r ++ [y]].flatMap (nxt (rgI (g : Nat))) = ((rgI (g : Nat)).filter fun k => decide (y < k)).map fun k => (r ++ [y]) ++ [k] := by
          rw [List.flatMap_singleton]
          unfold nxt
          rw [ey]
        rw [ek, List.flatMap_append, List.map_append, e3]
        have et2 : (rgI (g : Nat)).take ((y + 1).toNat + (((g : Nat) : Int) - (y + 1)).toNat) = rgI (g : Nat) := et
        rw [et2]
    · rintro ρ ⟨s5, s6, rfl⟩
      exact ⟨_, _, _, _, by rw [dl, List.take_length]; rfl⟩
  · rintro ρ ⟨s3, s4, s5, s6, rfl⟩
    show D.lst ((lotsTo (rgI (g : Nat)) (((g : Nat) : Int) - 0).toNat).map dTup) = _
    unfold lotsOf
    rw [el, show (((g : Nat) : Int) - 0).toNat = g from by omega]
theorem has_law_lots (T : Tx K mg) {f : Addr} {fd : FuncData} (F : Fd K "_law_lots" s_law_lots [] f fd) (gm : mg "_law_lots" = some (.ref f)) : Has P w K mg base "_law_lots" 1 ["many"] (spF K sp_lots) := by
  exact has_of F gm (ok_law_lots T   F) fun _ _ _ _ _ _ us hl => match us, hl with | [_], _ => rfl
end
end Q
/-! C15 -/
set_option Elab.async false
set_option linter.all false
set_option maxRecDepth 100000
set_option maxHeartbeats 8000000
namespace Q
open PySem PySem.Spec PyProof.Rows L2 N
section
variable {P : Program} {w : World} {K : PySem.W.Frag} {mg : Str → Option Value} {base : Heap}
/-! lots and batches of the house; rows picked by an order -/
theorem pw_adj : ∀ {ns : List Int}, (∀ j, j + 1 < ns.length → ns.getD j 0 < ns.getD (j + 1) 0) → ns.Pairwise (· < ·)
  | [], _ => List.Pairwise.nil
  | [a], _ => List.pairwise_singleton _ _
  | a :: b :: r, h => by
    have ih := pw_adj (ns := b :: r) fun j hj => h (j + 1) (by rw [List.length_cons]; omega)
    have hab : a < b := h 0 (by simp)
    refine List.pairwise_cons.mpr ⟨fun x hx => ?_, ih⟩
    rcases List.mem_cons.mp hx with rfl | hx
    · exact hab
    · exact Int.lt_trans hab ((List.pairwise_cons.mp ih).1 x hx)
theorem adj_pw {ns : List Int} (h : ns.Pairwise (· < ·)) {j : Nat} (hj : j + 1 < ns.length) : ns.getD j 0 < ns.getD (j + 1) 0 := by
  have := List.pairwise_iff_getElem.mp h j (j + 1) (by omega) hj (by omega)
  rw [List.getD_eq_getElem?_getD, List.getD_eq_getElem?_getD, List.getElem?_eq_getElem (by omega), List.getElem?_eq_getElem hj]
  exact this
theorem lot_len {m : Nat} {ns : List Int} (h : LotOk m ns) : ns.length ≤ m := by
  have hn : ns.Nodup := h.2.1.imp fun z => Int.ne_of_lt z
  have := len_le_of (l := ns) (r := (List.range m).map fun i : Nat => ((i : Nat) : Int)) hn fun x hx => by
    have := h.2.2 x hx
    exact List.mem_map.mpr ⟨x.toNat, List.mem_range.mpr (by omega), by omega⟩
  rw [List.length_map, List.length_range] at this
  exact this
def sp_checked_lot (K : PySem.W.Frag) : FS := { α := D × Nat, args := fun g => [g.1, .int (g.2 : Nat)], pre := fun g => RowIn g.1 ∧ 1 ≤ g.2 ∧ g.2 ≤ 8, post := fun g r => isLotD (g.2 : Nat) g.1 = true ∧ r = tupR g.1, exc := fun g x => isLotD (g.2 : Nat) g.1 = false ∧ x = exBad K "BadLot" }
/-! checked_lot -/
abbrev s_checked_lot : Stmt := topS 52
abbrev n_checked_lot : List Str := ["lot", "many", "kind", "greater"]
theorem sc_checked_lot : FnScope n_checked_lot ["lot", "many"] (defScope s_checked_lot) := ⟨rfl, rfl, rfl, by decide +kernel, rfl, by decide +kernel, by decide +kernel⟩
theorem ok_checked_lot (T : Tx K mg) (h_are_kinds : Has P w K mg base "are_kinds" 2 ["values", "many"] (spF K sp_are_kinds)) (h_is_list : Has P w K mg base "is_list" 1 ["value"] (spF K sp_is_list)) {f : Addr} {fd : FuncData} (F : Fd K "checked_lot" s_checked_lot [] f fd) : FnOk P w K mg base (L2N.CX P w) 3 f fd ["lot", "many"] (spF K (sp_checked_lot K)) := by
  refine fn_ok F sc_checked_lot (sp_checked_lot K) (fun _ => rfl) fun cdv A outer s H E g hr pre hx => ?_
  refine ⟨_, (ds_cons (ds_if ((dw_or (dt_not (dt_val (de_call h_is_list (hr.mono (by decide : 1 ≤ 2)) (da_cons (dv 0) da_nil)))) (dw_or (dt_lt (de_len T.b_len (da_cons (dv 0) da_nil)) de_int) (dw_or (dt_gt (de_len T.b_len (da_cons (dv 0) da_nil)) (dv 1)) (dw_or1 (dt_not (dt_val (de_call h_are_kinds hr (da_cons (dv 0) (da_cons (dv 1) da_nil)))))))))).dt
      (ds_one (ds_raise (L2N.takes_of rfl rfl rfl rfl) hx PySem.F.excBase_ValueError T.x_BadLot.1 T.c_BadLot T.x_BadLot.2.1 (raises_own T.x_BadLot.2.2.1 T.x_BadLot.2.2.2)))
      ds_nil)
      (ds_cons (ds_for2 2 3 sc_checked_lot.nd (passes_of rfl) (di_zipA T.b_zip (da_cons (dv 0) (da_cons (de_sliceB (dv 0) (do_some de_int) do_none) da_nil)))
      (ds_one (ds_if (dt_ge (dv 2) (dv 3))
      (ds_one (ds_raise (L2N.takes_of rfl rfl rfl rfl) hx PySem.F.excBase_ValueError T.x_BadLot.1 T.c_BadLot T.x_BadLot.2.1 (raises_own T.x_BadLot.2.2.1 T.x_BadLot.2.2.2)))
      ds_nil)))
      (ds_one (ds_ret (de_tuple T.b_tuple (da_cons (dv 0) da_nil)))))), ?_⟩
  obtain ⟨d, m⟩ := g
  obtain ⟨⟨p1, p2⟩, h0, h8⟩ := pre
  have h0 : 1 ≤ m := h0
  have h8 : m ≤ 8 := h8
  refine ⟨d, rfl, p1, fun r hr => ?_, fun _ h => h.elim⟩
  have hr : r = .bl (isL d) := hr
  subst hr
  cases er : rowOf d with
  | none =>
    have e : isLotD m d = false := by unfold isLotD; rw [er]
    cases d with
    | tup ds => cases er
    | lst ds => cases er
    | _ => first | exact ⟨e, rfl⟩ | cases p1
  | some ds =>
    have p3 : ∀ x ∈ ds, (ty7 x).isSome = true := p2 ds er
    have el : isLotD m d = true → ∃ ns : List Int, ds = ns.map D.int ∧ LotOk m ns := fun h => by
      obtain ⟨ns, e, k⟩ := isLot_el h
      rw [er] at e
      exact ⟨ns, Option.some.inj e, k⟩
    have no : ∀ {d : D}, ¬ isLotD m d = true → isLotD m d = false := fun {d} h => by
      cases e : isLotD m d with
      | true => exact absurd e h
      | false => rfl
    rcases rowOf_el er with rfl | rfl <;> (
      show if decide (((ds.length : Nat) : Int) < 1) = true then _ else _
      refine ite2 (fun h => ⟨no fun z => ?_, rfl⟩) (fun h => ?_)
      · obtain ⟨ns, rfl, k⟩ := el z
        have := of_decide_eq_true h
        rw [List.length_map] at this
        exact k.1 (List.length_eq_zero_iff.mp (by omega))
      have h : ¬ ((ds.length : Nat) : Int) < 1 := fun z => h (decide_eq_true z)
      show if decide ((m : Int) < ((ds.length : Nat) : Int)) = true then _ else _
      refine ite2 (fun h => ⟨no fun z => ?_, rfl⟩) (fun h2 => ?_)
      · obtain ⟨ns, rfl, k⟩ := el z
        have := of_decide_eq_true h
        rw [List.length_map] at this
        have := lot_len k
        omega
      have h2 : ¬ (m : Int) < ((ds.length : Nat) : Int) := fun z => h2 (decide_eq_true z)
      refine ⟨(_, (m : Nat)), rfl, ⟨⟨p1, p2⟩, rfl⟩, fun r hr => ?_, fun _ h => h.elim⟩
      have hr : r = .bl (ds.all (isK (m : Nat))) := hr
      subst hr
      show if (!ds.all (isK (m : Nat))) = true then _ else _
      refine ite2 (fun h => ⟨no fun z => ?_, rfl⟩) (fun h3 => ?_)
      · obtain ⟨ns, rfl, k⟩ := el z
        have h4 : (ns.map D.int).all (isK (m : Nat)) = true := List.all_eq_true.mpr fun x hx => by
          obtain ⟨n, hn, rfl⟩ := List.mem_map.mp hx
          exact decide_eq_true (k.2.2 n hn)
        rw [h4] at h
        cases h
      have h3 : ds.all (isK (m : Nat)) = true := by simpa using h3
      dsimp only [rNx]
      obtain ⟨ns, rfl, hn⟩ := ints_of fun x hx => List.all_eq_true.mp h3 x hx
      rw [List.length_map] at h h2
      have ec : N.cutD (ns.map D.int) (some 1) none = (ns.drop 1).map D.int := (cut_from (n := 1) (by rw [List.length_map]; omega)).trans (by rw [List.map_drop])
      have em : min (ns.map D.int).length ((ns.drop 1).map D.int).length = ns.length - 1 := by rw [List.length_map, List.length_map, List.length_drop]; omega
      refine ⟨_, ns.map D.int, rfl, ?_⟩
      refine ⟨_, _, _, ns.map D.int, (ns.drop 1).map D.int, rfl, rfl, by first | exact congrArg (fun z => some (true, z)) ec | exact congrArg (fun z => some (false, z)) ec, ?_⟩
      refine ⟨fun k ρ => (∃ s4 s5, ρ = [.v _, .v (.int (m : Nat)), s4, s5]) ∧ ∀ j, j < k → ns.getD j 0 < ns.getD (j + 1) 0, ⟨⟨_, _, rfl⟩, fun j hj => absurd hj (Nat.not_lt_zero _)⟩, fun _ _ _ _ => ⟨trivial, trivial⟩, ?_, ?_⟩
      · rintro k d ρ hk ⟨x, y, hx, hy, rfl⟩ ⟨⟨s4, s5, rfl⟩, hall⟩
        obtain ⟨h1, rfl⟩ := int_at hx
        rw [List.map_drop, List.getElem?_drop, Nat.add_comm] at hy
        obtain ⟨h5, rfl⟩ := int_at hy
        show if decide (ns.getD (k + 1) 0 ≤ ns.getD k 0) = true then _ else _
        refine ite2 (fun h => ⟨no fun z => ?_, rfl⟩) (fun h6 => ⟨⟨_, _, rfl⟩, fun j hj => ?_⟩)
        · obtain ⟨ns', e, kk⟩ := el z
          have e := ints_inj e
          subst e
          have := adj_pw kk.2.1 h5
          have := of_decide_eq_true h
          omega
        · have h6 : ¬ ns.getD (k + 1) 0 ≤ ns.getD k 0 := fun z => h6 (decide_eq_true z)
          by_cases e : j = k
          · rw [e]; omega
          · exact hall j (by omega)
      rw [em]
      rintro ρ ⟨⟨s4, s5, rfl⟩, hall⟩
      dsimp only
      refine rRetTup (i := 0) rfl er ?_
      refine ⟨isLot_of er ⟨fun z => by rw [z] at h; exact h (by decide), pw_adj fun j hj => hall j (by omega), fun n hm => hn n hm⟩, ?_⟩
      unfold tupR
      rw [er]
      rfl)
theorem has_checked_lot (T : Tx K mg) (h_are_kinds : Has P w K mg base "are_kinds" 2 ["values", "many"] (spF K sp_are_kinds)) (h_is_list : Has P w K mg base "is_list" 1 ["value"] (spF K sp_is_list)) {f : Addr} {fd : FuncData} (F : Fd K "checked_lot" s_checked_lot [] f fd) (gm : mg "checked_lot" = some (.ref f)) : Has P w K mg base "checked_lot" 3 ["lot", "many"] (spF K (sp_checked_lot K)) := by
  exact has_of F gm (ok_checked_lot T  h_are_kinds h_is_list F) fun _ _ _ _ _ _ us hl => match us, hl with | [_, _], _ => rfl
def isBat (lo hi : Int) (d : D) : Bool := match rowOf d with
  | some ds => decide (lo ≤ ((ds.length : Nat) : Int) ∧ ((ds.length : Nat) : Int) ≤ hi) && ds.all (inB 0 1000000000)
  | none => false
def sp_checked_batch (K : PySem.W.Frag) : FS := { α := D × Int × Int, args := fun g => [g.1, .int g.2.1, .int g.2.2], pre := fun g => RowIn g.1, post := fun g r => isBat g.2.1 g.2.2 g.1 = true ∧ r = tupR g.1, exc := fun g x => isBat g.2.1 g.2.2 g.1 = false ∧ x = exBad K "BadBatch" }
/-! checked_batch -/
abbrev s_checked_batch : Stmt := topS 47
abbrev n_checked_batch : List Str := ["batch", "least", "most", "count"]
theorem sc_checked_batch : FnScope n_checked_batch ["batch", "least", "most"] (defScope s_checked_batch) := ⟨rfl, rfl, rfl, by decide +kernel, rfl, by decide +kernel, by decide +kernel⟩
theorem ok_checked_batch (T : Tx K mg) (h_is_list : Has P w K mg base "is_list" 1 ["value"] (spF K sp_is_list)) (h_is_whole_rows : Has P w K mg base "is_whole_rows" 1 ["value"] (spF K sp_is_whole)) {f : Addr} {fd : FuncData} (F : Fd K "checked_batch" s_checked_batch [] f fd) : FnOk P w K mg base (L2N.CX P w) 2 f fd ["batch", "least", "most"] (spF K (sp_checked_batch K)) := by
  refine fn_ok F sc_checked_batch (sp_checked_batch K) (fun _ => rfl) fun cdv A outer s H E g hr pre hx => ?_
  refine ⟨_, (ds_cons (ds_if ((dw_or (dt_not (dt_val (de_call h_is_list hr (da_cons (dv 0) da_nil)))) (dw_or (dt_lt (de_len T.b_len (da_cons (dv 0) da_nil)) (dv 1)) (dw_or1 (dt_gt (de_len T.b_len (da_cons (dv 0) da_nil)) (dv 2)))))).dt
      (ds_one (ds_raise (L2N.takes_of rfl rfl rfl rfl) hx PySem.F.excBase_ValueError T.x_BadBatch.1 T.c_BadBatch T.x_BadBatch.2.1 (raises_own T.x_BadBatch.2.2.1 T.x_BadBatch.2.2.2)))
      ds_nil)
      (ds_cons (ds_for (passes_of rfl) (di_seq (dv 0)) (dg 3 sc_checked_batch.nd)
      (ds_one (ds_if ((dw_or (dt_not (dt_val (de_call h_is_whole_rows hr (da_cons (dv 3) da_nil)))) (dw_or (dt_lt (dv 3) de_int) (dw_or1 (dt_gt (dv 3) (de_globI (by rfl) T.g_GREATEST_COUNT)))))).dt
      (ds_one (ds_raise (L2N.takes_of rfl rfl rfl rfl) hx PySem.F.excBase_ValueError T.x_BadBatch.1 T.c_BadBatch T.x_BadBatch.2.1 (raises_own T.x_BadBatch.2.2.1 T.x_BadBatch.2.2.2)))
      ds_nil)))
      (ds_one (ds_ret (de_tuple T.b_tuple (da_cons (dv 0) da_nil)))))), ?_⟩
  obtain ⟨d, lo, hi⟩ := g
  obtain ⟨p1, p2⟩ := pre
  refine ⟨d, rfl, p1, fun r hr => ?_, fun _ h => h.elim⟩
  have hr : r = .bl (isL d) := hr
  subst hr
  cases er : rowOf d with
  | none =>
    have e : isBat lo hi d = false := by unfold isBat; rw [er]
    cases d with
    | tup ds => cases er
    | lst ds => cases er
    | _ => first | exact ⟨e, rfl⟩ | cases p1
  | some ds =>
    have p3 : ∀ x ∈ ds, (ty7 x).isSome = true := p2 ds er
    have el : isBat lo hi d = (decide (lo ≤ ((ds.length : Nat) : Int) ∧ ((ds.length : Nat) : Int) ≤ hi) && ds.all (inB 0 1000000000)) := by unfold isBat; rw [er]
    rcases rowOf_el er with rfl | rfl <;> (
      show if decide (((ds.length : Nat) : Int) < lo) = true then _ else _
      refine ite2 (fun h => ⟨by rw [el, decide_eq_false (fun z => by have := of_decide_eq_true h; omega)]; rfl, rfl⟩) (fun h => ?_)
      have h : ¬ ((ds.length : Nat) : Int) < lo := fun z => h (decide_eq_true z)
      show if decide (hi < ((ds.length : Nat) : Int)) = true then _ else _
      refine ite2 (fun h2 => ⟨by rw [el, decide_eq_false (fun z => by have := of_decide_eq_true h2; omega)]; rfl, rfl⟩) (fun h2 => ?_)
      have h2 : ¬ hi < ((ds.length : Nat) : Int) := fun z => h2 (decide_eq_true z)
      rw [decide_eq_true (by omega), Bool.true_and] at el
      dsimp only [rNx]
      refine ⟨fun k ρ => (∃ s, ρ = [.v _, .v (.int lo), .v (.int hi), s]) ∧ ∀ x ∈ ds.take k, inB 0 1000000000 x = true, ⟨⟨_, rfl⟩, fun x hx => by simp at hx⟩, fun _ _ _ _ => trivial, ?_, ?_⟩
      · rintro k x ρ hk hx ⟨⟨s, rfl⟩, hall⟩
        have hx : ds[k]? = some x := hx
        have hm := List.mem_of_getElem? hx
        dsimp only [gN]
        refine rif (inB 0 1000000000 x = false) (fun A' F' hA hF => ?_) (fun h => ?_) (fun h => ?_)
        · refine ⟨x, rfl, p3 x hm, fun r hr => ?_, fun _ h => h.elim⟩
          have hr : r = .bl (isW x) := hr
          subst hr
          have px := p3 x hm
          cases x with
          | int i =>
            show if decide (i < (0 : Int)) = true then _ else _
            refine ite2 (fun h => hA (decide_eq_false fun z => by have := of_decide_eq_true h; omega)) (fun h => ?_)
            show if decide ((1000000000 : Int) < i) = true then _ else _
            refine ite2 (fun h2 => hA (decide_eq_false fun z => by have := of_decide_eq_true h2; omega)) (fun h2 => hF ?_)
            intro z
            have := of_decide_eq_false (show decide (0 ≤ i ∧ i ≤ 1000000000) = false from z)
            have h3 : ¬ i < 0 := fun y => h (decide_eq_true y)
            have h4 : ¬ (1000000000 : Int) < i := fun y => h2 (decide_eq_true y)
            omega
          | _ => first | exact hA rfl | cases px
        · refine ⟨?_, rfl⟩
          rw [el, List.all_eq_false]
          exact ⟨x, hm, by rw [h]; exact Bool.false_ne_true⟩
        · refine ⟨⟨_, rfl⟩, fun y hy => ?_⟩
          rw [List.take_add_one, hx] at hy
          rcases List.mem_append.mp hy with h' | h'
          · exact hall y h'
          · rw [List.mem_singleton.mp h']
            simpa using h
      rintro ρ ⟨⟨s, rfl⟩, hall⟩
      have hall : ∀ x ∈ ds.take ds.length, inB 0 1000000000 x = true := hall
      rw [List.take_length] at hall
      dsimp only
      refine rRetTup (i := 0) rfl er ?_
      refine ⟨?_, ?_⟩
      · rw [el]
        exact List.all_eq_true.mpr hall
      · unfold tupR
        rw [er]
        rfl)
theorem has_checked_batch (T : Tx K mg) (h_is_list : Has P w K mg base "is_list" 1 ["value"] (spF K sp_is_list)) (h_is_whole_rows : Has P w K mg base "is_whole_rows" 1 ["value"] (spF K sp_is_whole)) {f : Addr} {fd : FuncData} (F : Fd K "checked_batch" s_checked_batch [] f fd) (gm : mg "checked_batch" = some (.ref f)) : Has P w K mg base "checked_batch" 2 ["batch", "least", "most"] (spF K (sp_checked_batch K)) := by
  exact has_of F gm (ok_checked_batch T  h_is_list h_is_whole_rows F) fun _ _ _ _ _ _ us hl => match us, hl with | [_, _, _], _ => rfl
end
end Q
/-! C16 -/
set_option Elab.async false
set_option linter.all false
set_option maxRecDepth 100000
set_option maxHeartbeats 8000000
namespace Q
open PySem PySem.Spec PyProof.Rows L2 N
section
variable {P : Program} {w : World} {K : PySem.W.Frag} {mg : Str → Option Value} {base : Heap}
/-! rows picked by an order, priced -/
def pick (ks ls : List Int) : List Int := ks.filter fun k => decide (k ∈ ls)
theorem filt_step {f : Int → Bool} {ns : List Int} {k : Nat} (hk : k < ns.length) : ((ns.take (k + 1)).filter f).map D.int = ((ns.take k).filter f).map D.int ++ if f (ns.getD k 0) = true then [D.int (ns.getD k 0)] else [] := by
  have hx : ns[k]? = some (ns.getD k 0) := by rw [List.getD_eq_getElem?_getD, List.getElem?_eq_getElem hk]; rfl
  rw [List.take_add_one, hx, List.filter_append, List.map_append]
  congr 1
  by_cases h : f (ns.getD k 0) = true
  · rw [if_pos h]
    show ([ns.getD k 0].filter f).map D.int = _
    rw [List.filter_cons_of_pos h]
    rfl
  · rw [if_neg h]
    show ([ns.getD k 0].filter f).map D.int = _
    rw [List.filter_cons_of_neg h]
    rfl
def sp_picked : FS := { α := List Int × List Int, args := fun g => [dTup g.1, dTup g.2], pre := fun g => g.1.length ≤ 1000, post := fun g r => r = dTup (pick g.1 g.2) }
/-! picked -/
abbrev s_picked : Stmt := topS 53
abbrev n_picked : List Str := ["kinds", "lot", "kind"]
theorem sc_picked : FnScope n_picked ["kinds", "lot"] (defScope s_picked) := ⟨rfl, rfl, rfl, by decide +kernel, rfl, by decide +kernel, by decide +kernel⟩
theorem ok_picked (T : Tx K mg) {f : Addr} {fd : FuncData} (F : Fd K "picked" s_picked [] f fd) : FnOk P w K mg base (L2N.CX P w) 1 f fd ["kinds", "lot"] (spF K sp_picked) := by
  refine fn_ok F sc_picked sp_picked (fun _ => rfl) fun cdv A outer s H E g hr pre hx => ?_
  refine ⟨_, (ds_one (ds_ret (de_tuple T.b_tuple (da_cons (de_new (dn_lc sc_picked.nd (di_seq (dv 0)) (blkOk_by (own := [("kind", 2)]) (N := n_picked) (sc := defScope s_picked) (by decide +kernel)) (fun _ _ _ _ _ _ _ => (dts_one (dt_in (dv 2) (dv 1)))) (fun _ _ _ _ _ _ _ => (dv 2)) (fun _ _ _ _ _ => pg_name (i := 2) sc_picked.nd rfl (Or.inl rfl)))) da_nil)))), ?_⟩
  obtain ⟨ks, ls⟩ := g
  have pre : ks.length ≤ 1000 := pre
  refine ⟨trivial, by show (ks.map D.int).length ≤ 16777216; rw [List.length_map]; omega, fun k acc ρ => ρ = [.v (dTup ks), .v (dTup ls), .un] ∧ acc = ((ks.take k).filter fun x => decide (x ∈ ls)).map D.int, ⟨rfl, rfl⟩, fun _ _ _ _ _ => trivial, ?_, ?_⟩
  · rintro k d acc ρ hk hx ⟨rfl, rfl⟩
    have hx : (ks.map D.int)[k]? = some d := hx
    obtain ⟨h1, rfl⟩ := int_at hx
    have st := filt_step (f := fun x => decide (x ∈ ls)) h1
    refine ⟨ks.getD k 0, _, ls, rfl, rfl, ?_⟩
    show if decide (ks.getD k 0 ∈ ls) = true then _ else _
    refine ite2 (fun h => ⟨rfl, ?_⟩) (fun h => ⟨rfl, ?_⟩)
    · rw [st, if_pos h]
    · rw [st, if_neg h, List.append_nil]
  · rintro acc ρ ⟨rfl, rfl⟩
    show D.tup _ = dTup (pick ks ls)
    rw [List.length_map, List.take_length]
    rfl
theorem has_picked (T : Tx K mg) {f : Addr} {fd : FuncData} (F : Fd K "picked" s_picked [] f fd) (gm : mg "picked" = some (.ref f)) : Has P w K mg base "picked" 1 ["kinds", "lot"] (spF K sp_picked) := by
  exact has_of F gm (ok_picked T   F) fun _ _ _ _ _ _ us hl => match us, hl with | [_, _], _ => rfl
def sp_made : FS := { α := List Int × List Int, args := fun g => [dTup g.1, dTup g.2], pre := fun g => g.1.length ≤ 1000 ∧ KindsIn g.2.length g.1, post := fun g r => r = dTup (g.1.filter fun k => decide (0 < g0 g.2 k)) }
/-! made -/
abbrev s_made : Stmt := topS 54
abbrev n_made : List Str := ["kinds", "counts", "kind"]
theorem sc_made : FnScope n_made ["kinds", "counts"] (defScope s_made) := ⟨rfl, rfl, rfl, by decide +kernel, rfl, by decide +kernel, by decide +kernel⟩
theorem ok_made (T : Tx K mg) {f : Addr} {fd : FuncData} (F : Fd K "made" s_made [] f fd) : FnOk P w K mg base (L2N.CX P w) 1 f fd ["kinds", "counts"] (spF K sp_made) := by
  refine fn_ok F sc_made sp_made (fun _ => rfl) fun cdv A outer s H E g hr pre hx => ?_
  refine ⟨_, (ds_one (ds_ret (de_tuple T.b_tuple (da_cons (de_new (dn_lc sc_made.nd (di_seq (dv 0)) (blkOk_by (own := [("kind", 2)]) (N := n_made) (sc := defScope s_made) (by decide +kernel)) (fun _ _ _ _ _ _ _ => (dts_one (dt_gt (de_ix (dv 1) (dv 2)) de_int))) (fun _ _ _ _ _ _ _ => (dv 2)) (fun _ _ _ _ _ => pg_name (i := 2) sc_made.nd rfl (Or.inl rfl)))) da_nil)))), ?_⟩
  obtain ⟨ks, ls⟩ := g
  obtain ⟨pre, pk⟩ := pre
  have pre : ks.length ≤ 1000 := pre
  have pk : KindsIn ls.length ks := pk
  refine ⟨trivial, by show (ks.map D.int).length ≤ 16777216; rw [List.length_map]; omega, fun k acc ρ => ρ = [.v (dTup ks), .v (dTup ls), .un] ∧ acc = ((ks.take k).filter fun x => decide (0 < g0 ls x)).map D.int, ⟨rfl, rfl⟩, fun _ _ _ _ _ => trivial, ?_, ?_⟩
  · rintro k d acc ρ hk hx ⟨rfl, rfl⟩
    have hx : (ks.map D.int)[k]? = some d := hx
    obtain ⟨h1, rfl⟩ := int_at hx
    have st := filt_step (f := fun x => decide (0 < g0 ls x)) h1
    refine ⟨_, at_mi (f := D.int) (d := 0) (kin pk h1).1 (kin pk h1).2, ?_⟩
    show if decide (0 < g0 ls (ks.getD k 0)) = true then _ else _
    refine ite2 (fun h => ⟨rfl, ?_⟩) (fun h => ⟨rfl, ?_⟩)
    · rw [st, if_pos h]
    · rw [st, if_neg h, List.append_nil]
  · rintro acc ρ ⟨rfl, rfl⟩
    show D.tup _ = dTup _
    rw [List.length_map, List.take_length]
    rfl
theorem has_made (T : Tx K mg) {f : Addr} {fd : FuncData} (F : Fd K "made" s_made [] f fd) (gm : mg "made" = some (.ref f)) : Has P w K mg base "made" 1 ["kinds", "counts"] (spF K sp_made) := by
  exact has_of F gm (ok_made T   F) fun _ _ _ _ _ _ us hl => match us, hl with | [_, _], _ => rfl
theorem tupR_of {d : D} {ns : List Int} (h : rowOf d = some (ns.map D.int)) : tupR d = dTup ns := by
  unfold tupR
  rw [h]
  rfl
def sp_arranged (K : PySem.W.Frag) : FS := { α := D × D, args := fun g => [g.1, g.2], pre := fun g => RowIn g.1 ∧ RowIn g.2, post := fun g r => ∃ os ls : List Int, rowOf g.1 = some (os.map D.int) ∧ rowOf g.2 = some (ls.map D.int) ∧ isOrd 1 8 g.1 = true ∧ isLotD (os.length : Nat) g.2 = true ∧ r = dTup (pick os ls), exc := fun g x => (isOrd 1 8 g.1 = false ∧ x = exBad K "BadOrder") ∨ ∃ os : List Int, rowOf g.1 = some (os.map D.int) ∧ isOrd 1 8 g.1 = true ∧ isLotD (os.length : Nat) g.2 = false ∧ x = exBad K "BadLot" }
/-! arranged -/
abbrev s_arranged : Stmt := topS 55
abbrev n_arranged : List Str := ["order", "lot", "kinds"]
theorem sc_arranged : FnScope n_arranged ["order", "lot"] (defScope s_arranged) := ⟨rfl, rfl, rfl, by decide +kernel, rfl, by decide +kernel, by decide +kernel⟩
theorem ok_arranged (T : Tx K mg) (h_checked_order : Has P w K mg base "checked_order" 3 ["order", "least", "most"] (spF K (sp_checked_order K))) (h_picked : Has P w K mg base "picked" 1 ["kinds", "lot"] (spF K sp_picked)) (h_checked_lot : Has P w K mg base "checked_lot" 3 ["lot", "many"] (spF K (sp_checked_lot K))) {f : Addr} {fd : FuncData} (F : Fd K "arranged" s_arranged [] f fd) : FnOk P w K mg base (L2N.CX P w) 4 f fd ["order", "lot"] (spF K (sp_arranged K)) := by
  refine fn_ok F sc_arranged (sp_arranged K) (fun _ => rfl) fun cdv A outer s H E g hr pre hx => ?_
  refine ⟨_, (ds_cons (ds_set (i := 2) sc_arranged.nd (de_callX h_checked_order hr (L2N.passes_call (L2N.takes_of rfl rfl rfl rfl) (fun _ _ _ _ h => h)) hx (da_cons (dv 0) (da_cons de_int (da_cons (de_globI (by rfl) T.g_MOST_KINDS) da_nil)))))
      (ds_one (ds_ret (de_call h_picked (hr.mono (by decide : 1 ≤ 3)) (da_cons (dv 2) (da_cons (de_callX h_checked_lot hr (L2N.passes_call (L2N.takes_of rfl rfl rfl rfl) (fun _ _ _ _ h => h)) hx (da_cons (dv 1) (da_cons (de_len T.b_len (da_cons (dv 2) da_nil)) da_nil))) da_nil)))))), ?_⟩
  obtain ⟨o, l⟩ := g
  obtain ⟨po, pl⟩ := pre
  refine ⟨(o, 1, 8), rfl, ⟨po, by show (0 : Int) ≤ 1; decide, by show (8 : Int) ≤ 8; decide⟩, fun r hr => ?_, fun x hx => .inl hx⟩
  obtain ⟨h1, hr⟩ := hr
  have h1 : isOrd 1 8 o = true := h1
  have hr : r = tupR o := hr
  subst hr
  obtain ⟨os, eo, l1, l8, ho⟩ := isOrd_el h1
  have l1 : (1 : Int) ≤ (os.length : Nat) := l1
  have l8 : ((os.length : Nat) : Int) ≤ 8 := l8
  rw [tupR_of eo]
  refine ⟨(l, os.length), by show _ = dats [l, .int (os.length : Nat)]; rw [show ((os.length : Nat) : Int) = ((os.map D.int).length : Nat) by rw [List.length_map]]; rfl, ⟨pl, by show 1 ≤ os.length; omega, by show os.length ≤ 8; omega⟩, fun r hr => ?_, fun x hx => .inr ⟨os, eo, h1, hx.1, hx.2⟩⟩
  obtain ⟨h2, hr⟩ := hr
  have h2 : isLotD (os.length : Nat) l = true := h2
  have hr : r = tupR l := hr
  subst hr
  obtain ⟨ls, el, hl⟩ := isLot_el h2
  rw [tupR_of el]
  refine ⟨(os, ls), rfl, by show os.length ≤ 1000; omega, fun r hr => ⟨os, ls, eo, el, h1, h2, hr⟩, fun _ h => h.elim⟩
theorem has_arranged (T : Tx K mg) (h_checked_order : Has P w K mg base "checked_order" 3 ["order", "least", "most"] (spF K (sp_checked_order K))) (h_picked : Has P w K mg base "picked" 1 ["kinds", "lot"] (spF K sp_picked)) (h_checked_lot : Has P w K mg base "checked_lot" 3 ["lot", "many"] (spF K (sp_checked_lot K))) {f : Addr} {fd : FuncData} (F : Fd K "arranged" s_arranged [] f fd) (gm : mg "arranged" = some (.ref f)) : Has P w K mg base "arranged" 4 ["order", "lot"] (spF K (sp_arranged K)) := by
  exact has_of F gm (ok_arranged T  h_checked_order h_picked h_checked_lot F) fun _ _ _ _ _ _ us hl => match us, hl with | [_, _], _ => rfl
theorem hask_arranged_0_lot_order (T : Tx K mg) (h_checked_order : Has P w K mg base "checked_order" 3 ["order", "least", "most"] (spF K (sp_checked_order K))) (h_picked : Has P w K mg base "picked" 1 ["kinds", "lot"] (spF K sp_picked)) (h_checked_lot : Has P w K mg base "checked_lot" 3 ["lot", "many"] (spF K (sp_checked_lot K))) {f : Addr} {fd : FuncData} (F : Fd K "arranged" s_arranged [] f fd) (gm : mg "arranged" = some (.ref f)) : HasK0 P w K mg base "arranged" 4 [1, 0] ["order", "lot"] ["lot", "order"] (spF K (sp_arranged K)) := by
  exact hasK0_of F gm (ok_arranged T h_checked_order h_picked h_checked_lot F) fun _ _ _ _ _ _ ws h2 => match ws, h2 with | [_, _], _ => rfl
end
end Q
/-! C17 -/
set_option Elab.async false
set_option linter.all false
set_option maxRecDepth 100000
set_option maxHeartbeats 8000000
namespace Q
open PySem PySem.Spec PyProof.Rows L2 N
section
variable {P : Program} {w : World} {K : PySem.W.Frag} {mg : Str → Option Value} {base : Heap}
/-! k02: lots inside, wrong lots, batches -/
def lotsIn (ns : List Int) : List (List Int) := (lotsOf (rgI (ns.length : Nat))).map fun ps => ps.map fun p => ns.getD p.toNat 0
theorem lotsOf_mem {ns lot : List Int} (h : lot ∈ lotsOf ns) : lot.length ≤ ns.length ∧ lot ≠ [] ∧ lot.Pairwise (· < ·) ∧ ∀ x ∈ lot, x ∈ ns := by
  obtain ⟨j, hj, hl⟩ := List.mem_flatMap.mp h
  have hj := List.mem_range.mp hj
  obtain ⟨a, b, c⟩ := lvl_ok hl
  exact ⟨by omega, fun z => (by rw [z] at a; cases a), b, c⟩
theorem lotsOf_len {ns : List Int} (hp : ns.Pairwise (· < ·)) (h8 : ns.length ≤ 8) : (lotsOf ns).length ≤ 400000 := by
  have := lotsTo_len hp h8 ns.length
  unfold lotsOf
  omega
theorem get_map {ns : List Int} {p : Int} (h0 : 0 ≤ p) (h : p < (ns.length : Nat)) : atI (ns.map D.int) p = some (.int (ns.getD p.toNat 0)) := by
  have := at_ints' (ns := ns) (k := p.toNat) (by omega)
  rw [show ((p.toNat : Nat) : Int) = p from by omega] at this
  exact this
def sp_lots_in : FS := { α := List Int, args := fun ns => [dTup ns], pre := fun ns => ns.length ≤ 8, post := fun ns r => r = .lst ((lotsIn ns).map dTup) }
/-- a value that is no lot, of the seven types -/
theorem lot_no {m : Int} {d : D} (h : rowOf d = none) : isLotD m d = false := by unfold isLotD; rw [h]
theorem lot_bad {m : Int} {ds : List D} (h : ¬ ∃ ns : List Int, ds = ns.map D.int ∧ LotOk m ns) : isLotD m (.lst ds) = false := by
  cases e : isLotD m (.lst ds) with
  | false => rfl
  | true =>
    obtain ⟨ns, e1, lo⟩ := isLot_el e
    cases e1
    exact absurd ⟨ns, rfl, lo⟩ h
theorem lot_badx {m : Int} {ds : List D} {x : D} (h : x ∈ ds) (hx : isK m x = false) : isLotD m (.lst ds) = false := lot_bad fun ⟨ns, e, lo⟩ => by
  rw [e] at h
  obtain ⟨n, hn, rfl⟩ := List.mem_map.mp h
  have := decide_eq_true (lo.2.2 n hn)
  have hx : decide (0 ≤ n ∧ n < m) = false := hx
  rw [hx] at this
  cases this
theorem lot_asc {m : Int} {ns : List Int} (h : ¬ ns.Pairwise (· < ·)) : isLotD m (.lst (ns.map D.int)) = false := lot_bad fun ⟨ms, e, lo⟩ => h (by rw [ints_inj e]; exact lo.2.1)
theorem noLists_lot {m : Int} {v : D} (h : v ∈ noLists) : isLotD m v = false ∧ RowIn v := by
  refine ⟨?_, (noLists_bad (m := m) h).2⟩
  refine lot_no ?_
  unfold noLists at h
  simp only [List.mem_cons, List.not_mem_nil, or_false] at h
  rcases h with rfl | rfl | rfl | rfl | rfl | rfl | rfl | rfl | rfl | rfl | rfl | rfl <;> rfl
def sp_bad_lot : SS := { α := Int, args := fun m => [.int m, .int 1], pre := fun m => 1 ≤ m ∧ m ≤ 8, post := fun m r => isLotD m r = false ∧ RowIn r, s0 := fun _ => StOk, s1 := fun _ => StOk }
end
end Q
/-! C18 -/
set_option Elab.async false
set_option linter.all false
set_option maxRecDepth 100000
set_option maxHeartbeats 8000000
namespace Q
open PySem PySem.Spec PyProof.Rows L2 N
section
variable {P : Program} {w : World} {K : PySem.W.Frag} {mg : Str → Option Value} {base : Heap}
/-! the house's overs and prices -/
theorem pick_in {n : Nat} {os ls : List Int} (h : KindsIn n os) : KindsIn n (pick os ls) := fun k hk => h k (List.mem_filter.mp hk).1
theorem cut1 (ds : List D) : N.cutD ds (some 1) none = ds.drop 1 := by
  cases ds with
  | nil => rfl
  | cons d ds => exact cut_from (n := 1) (by rw [List.length_cons]; omega)
def pairsOf (ns : List Int) : List D := (List.range (ns.length - 1)).map fun k => dTup [ns.getD k 0, ns.getD (k + 1) 0]
def sp_neighbours (K : PySem.W.Frag) : FS := { α := D × D, args := fun g => [g.1, g.2], pre := fun g => RowIn g.1 ∧ RowIn g.2, post := fun g r => ∃ os ls : List Int, rowOf g.1 = some (os.map D.int) ∧ rowOf g.2 = some (ls.map D.int) ∧ isOrd 1 8 g.1 = true ∧ isLotD (os.length : Nat) g.2 = true ∧ r = .tup (pairsOf (pick os ls)), exc := fun g x => (isOrd 1 8 g.1 = false ∧ x = exBad K "BadOrder") ∨ ∃ os : List Int, rowOf g.1 = some (os.map D.int) ∧ isOrd 1 8 g.1 = true ∧ isLotD (os.length : Nat) g.2 = false ∧ x = exBad K "BadLot" }
/-! neighbours -/
abbrev s_neighbours : Stmt := topS 56
abbrev n_neighbours : List Str := ["order", "lot", "row", "one", "behind"]
theorem sc_neighbours : FnScope n_neighbours ["order", "lot"] (defScope s_neighbours) := ⟨rfl, rfl, rfl, by decide +kernel, rfl, by decide +kernel, by decide +kernel⟩
theorem ok_neighbours (T : Tx K mg) (h_arranged : Has P w K mg base "arranged" 4 ["order", "lot"] (spF K (sp_arranged K))) {f : Addr} {fd : FuncData} (F : Fd K "neighbours" s_neighbours [] f fd) : FnOk P w K mg base (L2N.CX P w) 5 f fd ["order", "lot"] (spF K (sp_neighbours K)) := by
  refine fn_ok F sc_neighbours (sp_neighbours K) (fun _ => rfl) fun cdv A outer s H E g hr pre hx => ?_
  refine ⟨_, (ds_cons (ds_set (i := 2) sc_neighbours.nd (de_callX h_arranged hr (L2N.passes_call (L2N.takes_of rfl rfl rfl rfl) (fun _ _ _ _ h => h)) hx (da_cons (dv 0) (da_cons (dv 1) da_nil))))
      (ds_one (ds_ret (de_tuple T.b_tuple (da_cons (de_new (dn_lc2 sc_neighbours.nd (di_zipA T.b_zip (da_cons (dv 2) (da_cons (de_sliceT (dv 2) (do_some de_int) do_none) da_nil))) (blkOk_by (own := [("one", 3), ("behind", 4)]) (N := n_neighbours) (sc := defScope s_neighbours) (by decide +kernel)) (fun _ _ _ _ _ _ _ => dts_nil) (fun _ _ _ _ _ _ _ => (de_tup (da_cons (dv 3) (da_cons (dv 4) da_nil)))) (fun _ _ _ _ _ => pg_tup rfl (pgs_cons (pg_name (i := 3) sc_neighbours.nd rfl (Or.inl rfl)) (pgs_cons (pg_name (i := 4) sc_neighbours.nd rfl (Or.inl rfl)) pgs_nil rfl) rfl) rfl rfl))) da_nil))))), ?_⟩
  obtain ⟨o, l⟩ := g
  refine ⟨(o, l), rfl, pre, fun r hr => ?_, fun x hx => hx⟩
  obtain ⟨os, ls, eo, el, h1, h2, hr⟩ := hr
  have hr : r = dTup (pick os ls) := hr
  subst hr
  have hl : os.length ≤ 8 := by
    obtain ⟨os', eo', _, l8, _⟩ := isOrd_el h1
    rw [show rowOf (o, l).1 = rowOf o from rfl] at eo
    rw [eo] at eo'
    have := ints_inj (Option.some.inj eo')
    subst this
    have l8 : ((os.length : Nat) : Int) ≤ 8 := l8
    omega
  have hq : (pick os ls).length ≤ 8 := Nat.le_trans (List.length_filter_le _ _) hl
  generalize hr : pick os ls = ns at hq
  have ec : N.cutD (ns.map D.int) (some 1) none = (ns.drop 1).map D.int := (cut1 _).trans (by rw [List.map_drop])
  have em : min (ns.map D.int).length ((ns.drop 1).map D.int).length = ns.length - 1 := by rw [List.length_map, List.length_map, List.length_drop]; omega
  refine ⟨trivial, trivial, ns.map D.int, rfl, ?_⟩
  refine ⟨true, _, _, ns.map D.int, (ns.drop 1).map D.int, rfl, rfl, congrArg (fun z => some (true, z)) ec, ?_⟩
  refine ⟨by rw [em]; omega, fun k acc ρ => ρ = [.v o, .v l, .v (dTup ns), .un, .un] ∧ acc = (List.range k).map fun j => dTup [ns.getD j 0, ns.getD (j + 1) 0], ⟨rfl, rfl⟩, fun _ _ _ _ _ => ⟨trivial, trivial⟩, ?_, ?_⟩
  · rintro k d acc ρ hk ⟨x, y, hx, hy, rfl⟩ ⟨rfl, rfl⟩
    obtain ⟨h1, rfl⟩ := int_at hx
    rw [List.map_drop, List.getElem?_drop, Nat.add_comm] at hy
    obtain ⟨h5, rfl⟩ := int_at hy
    exact ⟨rfl, by rw [List.range_succ, List.map_append]; rfl⟩
  · rw [em]
    rintro acc ρ ⟨rfl, rfl⟩
    exact ⟨os, ls, eo, el, h1, h2, by rw [hr]; rfl⟩
theorem has_neighbours (T : Tx K mg) (h_arranged : Has P w K mg base "arranged" 4 ["order", "lot"] (spF K (sp_arranged K))) {f : Addr} {fd : FuncData} (F : Fd K "neighbours" s_neighbours [] f fd) (gm : mg "neighbours" = some (.ref f)) : Has P w K mg base "neighbours" 5 ["order", "lot"] (spF K (sp_neighbours K)) := by
  exact has_of F gm (ok_neighbours T  h_arranged F) fun _ _ _ _ _ _ us hl => match us, hl with | [_, _], _ => rfl
theorem hask_neighbours_0_lot_order (T : Tx K mg) (h_arranged : Has P w K mg base "arranged" 4 ["order", "lot"] (spF K (sp_arranged K))) {f : Addr} {fd : FuncData} (F : Fd K "neighbours" s_neighbours [] f fd) (gm : mg "neighbours" = some (.ref f)) : HasK0 P w K mg base "neighbours" 5 [1, 0] ["order", "lot"] ["lot", "order"] (spF K (sp_neighbours K)) := by
  exact hasK0_of F gm (ok_neighbours T h_arranged F) fun _ _ _ _ _ _ ws h2 => match ws, h2 with | [_, _], _ => rfl
def sp_house_over (K : PySem.W.Frag) : FS := { α := Nat × Tb × D × D, args := fun g => [tabI K g.2.1, g.2.2.1, g.2.2.2], pre := fun g => TbOk g.1 g.2.1 ∧ RowIn g.2.2.1 ∧ RowIn g.2.2.2, post := fun g r => ∃ os ls : List Int, rowOf g.2.2.1 = some (os.map D.int) ∧ rowOf g.2.2.2 = some (ls.map D.int) ∧ isOrd g.1 g.1 g.2.2.1 = true ∧ isLotD g.1 g.2.2.2 = true ∧ r = .int (overOf g.2.1 (pick os ls)), exc := fun g x => (isOrd g.1 g.1 g.2.2.1 = false ∧ x = exBad K "BadOrder") ∨ (isOrd g.1 g.1 g.2.2.1 = true ∧ isLotD g.1 g.2.2.2 = false ∧ x = exBad K "BadLot") }
/-! house_over -/
abbrev s_house_over : Stmt := topS 58
abbrev n_house_over : List Str := ["table", "order", "lot", "many", "kinds"]
theorem sc_house_over : FnScope n_house_over ["table", "order", "lot"] (defScope s_house_over) := ⟨rfl, rfl, rfl, by decide +kernel, rfl, by decide +kernel, by decide +kernel⟩
theorem ok_house_over (T : Tx K mg) (h_Table_many : HasPr P w K mg base (He.ga K "Table") "many" 1 (spF K (sp_Table_many K))) (h_checked_order : Has P w K mg base "checked_order" 3 ["order", "least", "most"] (spF K (sp_checked_order K))) (h_over_of : Has P w K mg base "over_of" 4 ["table", "pieces"] (spF K (sp_over_of K))) (h_picked : Has P w K mg base "picked" 1 ["kinds", "lot"] (spF K sp_picked)) (h_checked_lot : Has P w K mg base "checked_lot" 3 ["lot", "many"] (spF K (sp_checked_lot K))) {f : Addr} {fd : FuncData} (F : Fd K "house_over" s_house_over [] f fd) : FnOk P w K mg base (L2N.CX P w) 5 f fd ["table", "order", "lot"] (spF K (sp_house_over K)) := by
  refine fn_ok F sc_house_over (sp_house_over K) (fun _ => rfl) fun cdv A outer s H E g hr pre hx => ?_
  refine ⟨_, (ds_cons (ds_set (i := 3) sc_house_over.nd (de_prop T.cl_Table h_Table_many (hr.mono (by decide : 2 ≤ 4)) (dv 0)))
      (ds_cons (ds_set (i := 4) sc_house_over.nd (de_callX h_checked_order (hr.mono (by decide : 3 ≤ 4)) (L2N.passes_call (L2N.takes_of rfl rfl rfl rfl) (fun _ _ _ _ h => h)) hx (da_cons (dv 1) (da_cons (dv 3) (da_cons (dv 3) da_nil)))))
      (ds_one (ds_ret (de_call h_over_of hr (da_cons (dv 0) (da_cons (de_call h_picked (hr.mono (by decide : 1 ≤ 4)) (da_cons (dv 4) (da_cons (de_callX h_checked_lot (hr.mono (by decide : 3 ≤ 4)) (L2N.passes_call (L2N.takes_of rfl rfl rfl rfl) (fun _ _ _ _ h => h)) hx (da_cons (dv 2) (da_cons (dv 3) da_nil))) da_nil))) da_nil))))))), ?_⟩
  obtain ⟨n, T, o, l⟩ := g
  obtain ⟨hT, po, pl⟩ := pre
  have hT : TbOk n T := hT
  have h1n := hT.n1
  have h8n := hT.n8
  refine sAsg (d := .int (T.t.length : Nat)) (fun Q h => pr_many (fun _ h' => h') h) ?_
  rw [hT.len]
  refine ⟨(o, (n : Nat), (n : Nat)), rfl, ⟨po, by show (0 : Int) ≤ (n : Nat); omega, by show ((n : Nat) : Int) ≤ 8; omega⟩, fun r hr => ?_, fun x hx => .inl hx⟩
  obtain ⟨h1, hr⟩ := hr
  have h1 : isOrd (n : Nat) (n : Nat) o = true := h1
  have hr : r = tupR o := hr
  subst hr
  obtain ⟨os, eo, l1, l8, ho⟩ := isOrd_el h1
  have l1 : ((n : Nat) : Int) ≤ (os.length : Nat) := l1
  have l8 : ((os.length : Nat) : Int) ≤ (n : Nat) := l8
  have en : os.length = n := by omega
  rw [en] at ho
  rw [tupR_of eo]
  refine ⟨(l, n), rfl, ⟨pl, h1n, h8n⟩, fun r hr => ?_, fun x hx => .inr ⟨h1, hx.1, hx.2⟩⟩
  obtain ⟨h2, hr⟩ := hr
  have h2 : isLotD (n : Nat) l = true := h2
  have hr : r = tupR l := hr
  subst hr
  obtain ⟨ls, el, hl⟩ := isLot_el h2
  rw [tupR_of el]
  refine ⟨(os, ls), rfl, by show os.length ≤ 1000; omega, fun r hr => ?_, fun _ h => h.elim⟩
  have hr : r = dTup (pick os ls) := hr
  subst hr
  exact ⟨(n, T, pick os ls), rfl, ⟨hT, pick_in ho.2.1⟩, fun r hr => ⟨os, ls, eo, el, h1, h2, hr⟩, fun _ h => h.elim⟩
theorem has_house_over (T : Tx K mg) (h_Table_many : HasPr P w K mg base (He.ga K "Table") "many" 1 (spF K (sp_Table_many K))) (h_checked_order : Has P w K mg base "checked_order" 3 ["order", "least", "most"] (spF K (sp_checked_order K))) (h_over_of : Has P w K mg base "over_of" 4 ["table", "pieces"] (spF K (sp_over_of K))) (h_picked : Has P w K mg base "picked" 1 ["kinds", "lot"] (spF K sp_picked)) (h_checked_lot : Has P w K mg base "checked_lot" 3 ["lot", "many"] (spF K (sp_checked_lot K))) {f : Addr} {fd : FuncData} (F : Fd K "house_over" s_house_over [] f fd) (gm : mg "house_over" = some (.ref f)) : Has P w K mg base "house_over" 5 ["table", "order", "lot"] (spF K (sp_house_over K)) := by
  exact has_of F gm (ok_house_over T  h_Table_many h_checked_order h_over_of h_picked h_checked_lot F) fun _ _ _ _ _ _ us hl => match us, hl with | [_, _, _], _ => rfl
theorem hask_house_over_0_order_lot_table (T : Tx K mg) (h_Table_many : HasPr P w K mg base (He.ga K "Table") "many" 1 (spF K (sp_Table_many K))) (h_checked_order : Has P w K mg base "checked_order" 3 ["order", "least", "most"] (spF K (sp_checked_order K))) (h_over_of : Has P w K mg base "over_of" 4 ["table", "pieces"] (spF K (sp_over_of K))) (h_picked : Has P w K mg base "picked" 1 ["kinds", "lot"] (spF K sp_picked)) (h_checked_lot : Has P w K mg base "checked_lot" 3 ["lot", "many"] (spF K (sp_checked_lot K))) {f : Addr} {fd : FuncData} (F : Fd K "house_over" s_house_over [] f fd) (gm : mg "house_over" = some (.ref f)) : HasK0 P w K mg base "house_over" 5 [2, 0, 1] ["table", "order", "lot"] ["order", "lot", "table"] (spF K (sp_house_over K)) := by
  exact hasK0_of F gm (ok_house_over T h_Table_many h_checked_order h_over_of h_picked h_checked_lot F) fun _ _ _ _ _ _ ws h2 => match ws, h2 with | [_, _, _], _ => rfl
def sp_house_overs (K : PySem.W.Frag) : FS := { α := Nat × Tb × D, args := fun g => [tabI K g.2.1, g.2.2], pre := fun g => TbOk g.1 g.2.1 ∧ RowIn g.2.2, post := fun g r => ∃ os : List Int, rowOf g.2.2 = some (os.map D.int) ∧ isOrd g.1 g.1 g.2.2 = true ∧ r = .tup ((lotsOf (rgI g.1)).map fun l => .int (overOf g.2.1 (pick os l))), exc := fun g x => isOrd g.1 g.1 g.2.2 = false ∧ x = exBad K "BadOrder" }
/-! house_overs -/
abbrev s_house_overs : Stmt := topS 59
abbrev n_house_overs : List Str := ["table", "order", "many", "kinds", "lot"]
theorem sc_house_overs : FnScope n_house_overs ["table", "order"] (defScope s_house_overs) := ⟨rfl, rfl, rfl, by decide +kernel, rfl, by decide +kernel, by decide +kernel⟩
theorem ok_house_overs (T : Tx K mg) (h_Table_many : HasPr P w K mg base (He.ga K "Table") "many" 1 (spF K (sp_Table_many K))) (h_checked_order : Has P w K mg base "checked_order" 3 ["order", "least", "most"] (spF K (sp_checked_order K))) (h_all_lots : Has P w K mg base "all_lots" 4 ["many"] (spF K (sp_all_lots K))) (h_over_of : Has P w K mg base "over_of" 4 ["table", "pieces"] (spF K (sp_over_of K))) (h_picked : Has P w K mg base "picked" 1 ["kinds", "lot"] (spF K sp_picked)) {f : Addr} {fd : FuncData} (F : Fd K "house_overs" s_house_overs [] f fd) : FnOk P w K mg base (L2N.CX P w) 5 f fd ["table", "order"] (spF K (sp_house_overs K)) := by
  refine fn_ok F sc_house_overs (sp_house_overs K) (fun _ => rfl) fun cdv A outer s H E g hr pre hx => ?_
  refine ⟨_, (ds_cons (ds_set (i := 2) sc_house_overs.nd (de_prop T.cl_Table h_Table_many (hr.mono (by decide : 2 ≤ 4)) (dv 0)))
      (ds_cons (ds_set (i := 3) sc_house_overs.nd (de_callX h_checked_order (hr.mono (by decide : 3 ≤ 4)) (L2N.passes_call (L2N.takes_of rfl rfl rfl rfl) (fun _ _ _ _ h => h)) hx (da_cons (dv 1) (da_cons (dv 2) (da_cons (dv 2) da_nil)))))
      (ds_one (ds_ret (de_tuple T.b_tuple (da_cons (de_new (dn_lc sc_house_overs.nd (di_seq (de_callX h_all_lots hr (L2N.passes_call (L2N.takes_of rfl rfl rfl rfl) (fun _ _ _ _ h => h)) hx (da_cons (dv 2) da_nil))) (blkOk_by (own := [("lot", 4)]) (N := n_house_overs) (sc := defScope s_house_overs) (by decide +kernel)) (fun _ _ _ _ _ _ _ => dts_nil) (fun _ _ _ _ _ _ _ => (de_call h_over_of hr (da_cons (dv 0) (da_cons (de_call h_picked (hr.mono (by decide : 1 ≤ 4)) (da_cons (dv 3) (da_cons (dv 4) da_nil))) da_nil)))) (fun _ _ _ _ _ => pg_name (i := 4) sc_house_overs.nd rfl (Or.inl rfl)))) da_nil)))))), ?_⟩
  obtain ⟨n, T, o⟩ := g
  obtain ⟨hT, po⟩ := pre
  have hT : TbOk n T := hT
  have h1n := hT.n1
  have h8n := hT.n8
  refine sAsg (d := .int (T.t.length : Nat)) (fun Q h => pr_many (fun _ h' => h') h) ?_
  rw [hT.len]
  refine ⟨(o, (n : Nat), (n : Nat)), rfl, ⟨po, by show (0 : Int) ≤ (n : Nat); omega, by show ((n : Nat) : Int) ≤ 8; omega⟩, fun r hr => ?_, fun x hx => hx⟩
  obtain ⟨h1, hr⟩ := hr
  have h1 : isOrd (n : Nat) (n : Nat) o = true := h1
  have hr : r = tupR o := hr
  subst hr
  obtain ⟨os, eo, l1, l8, ho⟩ := isOrd_el h1
  have l1 : ((n : Nat) : Int) ≤ (os.length : Nat) := l1
  have l8 : ((os.length : Nat) : Int) ≤ (n : Nat) := l8
  have en : os.length = n := by omega
  rw [en] at ho
  rw [tupR_of eo]
  refine ⟨trivial, .int (n : Nat), rfl, rfl, fun r hr => ?_, fun x hx => ?_⟩
  · obtain ⟨m, em, m1, m8, hr⟩ := hr
    have em : (n : Int) = m := D.int.inj em
    subst em
    have hr : r = .tup ((lotsOf (rgI n)).map dTup) := hr
    subst hr
    refine ⟨by show ((lotsOf (rgI n)).map dTup).length ≤ 16777216; rw [List.length_map]; have := lotsOf_len (ns := rgI n) (rgI_sorted _) (by rw [rgI_len]; omega); omega, fun k acc ρ => ρ = [.v (tabI K T), .v o, .v (.int (n : Nat)), .v (dTup os), .un] ∧ acc = ((lotsOf (rgI n)).take k).map fun l => .int (overOf T (pick os l)), ⟨rfl, rfl⟩, fun _ _ _ _ _ => trivial, ?_, ?_⟩
    · rintro k d acc ρ hk hx ⟨rfl, rfl⟩
      have hx : ((lotsOf (rgI n)).map dTup)[k]? = some d := hx
      rw [List.getElem?_map] at hx
      obtain ⟨lot, hl, rfl⟩ := Option.map_eq_some_iff.mp hx
      refine ⟨(os, lot), rfl, by show os.length ≤ 1000; omega, fun r hr => ?_, fun _ h => h.elim⟩
      have hr : r = dTup (pick os lot) := hr
      subst hr
      refine ⟨(n, T, pick os lot), rfl, ⟨hT, pick_in ho.2.1⟩, fun r hr => ?_, fun _ h => h.elim⟩
      have hr : r = .int (overOf T (pick os lot)) := hr
      subst hr
      refine ⟨rfl, ?_⟩
      rw [List.take_add_one, hl, List.map_append]
      rfl
    · rintro acc ρ ⟨rfl, rfl⟩
      refine ⟨os, eo, h1, ?_⟩
      rw [List.length_map, List.take_length]
  · have h9 : inB 1 8 (.int (n : Nat)) = true := decide_eq_true (by omega)
    have := hx.1
    rw [h9] at this
    cases this
theorem has_house_overs (T : Tx K mg) (h_Table_many : HasPr P w K mg base (He.ga K "Table") "many" 1 (spF K (sp_Table_many K))) (h_checked_order : Has P w K mg base "checked_order" 3 ["order", "least", "most"] (spF K (sp_checked_order K))) (h_all_lots : Has P w K mg base "all_lots" 4 ["many"] (spF K (sp_all_lots K))) (h_over_of : Has P w K mg base "over_of" 4 ["table", "pieces"] (spF K (sp_over_of K))) (h_picked : Has P w K mg base "picked" 1 ["kinds", "lot"] (spF K sp_picked)) {f : Addr} {fd : FuncData} (F : Fd K "house_overs" s_house_overs [] f fd) (gm : mg "house_overs" = some (.ref f)) : Has P w K mg base "house_overs" 5 ["table", "order"] (spF K (sp_house_overs K)) := by
  exact has_of F gm (ok_house_overs T  h_Table_many h_checked_order h_all_lots h_over_of h_picked F) fun _ _ _ _ _ _ us hl => match us, hl with | [_, _], _ => rfl
theorem hask_house_overs_0_order_table (T : Tx K mg) (h_Table_many : HasPr P w K mg base (He.ga K "Table") "many" 1 (spF K (sp_Table_many K))) (h_checked_order : Has P w K mg base "checked_order" 3 ["order", "least", "most"] (spF K (sp_checked_order K))) (h_all_lots : Has P w K mg base "all_lots" 4 ["many"] (spF K (sp_all_lots K))) (h_over_of : Has P w K mg base "over_of" 4 ["table", "pieces"] (spF K (sp_over_of K))) (h_picked : Has P w K mg base "picked" 1 ["kinds", "lot"] (spF K sp_picked)) {f : Addr} {fd : FuncData} (F : Fd K "house_overs" s_house_overs [] f fd) (gm : mg "house_overs" = some (.ref f)) : HasK0 P w K mg base "house_overs" 5 [1, 0] ["table", "order"] ["order", "table"] (spF K (sp_house_overs K)) := by
  exact hasK0_of F gm (ok_house_overs T h_Table_many h_checked_order h_all_lots h_over_of h_picked F) fun _ _ _ _ _ _ ws h2 => match ws, h2 with | [_, _], _ => rfl
def housePrice (T : Tb) (os cs : List Int) : Int := priceOf T (os.filter fun k => decide (0 < g0 cs k)) + ((os.filter fun k => decide (0 < g0 cs k)).map fun k => (g0 cs k - 1) * tt T.t k k).sum
def sp_house_price (K : PySem.W.Frag) : FS := { α := Nat × Tb × D × D, args := fun g => [tabI K g.2.1, g.2.2.1, g.2.2.2], pre := fun g => TbOk g.1 g.2.1 ∧ RowIn g.2.2.1 ∧ RowIn g.2.2.2, post := fun g r => ∃ os cs : List Int, rowOf g.2.2.1 = some (os.map D.int) ∧ rowOf g.2.2.2 = some (cs.map D.int) ∧ isOrd g.1 g.1 g.2.2.1 = true ∧ isBat g.1 g.1 g.2.2.2 = true ∧ r = .int (housePrice g.2.1 os cs), exc := fun g x => (isOrd g.1 g.1 g.2.2.1 = false ∧ x = exBad K "BadOrder") ∨ (isOrd g.1 g.1 g.2.2.1 = true ∧ isBat g.1 g.1 g.2.2.2 = false ∧ x = exBad K "BadBatch") }
theorem isBat_el {lo hi : Int} {d : D} (h : isBat lo hi d = true) : ∃ cs : List Int, rowOf d = some (cs.map D.int) ∧ lo ≤ (cs.length : Nat) ∧ ((cs.length : Nat) : Int) ≤ hi ∧ ∀ c ∈ cs, 0 ≤ c ∧ c ≤ 1000000000 := by
  unfold isBat at h
  cases e : rowOf d with
  | none => rw [e] at h; cases h
  | some ds =>
    rw [e] at h
    obtain ⟨h1, h2⟩ := Bool.and_eq_true_iff.mp h
    have h1 := of_decide_eq_true h1
    obtain ⟨ns, rfl, hn⟩ := ints_of (m := 1000000001) (ds := ds) fun x hx => by
      have := List.all_eq_true.mp h2 x hx
      cases x with
      | int i =>
        have := of_decide_eq_true (show decide (0 ≤ i ∧ i ≤ 1000000000) = true from this)
        exact decide_eq_true (show 0 ≤ i ∧ i < 1000000001 by omega)
      | _ => cases this
    rw [List.length_map] at h1
    exact ⟨ns, rfl, h1.1, h1.2, fun c hc => by have := hn c hc; omega⟩
/-! house_price -/
abbrev s_house_price : Stmt := topS 57
abbrev n_house_price : List Str := ["table", "order", "batch", "many", "kinds", "counts", "row", "turns", "total", "kind"]
theorem sc_house_price : FnScope n_house_price ["table", "order", "batch"] (defScope s_house_price) := ⟨rfl, rfl, rfl, by decide +kernel, rfl, by decide +kernel, by decide +kernel⟩
theorem ok_house_price (T : Tx K mg) (h_Table_many : HasPr P w K mg base (He.ga K "Table") "many" 1 (spF K (sp_Table_many K))) (h_checked_order : Has P w K mg base "checked_order" 3 ["order", "least", "most"] (spF K (sp_checked_order K))) (h_checked_batch : Has P w K mg base "checked_batch" 2 ["batch", "least", "most"] (spF K (sp_checked_batch K))) (h_made : Has P w K mg base "made" 1 ["kinds", "counts"] (spF K sp_made)) (h_Table_turns : HasPr P w K mg base (He.ga K "Table") "turns" 1 (spF K (sp_Table_turns K))) (h_price_of : Has P w K mg base "price_of" 3 ["table", "pieces"] (spF K (sp_price_of K))) {f : Addr} {fd : FuncData} (F : Fd K "house_price" s_house_price [] f fd) : FnOk P w K mg base (L2N.CX P w) 4 f fd ["table", "order", "batch"] (spF K (sp_house_price K)) := by
  refine fn_ok F sc_house_price (sp_house_price K) (fun _ => rfl) fun cdv A outer s H E g hr pre hx => ?_
  refine ⟨_, (ds_cons (ds_set (i := 3) sc_house_price.nd (de_prop T.cl_Table h_Table_many (hr.mono (by decide : 2 ≤ 3)) (dv 0)))
      (ds_cons (ds_set (i := 4) sc_house_price.nd (de_callX h_checked_order hr (L2N.passes_call (L2N.takes_of rfl rfl rfl rfl) (fun _ _ _ _ h => h)) hx (da_cons (dv 1) (da_cons (dv 3) (da_cons (dv 3) da_nil)))))
      (ds_cons (ds_set (i := 5) sc_house_price.nd (de_callX h_checked_batch (hr.mono (by decide : 2 ≤ 3)) (L2N.passes_call (L2N.takes_of rfl rfl rfl rfl) (fun _ _ _ _ h => h)) hx (da_cons (dv 2) (da_cons (dv 3) (da_cons (dv 3) da_nil)))))
      (ds_cons (ds_set (i := 6) sc_house_price.nd (de_call h_made (hr.mono (by decide : 1 ≤ 3)) (da_cons (dv 4) (da_cons (dv 5) da_nil))))
      (ds_cons (ds_set (i := 7) sc_house_price.nd (de_prop T.cl_Table h_Table_turns (hr.mono (by decide : 2 ≤ 3)) (dv 0)))
      (ds_cons (ds_set (i := 8) sc_house_price.nd (de_call h_price_of hr (da_cons (dv 0) (da_cons (dv 6) da_nil))))
      (ds_cons (ds_for (passes_of rfl) (di_seq (dv 6)) (dg 9 sc_house_price.nd)
      (ds_one (ds_set (i := 8) sc_house_price.nd (de_add (dv 8) (de_mul (de_sub (de_ix (dv 5) (dv 9)) de_int) (de_ix (de_ix (dv 7) (dv 9)) (dv 9)))))))
      (ds_one (ds_ret (dv 8)))))))))), ?_⟩
  obtain ⟨n, T, o, l⟩ := g
  obtain ⟨hT, po, pl⟩ := pre
  have hT : TbOk n T := hT
  have h1n := hT.n1
  have h8n := hT.n8
  refine sAsg (d := .int (T.t.length : Nat)) (fun Q h => pr_many (fun _ h' => h') h) ?_
  rw [hT.len]
  refine ⟨(o, (n : Nat), (n : Nat)), rfl, ⟨po, by show (0 : Int) ≤ (n : Nat); omega, by show ((n : Nat) : Int) ≤ 8; omega⟩, fun r hr => ?_, fun x hx => .inl hx⟩
  obtain ⟨h1, hr⟩ := hr
  have h1 : isOrd (n : Nat) (n : Nat) o = true := h1
  have hr : r = tupR o := hr
  subst hr
  obtain ⟨os, eo, l1, l8, ho⟩ := isOrd_el h1
  have l1 : ((n : Nat) : Int) ≤ (os.length : Nat) := l1
  have l8 : ((os.length : Nat) : Int) ≤ (n : Nat) := l8
  have en : os.length = n := by omega
  rw [en] at ho
  rw [tupR_of eo]
  refine ⟨(l, (n : Nat), (n : Nat)), rfl, pl, fun r hr => ?_, fun x hx => .inr ⟨h1, hx.1, hx.2⟩⟩
  obtain ⟨h2, hr⟩ := hr
  have h2 : isBat (n : Nat) (n : Nat) l = true := h2
  have hr : r = tupR l := hr
  subst hr
  obtain ⟨cs, el, c1, c8, hc⟩ := isBat_el h2
  have c1 : ((n : Nat) : Int) ≤ (cs.length : Nat) := c1
  have c8 : ((cs.length : Nat) : Int) ≤ (n : Nat) := c8
  have ecs : cs.length = n := by omega
  rw [tupR_of el]
  refine ⟨(os, cs), rfl, ⟨by show os.length ≤ 1000; omega, by show KindsIn cs.length os; rw [ecs]; exact ho.2.1⟩, fun r hr => ?_, fun _ h => h.elim⟩
  have hr : r = dTup (os.filter fun k => decide (0 < g0 cs k)) := hr
  subst hr
  have hns : KindsIn n (os.filter fun k => decide (0 < g0 cs k)) := fun k hk => ho.2.1 k (List.mem_filter.mp hk).1
  have fin : .int (housePrice T os cs) = D.int (priceOf T (os.filter fun k => decide (0 < g0 cs k)) + ((os.filter fun k => decide (0 < g0 cs k)).map fun k => (g0 cs k - 1) * tt T.t k k).sum) := rfl
  generalize os.filter (fun k => decide (0 < g0 cs k)) = ns at hns fin
  dsimp only [kD]
  refine sAsg (d := .tup (T.t.map dTup)) (fun Q h => ?_) ?_
  · exact pr_turns (fun _ h' => h') h
  refine ⟨(n, T, ns), rfl, ⟨hT, hns⟩, fun r hr => ?_, fun _ h => h.elim⟩
  have hr : r = .int (priceOf T ns) := hr
  subst hr
  refine ⟨fun k ρ => ∃ s, ρ = [.v (tabI K T), .v o, .v l, .v (.int (n : Nat)), .v (dTup os), .v (dTup cs), .v (dTup ns), .v (.tup (T.t.map dTup)), .v (.int (priceOf T ns + ((ns.take k).map fun k => (g0 cs k - 1) * tt T.t k k).sum)), s], ⟨_, by rw [List.take_zero, List.map_nil, List.sum_nil, Int.add_zero]; rfl⟩, fun _ _ _ _ => trivial, ?_, ?_⟩
  · rintro k d ρ hk hx ⟨s, rfl⟩
    have hx : (ns.map D.int)[k]? = some d := hx
    obtain ⟨h3, rfl⟩ := int_at hx
    have hk' := kin hns h3
    have hg : 0 ≤ g0 cs (ns.getD k 0) ∧ g0 cs (ns.getD k 0) ≤ 1000000000 := by
      have h4 : (ns.getD k 0).toNat < cs.length := by omega
      unfold g0
      rw [List.getD_eq_getElem?_getD (l := cs), List.getElem?_eq_getElem h4]
      exact hc _ (List.getElem_mem h4)
    have hx2 : ns[k]? = some (ns.getD k 0) := by rw [List.getD_eq_getElem?_getD, List.getElem?_eq_getElem h3]; rfl
    have es : ((ns.take (k + 1)).map fun k => (g0 cs k - 1) * tt T.t k k).sum = ((ns.take k).map fun k => (g0 cs k - 1) * tt T.t k k).sum + (g0 cs (ns.getD k 0) - 1) * tt T.t (ns.getD k 0) (ns.getD k 0) := by
      rw [List.take_add_one, hx2, List.map_append, List.sum_append]
      simp
    refine ⟨_, at_mi (f := D.int) (d := 0) hk'.1 (by rw [ecs]; exact hk'.2), ?_⟩
    exact ⟨_, (at_row hT hk'.1 hk'.2).1, _, at_tt hT hk' hk', .inl ⟨by show -(2 ^ 64) < g0 cs (ns.getD k 0) - 1; omega, by show g0 cs (ns.getD k 0) - 1 < 2 ^ 64; omega⟩, _, by rw [es, ← Int.add_assoc]; rfl⟩
  · rintro ρ ⟨s, rfl⟩
    refine ⟨os, cs, eo, el, h1, h2, ?_⟩
    show D.int (priceOf T ns + ((ns.take (ns.map D.int).length).map fun k => (g0 cs k - 1) * tt T.t k k).sum) = .int (housePrice T os cs)
    rw [List.length_map, List.take_length, fin]
theorem has_house_price (T : Tx K mg) (h_Table_many : HasPr P w K mg base (He.ga K "Table") "many" 1 (spF K (sp_Table_many K))) (h_checked_order : Has P w K mg base "checked_order" 3 ["order", "least", "most"] (spF K (sp_checked_order K))) (h_checked_batch : Has P w K mg base "checked_batch" 2 ["batch", "least", "most"] (spF K (sp_checked_batch K))) (h_made : Has P w K mg base "made" 1 ["kinds", "counts"] (spF K sp_made)) (h_Table_turns : HasPr P w K mg base (He.ga K "Table") "turns" 1 (spF K (sp_Table_turns K))) (h_price_of : Has P w K mg base "price_of" 3 ["table", "pieces"] (spF K (sp_price_of K))) {f : Addr} {fd : FuncData} (F : Fd K "house_price" s_house_price [] f fd) (gm : mg "house_price" = some (.ref f)) : Has P w K mg base "house_price" 4 ["table", "order", "batch"] (spF K (sp_house_price K)) := by
  exact has_of F gm (ok_house_price T  h_Table_many h_checked_order h_checked_batch h_made h_Table_turns h_price_of F) fun _ _ _ _ _ _ us hl => match us, hl with | [_, _, _], _ => rfl
end
end Q
/-! C19 -/
set_option Elab.async false
set_option linter.all false
set_option maxRecDepth 100000
set_option maxHeartbeats 8000000
namespace Q
open PySem PySem.Spec PyProof.Rows L2 N
section
variable {P : Program} {w : World} {K : PySem.W.Frag} {mg : Str → Option Value} {base : Heap}
/-! lists without a name -/
def ghs : List Addr → List (List Int) → En
  | a :: as, l :: ls => N.Slot.own a (l.map D.int) :: ghs as ls
  | _, _ => []
theorem ghs_snoc : ∀ {as : List Addr} {ls : List (List Int)} (a : Addr) (l : List Int), as.length = ls.length → ghs (as ++ [a]) (ls ++ [l]) = ghs as ls ++ [N.Slot.own a (l.map D.int)]
  | [], [], _, _, _ => rfl
  | a :: as, l :: ls, b, m, h => by
    rw [List.cons_append, List.cons_append, ghs, ghs, List.cons_append, ghs_snoc b m (by simpa using h)]
theorem ghs_at : ∀ {as : List Addr} {ls : List (List Int)} {j : Nat} {a : Addr} {l : List Int}, as[j]? = some a → ls[j]? = some l → (ghs as ls)[j]? = some (N.Slot.own a (l.map D.int))
  | [], _, _, _, _, h, _ => by simp at h
  | _ :: _, [], _, _, _, _, h => by simp at h
  | a :: as, l :: ls, 0, b, m, h, h' => by
    have h : a = b := by simpa using h
    have h' : l = m := by simpa using h'
    rw [ghs, h, h']
    rfl
  | a :: as, l :: ls, j + 1, _, _, h, h' => by
    rw [ghs, List.getElem?_cons_succ]
    exact ghs_at (by simpa using h) (by simpa using h')
theorem ghs_set : ∀ {as : List Addr} {ls : List (List Int)} {j : Nat} {a : Addr} {l : List Int}, as[j]? = some a → (ghs as ls).set j (N.Slot.own a (l.map D.int)) = ghs as (ls.set j l)
  | [], _, _, _, _, h => by simp at h
  | _ :: _, [], _, _, _, _ => by simp [ghs]
  | a :: as, l :: ls, 0, b, _, h => by
    have h : a = b := by simpa using h
    rw [ghs, List.set_cons_zero, List.set_cons_zero, ghs, h]
  | a :: as, l :: ls, j + 1, _, _, h => by
    rw [ghs, List.set_cons_succ, List.set_cons_succ, ghs, ghs_set (by simpa using h)]
theorem ghs_mem : ∀ {as : List Addr} {ls : List (List Int)} {a : Addr}, as.length = ls.length → a ∈ as → ∃ (j : Nat) (es : List D), (ghs as ls)[j]? = some (N.Slot.own a es)
  | b :: as, l :: ls, a, hl, h => by
    rcases List.mem_cons.mp h with rfl | h
    · exact ⟨0, _, rfl⟩
    · obtain ⟨j, es, e⟩ := ghs_mem (ls := ls) (by simpa using hl) h
      exact ⟨j + 1, es, by rw [ghs, List.getElem?_cons_succ]; exact e⟩
theorem ghs_Gh (base : En) : ∀ {as : List Addr} {ls : List (List Int)} (pre : En), as.length = ls.length → Gh (base ++ pre ++ ghs as ls) base.length as (ls.map fun l => l.map D.int)
  | [], [], _, _ => .nil
  | a :: as, l :: ls, pre, h => by
    have ih := ghs_Gh base (as := as) (ls := ls) (pre ++ [N.Slot.own a (l.map D.int)]) (by simpa using h)
    have e : base ++ (pre ++ [N.Slot.own a (l.map D.int)]) ++ ghs as ls = base ++ pre ++ ghs (a :: as) (l :: ls) := by
      rw [ghs, List.append_assoc, List.append_assoc, List.append_assoc]
      rfl
    rw [e] at ih
    refine .cons (j := base.length + pre.length) (by omega) ?_ ih
    rw [List.getElem?_append_right (by simp), List.length_append, Nat.sub_self]
    rfl
theorem perm_ints {ds : List D} {ns : List Int} (h : ds.Perm (ns.map D.int)) : ∃ ms : List Int, ds = ms.map D.int ∧ ms.Perm ns := by
  have hd : ∀ d ∈ ds, ∃ i, d = .int i := fun d hd => by
    obtain ⟨n, _, rfl⟩ := List.mem_map.mp (h.mem_iff.mp hd)
    exact ⟨n, rfl⟩
  refine ⟨ds.map toI, ?_, ?_⟩
  · rw [List.map_map]
    conv => lhs; rw [← List.map_id ds]
    refine List.map_congr_left fun d hd' => ?_
    obtain ⟨i, rfl⟩ := hd d hd'
    rfl
  · have := h.map toI
    rw [toI_map] at this
    exact this
end
end Q
/-! C20 -/
set_option Elab.async false
set_option linter.all false
set_option maxRecDepth 100000
set_option maxHeartbeats 8000000
namespace Q
open PySem PySem.Spec PyProof.Rows L2 N
section
variable {P : Program} {w : World} {K : PySem.W.Frag} {mg : Str → Option Value} {base : Heap}
/-! prices drawn -/
def pricesD (T : Tb) : D := .lst [.lst (T.t.map lstI), lstI T.b, lstI T.e]
def sp_law_price : SS := { α := Int, args := fun m => [.int m], pre := fun m => 0 ≤ m ∧ m ≤ 9999, post := fun m r => ∃ i, r = .int i ∧ 0 ≤ i ∧ i ≤ m, s0 := fun _ => StOk, s1 := fun _ => StOk }
/-! _law_price -/
abbrev s_law_price : Stmt := topS 73
abbrev n_law_price : List Str := ["store", "top"]
theorem sc_law_price : FnScope n_law_price ["store", "top"] (defScope s_law_price) := ⟨rfl, rfl, rfl, by decide +kernel, rfl, by decide +kernel, by decide +kernel⟩
theorem ok_law_price (T : Tx K mg) (h_law_edge : Has P w K mg base "_law_edge" 3 ["store", "low", "high"] (spS K sp_edge)) (h_law_take : Has P w K mg base "_law_take" 2 ["store", "many"] (spS K sp_take)) {f : Addr} {fd : FuncData} (F : Fd K "_law_price" s_law_price [] f fd) : FnOk P w K mg base (L2N.CX P w) 4 f fd ["store", "top"] (spS K sp_law_price) := by
  refine fnS_ok F sc_law_price sp_law_price (fun _ => rfl) (by decide) fun cdv A outer s H E g p ss hr pre hs => ?_
  refine ⟨_, (ds_cons (ds_if (dt_gt (dv 1) de_int)
      (ds_one (ds_ret (de_callS h_law_edge hr (dv 0) (da_cons de_int (da_cons (dv 1) da_nil)))))
      ds_nil)
      (ds_one (ds_ret (de_callS h_law_take (hr.mono (by decide : 2 ≤ 3)) (dv 0) (da_cons (de_add (dv 1) de_int) da_nil))))), ?_⟩
  change Int at g
  obtain ⟨h0, h1⟩ := pre
  have h0 : 0 ≤ g := h0
  have h1 : g ≤ 9999 := h1
  show if decide ((100 : Int) < g) = true then _ else _
  refine ite2 (fun h => ?_) (fun h => ?_)
  · refine ⟨(0, g), rfl, hs, ⟨by show (0 : Int) ≤ g; omega, by show g - 0 + 1 < 2 ^ 1000; omega⟩, fun r s' hr hs' => ?_⟩
    obtain ⟨i, rfl, i0, i1⟩ := hr
    exact ⟨⟨i, rfl, i0, i1⟩, s', rfl, hs'⟩
  · refine ⟨g + 1, rfl, hs, by show g + 1 < 2 ^ 1000; omega, fun r s' hr hs' => ?_⟩
    obtain ⟨i, rfl, i0, i1⟩ := hr
    exact ⟨⟨i, rfl, i0, by omega⟩, s', rfl, hs'⟩
theorem has_law_price (T : Tx K mg) (h_law_edge : Has P w K mg base "_law_edge" 3 ["store", "low", "high"] (spS K sp_edge)) (h_law_take : Has P w K mg base "_law_take" 2 ["store", "many"] (spS K sp_take)) {f : Addr} {fd : FuncData} (F : Fd K "_law_price" s_law_price [] f fd) (gm : mg "_law_price" = some (.ref f)) : Has P w K mg base "_law_price" 4 ["store", "top"] (spS K sp_law_price) := by
  exact has_of F gm (ok_law_price T  h_law_edge h_law_take F) fun _ _ _ _ _ _ us hl => match us, hl with | [_, _], _ => rfl
theorem at_k {l : List D} {k : Nat} {x : D} (h : l[k]? = some x) : atI l (0 + (k : Int)) = some x := by
  have hk := (List.getElem?_eq_some_iff.mp h).1
  rw [Int.zero_add]
  unfold atI
  rw [ixN_nat (by omega) (by omega), Int.toNat_natCast]
  exact h
def sp_free_prices : SS := { α := Nat, args := fun n => [.int (n : Nat)], pre := fun n => 1 ≤ n ∧ n ≤ 8, post := fun n r => ∃ T, TbOk n T ∧ r = pricesD T, s0 := fun _ => StOk, s1 := fun _ => StOk }
/-! _law_free_prices -/
abbrev s_law_free_prices : Stmt := topS 83
abbrev n_law_free_prices : List Str := ["store", "many", "top", "turns", "way", "a", "row", "begins", "b"]
theorem sc_law_free_prices : FnScope n_law_free_prices ["store", "many"] (defScope s_law_free_prices) := ⟨rfl, rfl, rfl, by decide +kernel, rfl, by decide +kernel, by decide +kernel⟩
theorem ok_law_free_prices (T : Tx K mg) (h_law_pick : Has P w K mg base "_law_pick" 3 ["store", "things"] (spS K sp_pick)) (h_law_price : Has P w K mg base "_law_price" 4 ["store", "top"] (spS K sp_law_price)) (h_law_take : Has P w K mg base "_law_take" 2 ["store", "many"] (spS K sp_take)) {f : Addr} {fd : FuncData} (F : Fd K "_law_free_prices" s_law_free_prices [] f fd) : FnOk P w K mg base (L2N.CX P w) 5 f fd ["store", "many"] (spS K sp_free_prices) := by
  refine fnS_ok F sc_law_free_prices sp_free_prices (fun _ => rfl) (by decide) fun cdv A outer s H E g p ss hr pre hs => ?_
  refine ⟨_, (ds_cons (ds_set (i := 2) sc_law_free_prices.nd (de_callS h_law_pick (hr.mono (by decide : 3 ≤ 4)) (dv 0) (da_cons (de_new (dn_lst (da_cons de_int (da_cons de_int (da_cons de_int (da_cons de_int (da_cons de_int (da_cons de_int da_nil)))))))) da_nil)))
      (ds_cons (ds_setLcO (j := 3) sc_law_free_prices.nd (di_range1 T.b_range (da_cons (dv 1) da_nil)) (blkOk_by (own := [("a", 5)]) (N := n_law_free_prices) (sc := defScope s_law_free_prices) (by decide +kernel)) (fun _ _ _ _ _ _ _ => dts_nil) (fun _ _ _ _ _ _ _ => (de_gnew 9 (dn_lc sc_law_free_prices.nd (di_range1 T.b_range (da_cons (dv 1) da_nil)) (blkOk_in (sc0 := defScope s_law_free_prices) (own := [("b", 8)]) (NN := n_law_free_prices) (by decide +kernel)) (fun _ _ _ _ _ _ _ => dts_nil) (fun _ _ _ _ _ _ _ => (de_callS h_law_price hr (dv 0) (da_cons (dv 2) da_nil))) (fun _ _ _ _ _ => pg_name (i := 8) sc_law_free_prices.nd rfl (Or.inl rfl))))) (fun _ _ _ _ _ => pg_name (i := 5) sc_law_free_prices.nd rfl (Or.inl rfl)) (sw_true rfl rfl rfl (by decide +kernel)))
      (ds_cons (ds_set (i := 4) sc_law_free_prices.nd (de_callS h_law_take (hr.mono (by decide : 2 ≤ 4)) (dv 0) (da_cons de_int da_nil)))
      (ds_cons (ds_for (passes_of rfl) (di_range1 T.b_range (da_cons (dv 1) da_nil)) (dg 5 sc_law_free_prices.nd)
      (ds_cons (ds_set (i := 6) sc_law_free_prices.nd (de_ix (dv 3) (dv 5)))
      (ds_one (ds_if (dt_lt (dv 4) de_int)
      (ds_one (ds_setIxG (de_mul (dv 2) (dv 4)) (dv 6) (dv 5)))
      ds_nil))))
      (ds_glock 9 3 (ds_cons (ds_setLcO (j := 7) sc_law_free_prices.nd (di_range1 T.b_range (da_cons (dv 1) da_nil)) (blkOk_by (own := [("a", 5)]) (N := n_law_free_prices) (sc := defScope s_law_free_prices) (by decide +kernel)) (fun _ _ _ _ _ _ _ => dts_nil) (fun _ _ _ _ _ _ _ => (de_callS h_law_price hr (dv 0) (da_cons (dv 2) da_nil))) (fun _ _ _ _ _ => pg_name (i := 5) sc_law_free_prices.nd rfl (Or.inl rfl)) (sw_true rfl rfl rfl (by decide +kernel)))
      (ds_lock 7 (ds_lock 3 (ds_one (ds_ret (de_new (dn_lst (da_cons (dv 3) (da_cons (dv 7) (da_cons (de_new (dn_lc sc_law_free_prices.nd (di_range1 T.b_range (da_cons (dv 1) da_nil)) (blkOk_by (own := [("a", 5)]) (N := n_law_free_prices) (sc := defScope s_law_free_prices) (by decide +kernel)) (fun _ _ _ _ _ _ _ => dts_nil) (fun _ _ _ _ _ _ _ => (de_callS h_law_price hr (dv 0) (da_cons (dv 2) da_nil))) (fun _ _ _ _ _ => pg_name (i := 5) sc_law_free_prices.nd rfl (Or.inl rfl)))) da_nil))))))))))))))), ?_⟩
  change Nat at g
  obtain ⟨n1, n8⟩ := pre
  have n1 : 1 ≤ g := n1
  have n8 : g ≤ 8 := n8
  refine ⟨(false, [.int 0, .int 1, .int 3, .int 20, .int 9999, .int 9999]), rfl, hs, ⟨by simp, by simp⟩, fun d s1 hd hs => ?_⟩
  obtain ⟨top, rfl, t0, t1⟩ : ∃ i : Int, d = .int i ∧ 0 ≤ i ∧ i ≤ 9999 := by
    have hd : d ∈ [D.int 0, .int 1, .int 3, .int 20, .int 9999, .int 9999] := hd
    simp only [List.mem_cons, List.not_mem_nil, or_false] at hd
    rcases hd with h | h | h | h | h | h <;> exact ⟨_, h, by decide, by decide⟩
  have rg : -(2 ^ 62) ≤ ((g : Nat) : Int) ∧ ((g : Nat) : Int) < 2 ^ 62 ∧ (((g : Nat) : Int) - 0).toNat ≤ 16777216 ∧ (((g : Nat) : Int) - 0).toNat = g := by omega
  refine ⟨trivial, by decide, by decide, rg.1, rg.2.1, rg.2.2.1, fun k acc ρ => ∃ (s : List D) (as : List Addr) (ls : List (List Int)), ρ = [.own p s, .v (.int (g : Nat)), .v (.int top), .un, .un, .un, .un, .un, .un] ++ ghs as ls ∧ StOk s ∧ acc = as.map D.obj ∧ as.length = k ∧ ls.length = k ∧ as.Nodup ∧ ∀ l ∈ ls, PrOk g l, ?_, ?_, ?_, ?_⟩
  · exact ⟨s1, [], [], rfl, hs, rfl, rfl, rfl, List.nodup_nil, fun l hl => by simp at hl⟩
  · exact fun _ _ _ _ _ => trivial
  · rintro k d acc ρ hk rfl ⟨s, as, ls, rfl, hs, rfl, hal, hll, nd, hp⟩
    refine ⟨trivial, by decide, by decide, rg.1, rg.2.1, rg.2.2.1, fun j acc ρ => ∃ (s : List D) (l : List Int), ρ = [.own p s, .v (.int (g : Nat)), .v (.int top), .un, .un, .v (.int (0 + (k : Int))), .un, .un, .un] ++ ghs as ls ∧ StOk s ∧ acc = l.map D.int ∧ l.length = j ∧ ∀ x ∈ l, 0 ≤ x ∧ x ≤ 9999, ⟨s, [], rfl, hs, rfl, rfl, fun x hx => by simp at hx⟩, fun _ _ _ _ _ => trivial, ?_, ?_⟩
    · rintro j d acc ρ hj rfl ⟨s, l, rfl, hs, rfl, hl, hx⟩
      refine ⟨top, rfl, hs, ⟨t0, t1⟩, fun d s2 hd hs => ?_⟩
      obtain ⟨i, rfl, i0, i1⟩ := hd
      have i1 : i ≤ top := i1
      refine ⟨s2, l ++ [i], rfl, hs, by rw [List.map_append]; rfl, by rw [List.length_append, hl]; rfl, fun x hm => ?_⟩
      rcases List.mem_append.mp hm with h | h
      · exact hx x h
      · rw [List.mem_singleton.mp h]
        omega
    · rintro acc ρ ⟨s, l, rfl, hs, rfl, hl, hx⟩
      have hl : l.length = g := hl.trans rg.2.2.2
      refine ⟨by show 9 ≤ (ghs as ls).length + 9; omega, fun a ha => ⟨s, as ++ [a], ls ++ [l], ?_, hs, by rw [List.map_append]; rfl, by rw [List.length_append, hal]; rfl, by rw [List.length_append, hll]; rfl, ?_, fun l' hl' => ?_⟩⟩
      · rw [ghs_snoc a l (by rw [hal, hll])]
        rfl
      · refine List.nodup_append.mpr ⟨nd, by simp, fun x hx y hy => ?_⟩
        rw [List.mem_singleton.mp hy]
        rintro rfl
        obtain ⟨j, es, e⟩ := ghs_mem (ls := ls) (by rw [hal, hll]) hx
        exact ha (j + 9) x es e rfl
      · rcases List.mem_append.mp hl' with h | h
        · exact hp l' h
        · rw [List.mem_singleton.mp h]
          exact ⟨hl, hx⟩
  rintro acc ρ ⟨s, as, ls, rfl, hs, rfl, hal, hll, nd, hp⟩ q
  have hal : as.length = g := hal.trans rg.2.2.2
  have hll : ls.length = g := hll.trans rg.2.2.2
  refine ⟨(4 : Int), rfl, hs, tk (by decide), fun d s2 hd hs => ?_⟩
  obtain ⟨way, rfl, w0, w1⟩ := hd
  refine ⟨by decide, by decide, rg.1, rg.2.1, fun k ρ => ∃ (s5 s6 : Slot) (ls : List (List Int)), ρ = [.own p s2, .v (.int (g : Nat)), .v (.int top), .own q (as.map D.obj), .v (.int way), s5, s6, .un, .un] ++ ghs as ls ∧ ls.length = g ∧ (∀ l ∈ ls, PrOk g l) ∧ free 0 [s5], ⟨_, _, ls, rfl, hll, hp, trivial⟩, fun _ _ _ _ => trivial, ?_, ?_⟩
  · rintro k d ρ hk rfl ⟨s5, s6, ls, rfl, hll, hp, _⟩
    have hk : k < g := by
      have : k < (((g : Nat) : Int) - 0).toNat := hk
      omega
    obtain ⟨ak, hak⟩ : ∃ ak, as[k]? = some ak := ⟨as[k]'(by omega), List.getElem?_eq_getElem (by omega)⟩
    obtain ⟨lk, hlk⟩ : ∃ lk, ls[k]? = some lk := ⟨ls[k]'(by omega), List.getElem?_eq_getElem (by omega)⟩
    have hpk := hp lk (List.mem_of_getElem? hlk)
    refine ⟨.obj ak, at_k (by rw [List.getElem?_map, hak]; rfl), ?_⟩
    show if decide (way < (2 : Int)) = true then _ else _
    refine ite2 (fun h => ?_) (fun h => ⟨_, _, ls, rfl, hll, hp, trivial⟩)
    have h := of_decide_eq_true h
    have hv : 0 ≤ top * way ∧ top * way ≤ 9999 := by
      have hw : way = 0 ∨ way = 1 := by omega
      rcases hw with rfl | rfl <;> omega
    refine ⟨.inl ⟨by omega, by omega⟩, ak, rfl, k + 9, lk.map D.int, k, ghs_at hak hlk, ?_, ?_⟩
    · rw [Int.zero_add, ixN_nat (by omega) (by rw [List.length_map, hpk.1]; omega), Int.toNat_natCast]
    · refine ⟨.v (.int (0 + (k : Int))), .v (.obj ak), ls.set k (lk.set k (top * way)), ?_, by rw [List.length_set]; exact hll, fun l hl => ?_, trivial⟩
      · rw [← ghs_set hak, List.map_set]
        rfl
      · rcases List.mem_or_eq_of_mem_set hl with h' | rfl
        · exact hp l h'
        · refine ⟨by rw [List.length_set]; exact hpk.1, fun x hx => ?_⟩
          rcases List.mem_or_eq_of_mem_set hx with h' | rfl
          · exact hpk.2 x h'
          · exact hv
  rintro ρ ⟨s5, s6, ls, rfl, hll, hp, f5⟩
  refine ⟨q, as, ls.map (fun (l : List Int) => l.map D.int), rfl, ghs_Gh (as := as) (ls := ls) [.own p s2, .v (.int (g : Nat)), .v (.int top), .own q (as.map D.obj), .v (.int way), s5, s6, .un, .un] [] (by rw [hal, hll]), nd, ?_⟩
  refine at_state [.own p s2, .v (.int (g : Nat)), .v (.int top), .own q ((ls.map (fun (l : List Int) => l.map D.int)).map D.lst), .v (.int way), s5, s6, .un, .un] rfl ?_
  have et : (ls.map (fun (l : List Int) => l.map D.int)).map D.lst = ls.map lstI := by rw [List.map_map]; rfl
  rw [et]
  refine ⟨f5, by decide, by decide, rg.1, rg.2.1, rg.2.2.1, fun j acc ρ => ∃ (s : List D) (l : List Int), ρ = [.own p s, .v (.int (g : Nat)), .v (.int top), .own q (ls.map lstI), .v (.int way), .un, s6, .un, .un] ∧ StOk s ∧ acc = l.map D.int ∧ l.length = j ∧ ∀ x ∈ l, 0 ≤ x ∧ x ≤ 9999, ⟨s2, [], rfl, hs, rfl, rfl, fun x hx => by simp at hx⟩, fun _ _ _ _ _ => trivial, ?_, ?_⟩
  · rintro j d acc ρ hj rfl ⟨s, l, rfl, hs, rfl, hl, hx⟩
    refine ⟨top, rfl, hs, ⟨t0, t1⟩, fun d s2 hd hs => ?_⟩
    obtain ⟨i, rfl, i0, i1⟩ := hd
    have i1 : i ≤ top := i1
    refine ⟨s2, l ++ [i], rfl, hs, by rw [List.map_append]; rfl, by rw [List.length_append, hl]; rfl, fun x hm => ?_⟩
    rcases List.mem_append.mp hm with h | h
    · exact hx x h
    · rw [List.mem_singleton.mp h]
      omega
  rintro acc ρ ⟨s3, bs, rfl, hs, rfl, hbl, hbx⟩ qb
  have hbl : bs.length = g := hbl.trans rg.2.2.2
  refine ⟨trivial, by decide, by decide, rg.1, rg.2.1, rg.2.2.1, fun j acc ρ => ∃ (s : List D) (l : List Int), ρ = [.own p s, .v (.int (g : Nat)), .v (.int top), .v (.lst (ls.map lstI)), .v (.int way), .un, s6, .v (lstI bs), .un] ∧ StOk s ∧ acc = l.map D.int ∧ l.length = j ∧ ∀ x ∈ l, 0 ≤ x ∧ x ≤ 9999, ⟨s3, [], rfl, hs, rfl, rfl, fun x hx => by simp at hx⟩, fun _ _ _ _ _ => trivial, ?_, ?_⟩
  · rintro j d acc ρ hj rfl ⟨s, l, rfl, hs, rfl, hl, hx⟩
    refine ⟨top, rfl, hs, ⟨t0, t1⟩, fun d s2 hd hs => ?_⟩
    obtain ⟨i, rfl, i0, i1⟩ := hd
    have i1 : i ≤ top := i1
    refine ⟨s2, l ++ [i], rfl, hs, by rw [List.map_append]; rfl, by rw [List.length_append, hl]; rfl, fun x hm => ?_⟩
    rcases List.mem_append.mp hm with h | h
    · exact hx x h
    · rw [List.mem_singleton.mp h]
      omega
  rintro acc ρ ⟨s4, es, rfl, hs, rfl, hel, hex⟩
  have hel : es.length = g := hel.trans rg.2.2.2
  exact ⟨⟨⟨ls, bs, es⟩, ⟨n1, n8, hll, hp, ⟨hbl, hbx⟩, ⟨hel, hex⟩⟩, rfl⟩, s4, rfl, hs⟩
theorem has_law_free_prices (T : Tx K mg) (h_law_pick : Has P w K mg base "_law_pick" 3 ["store", "things"] (spS K sp_pick)) (h_law_price : Has P w K mg base "_law_price" 4 ["store", "top"] (spS K sp_law_price)) (h_law_take : Has P w K mg base "_law_take" 2 ["store", "many"] (spS K sp_take)) {f : Addr} {fd : FuncData} (F : Fd K "_law_free_prices" s_law_free_prices [] f fd) (gm : mg "_law_free_prices" = some (.ref f)) : Has P w K mg base "_law_free_prices" 5 ["store", "many"] (spS K sp_free_prices) := by
  exact has_of F gm (ok_law_free_prices T  h_law_pick h_law_price h_law_take F) fun _ _ _ _ _ _ us hl => match us, hl with | [_, _], _ => rfl
end
end Q
/-! C21 -/
set_option Elab.async false
set_option linter.all false
set_option maxRecDepth 100000
set_option maxHeartbeats 8000000
namespace Q
open PySem PySem.Spec PyProof.Rows L2 N
section
variable {P : Program} {w : World} {K : PySem.W.Frag} {mg : Str → Option Value} {base : Heap}
/-! orders, batches, prices by the law -/
theorem ord_rg (n : Nat) : OrdV n (rgI (n : Nat)) := by
  have e : rgI (n : Nat) = (List.range n).map fun i : Nat => (i : Int) := by unfold rgI; rw [Int.toNat_natCast]
  rw [e]
  refine ⟨by rw [List.length_map, List.length_range], fun k hk => ?_, fun k hk => List.mem_map.mpr ⟨k, List.mem_range.mpr hk, rfl⟩⟩
  obtain ⟨i, hi, rfl⟩ := List.mem_map.mp hk
  have := List.mem_range.mp hi
  omega
theorem ord_perm {n : Nat} {a b : List Int} (h : OrdV n b) (p : a.Perm b) : OrdV n a :=
  ⟨p.length_eq.trans h.1, fun k hk => h.2.1 k (p.mem_iff.mp hk), fun k hk => p.mem_iff.mpr (h.2.2 k hk)⟩
def sp_law_order : SS := { α := Nat, args := fun n => [.int (n : Nat)], pre := fun n => 1 ≤ n ∧ n ≤ 8, post := fun n r => ∃ os, OrdV n os ∧ r = dTup os, s0 := fun _ => StOk, s1 := fun _ => StOk }
/-! _law_order -/
abbrev s_law_order : Stmt := topS 72
abbrev n_law_order : List Str := ["store", "many", "way", "kind"]
theorem sc_law_order : FnScope n_law_order ["store", "many"] (defScope s_law_order) := ⟨rfl, rfl, rfl, by decide +kernel, rfl, by decide +kernel, by decide +kernel⟩
theorem ok_law_order (T : Tx K mg) (h_law_take : Has P w K mg base "_law_take" 2 ["store", "many"] (spS K sp_take)) (h_law_arrangement : Has P w K mg base "_law_arrangement" 3 ["store", "things"] (spS K sp_arr)) {f : Addr} {fd : FuncData} (F : Fd K "_law_order" s_law_order [] f fd) : FnOk P w K mg base (L2N.CX P w) 4 f fd ["store", "many"] (spS K sp_law_order) := by
  refine fnS_ok F sc_law_order sp_law_order (fun _ => rfl) (by decide) fun cdv A outer s H E g p ss hr pre hs => ?_
  refine ⟨_, (ds_cons (ds_set (i := 2) sc_law_order.nd (de_callS h_law_take (hr.mono (by decide : 2 ≤ 3)) (dv 0) (da_cons de_int da_nil)))
      (ds_cons (ds_if (dt_eq (dv 2) de_int)
      (ds_one (ds_ret (de_tuprange T.b_tuple T.b_range (dv 1))))
      ds_nil)
      (ds_cons (ds_if (dt_eq (dv 2) de_int)
      (ds_one (ds_ret (de_tuple T.b_tuple (da_cons (de_new (dn_lc sc_law_order.nd (di_range1 T.b_range (da_cons (dv 1) da_nil)) (blkOk_by (own := [("kind", 3)]) (N := n_law_order) (sc := defScope s_law_order) (by decide +kernel)) (fun _ _ _ _ _ _ _ => dts_nil) (fun _ _ _ _ _ _ _ => (de_sub (de_sub (dv 1) de_int) (dv 3))) (fun _ _ _ _ _ => pg_name (i := 3) sc_law_order.nd rfl (Or.inl rfl)))) da_nil))))
      ds_nil)
      (ds_one (ds_ret (de_tuple T.b_tuple (da_cons (de_callS h_law_arrangement hr (dv 0) (da_cons (de_new (dn_listrange T.b_list T.b_range (dv 1))) da_nil)) da_nil))))))), ?_⟩
  change Nat at g
  obtain ⟨n1, n8⟩ := pre
  have n1 : 1 ≤ g := n1
  have n8 : g ≤ 8 := n8
  have rg : -(2 ^ 62) ≤ ((g : Nat) : Int) ∧ ((g : Nat) : Int) < 2 ^ 62 ∧ (((g : Nat) : Int) - 0).toNat ≤ 16777216 ∧ (((g : Nat) : Int) - 0).toNat = g := by omega
  refine ⟨(6 : Int), rfl, hs, tk (by decide), fun d s1 hd hs => ?_⟩
  obtain ⟨way, rfl, w0, w1⟩ := hd
  show if decide (way = 0) = true then _ else _
  refine ite2 (fun h => ?_) (fun h => ?_)
  · refine ⟨⟨by decide, by decide, rg.1, rg.2.1, by have := rg.2.2.2; omega⟩, ⟨rgI (g : Nat), ord_rg g, ?_⟩, s1, rfl, hs⟩
    show D.tup (rgD 0 (g : Nat)) = _
    rw [rgD_ints]
    rfl
  show if decide (way = 1) = true then _ else _
  refine ite2 (fun h => ?_) (fun h => ?_)
  · refine ⟨trivial, by decide, by decide, rg.1, rg.2.1, rg.2.2.1, fun k acc ρ => ρ = [.own p s1, .v (.int (g : Nat)), .v (.int way), .un] ∧ acc = ((List.range k).map fun i : Nat => (g : Int) - 1 - (i : Int)).map D.int, ⟨rfl, rfl⟩, fun _ _ _ _ _ => trivial, ?_, ?_⟩
    · rintro k d acc ρ hk rfl ⟨rfl, rfl⟩
      refine ⟨rfl, ?_⟩
      rw [List.range_succ, List.map_append, List.map_append, Int.zero_add]
      rfl
    · rintro acc ρ ⟨rfl, rfl⟩
      rw [rg.2.2.2]
      refine ⟨⟨(List.range g).map fun i : Nat => (g : Int) - 1 - (i : Int), ⟨by rw [List.length_map, List.length_range], fun k hk => ?_, fun k hk => ?_⟩, rfl⟩, s1, rfl, hs⟩
      · obtain ⟨i, hi, rfl⟩ := List.mem_map.mp hk
        have := List.mem_range.mp hi
        omega
      · exact List.mem_map.mpr ⟨g - 1 - k, List.mem_range.mpr (by omega), by omega⟩
  · refine ⟨⟨by decide, by decide, rg.1, rg.2.1, by have := rg.2.2.2; omega⟩, (false, (rgI (g : Nat)).map D.int), by rw [← rgD_ints]; rfl, hs, by show ((rgI (g : Nat)).map D.int).length ≤ 16777216; rw [List.length_map, (ord_rg g).1]; omega, fun d s2 hd hs => ?_⟩
    obtain ⟨ds, rfl, pm⟩ := hd
    obtain ⟨os, rfl, pk⟩ := perm_ints pm
    exact ⟨⟨os, ord_perm (ord_rg g) pk, rfl⟩, s2, rfl, hs⟩
theorem has_law_order (T : Tx K mg) (h_law_take : Has P w K mg base "_law_take" 2 ["store", "many"] (spS K sp_take)) (h_law_arrangement : Has P w K mg base "_law_arrangement" 3 ["store", "things"] (spS K sp_arr)) {f : Addr} {fd : FuncData} (F : Fd K "_law_order" s_law_order [] f fd) (gm : mg "_law_order" = some (.ref f)) : Has P w K mg base "_law_order" 4 ["store", "many"] (spS K sp_law_order) := by
  exact has_of F gm (ok_law_order T  h_law_take h_law_arrangement F) fun _ _ _ _ _ _ us hl => match us, hl with | [_, _], _ => rfl
def sp_copied_prices : FS := { α := Nat × Tb, args := fun g => [pricesD g.2], pre := fun g => TbOk g.1 g.2, post := fun g r => r = pricesD g.2 }
/-! _law_copied_prices -/
abbrev s_law_copied_prices : Stmt := topS 74
abbrev n_law_copied_prices : List Str := ["prices", "row"]
theorem sc_law_copied_prices : FnScope n_law_copied_prices ["prices"] (defScope s_law_copied_prices) := ⟨rfl, rfl, rfl, by decide +kernel, rfl, by decide +kernel, by decide +kernel⟩
theorem ok_law_copied_prices (T : Tx K mg) {f : Addr} {fd : FuncData} (F : Fd K "_law_copied_prices" s_law_copied_prices [] f fd) : FnOk P w K mg base (L2N.CX P w) 1 f fd ["prices"] (spF K sp_copied_prices) := by
  refine fn_ok F sc_law_copied_prices sp_copied_prices (fun _ => rfl) fun cdv A outer s H E g hr pre hx => ?_
  refine ⟨_, (ds_one (ds_ret (de_new (dn_lst (da_cons (de_new (dn_lc sc_law_copied_prices.nd (di_seq (de_ix (dv 0) de_int)) (blkOk_by (own := [("row", 1)]) (N := n_law_copied_prices) (sc := defScope s_law_copied_prices) (by decide +kernel)) (fun _ _ _ _ _ _ _ => dts_nil) (fun _ _ _ _ _ _ _ => (de_new (dn_list T.b_list (da_cons (dv 1) da_nil)))) (fun _ _ _ _ _ => pg_name (i := 1) sc_law_copied_prices.nd rfl (Or.inl rfl)))) (da_cons (de_new (dn_list T.b_list (da_cons (de_ix (dv 0) de_int) da_nil))) (da_cons (de_new (dn_list T.b_list (da_cons (de_ix (dv 0) de_int) da_nil))) da_nil))))))), ?_⟩
  obtain ⟨n, T⟩ := g
  have hT : TbOk n T := pre
  have hl := hT.len
  have h8 := hT.n8
  refine ⟨trivial, .lst (T.t.map lstI), rfl, by show (T.t.map lstI).length ≤ 16777216; rw [List.length_map]; omega, fun k acc ρ => ρ = [.v (pricesD T), .un] ∧ acc = (T.t.take k).map lstI, ⟨rfl, rfl⟩, fun _ _ _ _ _ => trivial, ?_, ?_⟩
  · rintro k d acc ρ hk hx ⟨rfl, rfl⟩
    have hx : (T.t.map lstI)[k]? = some d := hx
    rw [List.getElem?_map] at hx
    obtain ⟨r, hr, rfl⟩ := Option.map_eq_some_iff.mp hx
    refine ⟨rfl, ?_⟩
    rw [List.take_add_one, hr, List.map_append]
    rfl
  · rintro acc ρ ⟨rfl, rfl⟩
    refine ⟨lstI T.b, rfl, lstI T.e, rfl, ?_⟩
    show D.lst [.lst ((T.t.take (T.t.map lstI).length).map lstI), lstI T.b, lstI T.e] = pricesD T
    rw [List.length_map, List.take_length]
    rfl
theorem has_law_copied_prices (T : Tx K mg) {f : Addr} {fd : FuncData} (F : Fd K "_law_copied_prices" s_law_copied_prices [] f fd) (gm : mg "_law_copied_prices" = some (.ref f)) : Has P w K mg base "_law_copied_prices" 1 ["prices"] (spF K sp_copied_prices) := by
  exact has_of F gm (ok_law_copied_prices T   F) fun _ _ _ _ _ _ us hl => match us, hl with | [_], _ => rfl
def sp_law_arranged : FS := { α := List Int × List Int, args := fun g => [dTup g.1, dTup g.2], pre := fun g => g.1.length ≤ 1000, post := fun g r => r = dTup (pick g.1 g.2) }
/-! _law_arranged -/
abbrev s_law_arranged : Stmt := topS 78
abbrev n_law_arranged : List Str := ["order", "lot", "kind"]
theorem sc_law_arranged : FnScope n_law_arranged ["order", "lot"] (defScope s_law_arranged) := ⟨rfl, rfl, rfl, by decide +kernel, rfl, by decide +kernel, by decide +kernel⟩
theorem ok_law_arranged (T : Tx K mg) {f : Addr} {fd : FuncData} (F : Fd K "_law_arranged" s_law_arranged [] f fd) : FnOk P w K mg base (L2N.CX P w) 1 f fd ["order", "lot"] (spF K sp_law_arranged) := by
  refine fn_ok F sc_law_arranged sp_law_arranged (fun _ => rfl) fun cdv A outer s H E g hr pre hx => ?_
  refine ⟨_, (ds_one (ds_ret (de_tuple T.b_tuple (da_cons (de_new (dn_lc sc_law_arranged.nd (di_seq (dv 0)) (blkOk_by (own := [("kind", 2)]) (N := n_law_arranged) (sc := defScope s_law_arranged) (by decide +kernel)) (fun _ _ _ _ _ _ _ => (dts_one (dt_in (dv 2) (dv 1)))) (fun _ _ _ _ _ _ _ => (dv 2)) (fun _ _ _ _ _ => pg_name (i := 2) sc_law_arranged.nd rfl (Or.inl rfl)))) da_nil)))), ?_⟩
  obtain ⟨ks, ls⟩ := g
  have pre : ks.length ≤ 1000 := pre
  refine ⟨trivial, by show (ks.map D.int).length ≤ 16777216; rw [List.length_map]; omega, fun k acc ρ => ρ = [.v (dTup ks), .v (dTup ls), .un] ∧ acc = ((ks.take k).filter fun x => decide (x ∈ ls)).map D.int, ⟨rfl, rfl⟩, fun _ _ _ _ _ => trivial, ?_, ?_⟩
  · rintro k d acc ρ hk hx ⟨rfl, rfl⟩
    have hx : (ks.map D.int)[k]? = some d := hx
    obtain ⟨h1, rfl⟩ := int_at hx
    have st := filt_step (f := fun x => decide (x ∈ ls)) h1
    refine ⟨ks.getD k 0, _, ls, rfl, rfl, ?_⟩
    show if decide (ks.getD k 0 ∈ ls) = true then _ else _
    refine ite2 (fun h => ⟨rfl, ?_⟩) (fun h => ⟨rfl, ?_⟩)
    · rw [st, if_pos h]
    · rw [st, if_neg h, List.append_nil]
  · rintro acc ρ ⟨rfl, rfl⟩
    show D.tup _ = dTup (pick ks ls)
    rw [List.length_map, List.take_length]
    rfl
theorem has_law_arranged (T : Tx K mg) {f : Addr} {fd : FuncData} (F : Fd K "_law_arranged" s_law_arranged [] f fd) (gm : mg "_law_arranged" = some (.ref f)) : Has P w K mg base "_law_arranged" 1 ["order", "lot"] (spF K sp_law_arranged) := by
  exact has_of F gm (ok_law_arranged T   F) fun _ _ _ _ _ _ us hl => match us, hl with | [_, _], _ => rfl
/-! _law_number -/
abbrev s_law_number : Stmt := topS 80
abbrev n_law_number : List Str := ["value"]
theorem sc_law_number : FnScope n_law_number ["value"] (defScope s_law_number) := ⟨rfl, rfl, rfl, by decide +kernel, rfl, by decide +kernel, by decide +kernel⟩
theorem ok_law_number (T : Tx K mg) {f : Addr} {fd : FuncData} (F : Fd K "_law_number" s_law_number [] f fd) : FnOk P w K mg base (L2N.CX P w) 1 f fd ["value"] (spF K sp_is_whole) := by
  refine fn_ok F sc_law_number sp_is_whole (fun _ => rfl) fun cdv A outer s H E g hr pre hx => ?_
  refine ⟨_, (ds_one (ds_ret (de_and (de_isi T.b_isinstance (da_cons (dv 0) (da_cons (de_ty T.b_int boot_int) da_nil))) (de_one (de_not (de_isi T.b_isinstance (da_cons (dv 0) (da_cons (de_ty T.b_bool bt_bool) da_nil)))))))), ?_⟩
  cases g <;> first | exact rfl | cases pre
theorem has_law_number (T : Tx K mg) {f : Addr} {fd : FuncData} (F : Fd K "_law_number" s_law_number [] f fd) (gm : mg "_law_number" = some (.ref f)) : Has P w K mg base "_law_number" 1 ["value"] (spF K sp_is_whole) := by
  exact has_of F gm (ok_law_number T   F) fun _ _ _ _ _ _ us hl => match us, hl with | [_], _ => rfl
theorem at_prow {n : Nat} {T : Tb} (h : TbOk n T) {i : Int} (h0 : 0 ≤ i) (h1 : i < (n : Int)) : atI (T.t.map lstI) i = some (lstI (T.t.getD i.toNat [])) := at_mi h0 (by rw [h.len]; exact h1)
def sp_law_price_of : FS := { α := Nat × Tb × List Int, args := fun g => [pricesD g.2.1, dTup g.2.2], pre := fun g => TbOk g.1 g.2.1 ∧ KindsIn g.1 g.2.2 ∧ g.2.2.length ≤ 1000, post := fun g r => r = .int (priceOf g.2.1 g.2.2) }
/-! _law_price_of -/
abbrev s_law_price_of : Stmt := topS 76
abbrev n_law_price_of : List Str := ["prices", "row", "price", "k"]
theorem sc_law_price_of : FnScope n_law_price_of ["prices", "row"] (defScope s_law_price_of) := ⟨rfl, rfl, rfl, by decide +kernel, rfl, by decide +kernel, by decide +kernel⟩
theorem ok_law_price_of (T : Tx K mg) {f : Addr} {fd : FuncData} (F : Fd K "_law_price_of" s_law_price_of [] f fd) : FnOk P w K mg base (L2N.CX P w) 1 f fd ["prices", "row"] (spF K sp_law_price_of) := by
  refine fn_ok F sc_law_price_of sp_law_price_of (fun _ => rfl) fun cdv A outer s H E g hr pre hx => ?_
  refine ⟨_, (ds_cons (ds_if (dt_eq (de_len T.b_len (da_cons (dv 1) da_nil)) de_int)
      (ds_one (ds_ret de_int))
      ds_nil)
      (ds_cons (ds_set (i := 2) sc_law_price_of.nd (de_add (de_ix (de_ix (dv 0) de_int) (de_ix (dv 1) de_int)) (de_ix (de_ix (dv 0) de_int) (de_ix (dv 1) (de_neg de_int)))))
      (ds_cons (ds_for (passes_of rfl) (di_range2 T.b_range (da_cons de_int (da_cons (de_len T.b_len (da_cons (dv 1) da_nil)) da_nil))) (dg 3 sc_law_price_of.nd)
      (ds_one (ds_set (i := 2) sc_law_price_of.nd (de_add (dv 2) (de_ix (de_ix (de_ix (dv 0) de_int) (de_ix (dv 1) (de_sub (dv 3) de_int))) (de_ix (dv 1) (dv 3)))))))
      (ds_one (ds_ret (dv 2)))))), ?_⟩
  obtain ⟨n, T, ns⟩ := g
  obtain ⟨hT, hn, hlen⟩ := pre
  have hT : TbOk n T := hT
  have hn : KindsIn n ns := hn
  have hlen : ns.length ≤ 1000 := hlen
  show if decide ((((ns.map D.int).length : Nat) : Int) = 0) = true then _ else _
  refine ite2 (fun h => ?_) (fun h => ?_)
  · have h := of_decide_eq_true h
    rw [List.length_map] at h
    have : ns = [] := List.length_eq_zero_iff.mp (by omega)
    subst this
    rfl
  have hl : 0 < ns.length := Nat.pos_of_ne_zero fun z => h (decide_eq_true (by rw [List.length_map, z]; rfl))
  have hne : ns ≠ [] := List.length_pos_iff.mp hl
  have h9 : ns.length - 1 < ns.length := by omega
  try dsimp only [rNx]
  refine sAsg (d := .int (g0 T.b (ns.getD 0 0) + g0 T.e (ns.getD (ns.length - 1) 0))) (fun Q h => ?_) ?_
  · exact ⟨lstI T.b, rfl, .int (ns.getD 0 0), at_ints' hl, _, at_g0 hT.b (kin hn hl), lstI T.e, rfl, _, atI_last hne, _, at_g0 hT.e (kin hn h9), h⟩
  have rg : -(2 ^ 62) ≤ (((ns.map D.int).length : Nat) : Int) ∧ (((ns.map D.int).length : Nat) : Int) < 2 ^ 62 := by rw [List.length_map]; omega
  refine ⟨by decide, by decide, rg.1, rg.2, fun k ρ => ∃ s, ρ = [.v (pricesD T), .v (dTup ns), .v (.int (g0 T.b (ns.getD 0 0) + g0 T.e (ns.getD (ns.length - 1) 0) + stepsTo T.t ns k)), s], ⟨_, by rw [show stepsTo T.t ns 0 = 0 from rfl, Int.add_zero]; rfl⟩, fun _ _ _ _ => trivial, ?_, ?_⟩
  · rintro k d ρ hk rfl ⟨s, rfl⟩
    have hk : k + 1 < ns.length := by
      have : k < ((((ns.map D.int).length : Nat) : Int) - 1).toNat := hk
      rw [List.length_map] at this
      omega
    have e1 : (1 : Int) + (k : Int) - 1 = (k : Int) := by omega
    have e2 : (1 : Int) + (k : Int) = ((k + 1 : Nat) : Int) := by omega
    refine ⟨.lst (T.t.map lstI), rfl, .int (ns.getD k 0), ?_, lstI (T.t.getD (ns.getD k 0).toNat []), at_prow hT (kin hn (by omega : k < ns.length)).1 (kin hn (by omega : k < ns.length)).2, .int (ns.getD (k + 1) 0), ?_, _, at_tt hT (kin hn (by omega : k < ns.length)) (kin hn hk), ?_⟩
    · rw [e1]
      exact at_ints' (by omega)
    · rw [e2]
      exact at_ints' hk
    · exact ⟨_, by rw [show stepsTo T.t ns (k + 1) = stepsTo T.t ns k + tt T.t (ns.getD k 0) (ns.getD (k + 1) 0) from rfl, ← Int.add_assoc]; rfl⟩
  · rintro ρ ⟨s, rfl⟩
    show D.int (g0 T.b (ns.getD 0 0) + g0 T.e (ns.getD (ns.length - 1) 0) + stepsTo T.t ns ((((ns.map D.int).length : Nat) : Int) - 1).toNat) = D.int (priceOf T ns)
    rw [List.length_map, show (((ns.length : Nat) : Int) - 1).toNat = ns.length - 1 by omega]
    unfold priceOf
    rw [if_neg hne]
theorem has_law_price_of (T : Tx K mg) {f : Addr} {fd : FuncData} (F : Fd K "_law_price_of" s_law_price_of [] f fd) (gm : mg "_law_price_of" = some (.ref f)) : Has P w K mg base "_law_price_of" 1 ["prices", "row"] (spF K sp_law_price_of) := by
  exact has_of F gm (ok_law_price_of T   F) fun _ _ _ _ _ _ us hl => match us, hl with | [_, _], _ => rfl
theorem stays_sum (t : List (List Int)) (ns : List Int) : ∀ k, k ≤ ns.length → ((ns.take k).map fun x => tt t x x).sum = staysTo t ns k
  | 0, _ => rfl
  | k + 1, h => by
    have hx : ns[k]? = some (ns.getD k 0) := by rw [List.getD_eq_getElem?_getD, List.getElem?_eq_getElem (by omega)]; rfl
    rw [List.take_add_one, hx, List.map_append, List.sum_append, stays_sum t ns k (by omega)]
    simp [staysTo]
def sp_law_over_of : FS := { α := Nat × Tb × List Int, args := fun g => [pricesD g.2.1, dTup g.2.2], pre := fun g => TbOk g.1 g.2.1 ∧ KindsIn g.1 g.2.2 ∧ g.2.2.length ≤ 1000, post := fun g r => r = .int (overOf g.2.1 g.2.2) }
/-! _law_over_of -/
abbrev s_law_over_of : Stmt := topS 77
abbrev n_law_over_of : List Str := ["prices", "row", "kind"]
theorem sc_law_over_of : FnScope n_law_over_of ["prices", "row"] (defScope s_law_over_of) := ⟨rfl, rfl, rfl, by decide +kernel, rfl, by decide +kernel, by decide +kernel⟩
theorem ok_law_over_of (T : Tx K mg) (h_law_price_of : Has P w K mg base "_law_price_of" 1 ["prices", "row"] (spF K sp_law_price_of)) {f : Addr} {fd : FuncData} (F : Fd K "_law_over_of" s_law_over_of [] f fd) : FnOk P w K mg base (L2N.CX P w) 2 f fd ["prices", "row"] (spF K sp_law_over_of) := by
  refine fn_ok F sc_law_over_of sp_law_over_of (fun _ => rfl) fun cdv A outer s H E g hr pre hx => ?_
  refine ⟨_, (ds_one (ds_ret (de_sub (de_call h_law_price_of hr (da_cons (dv 0) (da_cons (dv 1) da_nil))) (de_sum rfl T.b_sum (da_cons (de_new (dn_lc sc_law_over_of.nd (di_seq (dv 1)) (blkOk_by (own := [("kind", 2)]) (N := n_law_over_of) (sc := defScope s_law_over_of) (by decide +kernel)) (fun _ _ _ _ _ _ _ => dts_nil) (fun _ _ _ _ _ _ _ => (de_ix (de_ix (de_ix (dv 0) de_int) (dv 2)) (dv 2))) (fun _ _ _ _ _ => pg_name (i := 2) sc_law_over_of.nd rfl (Or.inl rfl)))) da_nil))))), ?_⟩
  obtain ⟨n, T, ns⟩ := g
  obtain ⟨hT, hn, hlen⟩ := pre
  have hT : TbOk n T := hT
  have hn : KindsIn n ns := hn
  have hlen : ns.length ≤ 1000 := hlen
  refine ⟨(n, T, ns), rfl, ⟨hT, hn, hlen⟩, fun r hr => ?_, fun _ h => h.elim⟩
  have hr : r = .int (priceOf T ns) := hr
  subst hr
  refine ⟨trivial, by show (ns.map D.int).length ≤ 16777216; rw [List.length_map]; omega, fun k acc ρ => ρ = [.v (pricesD T), .v (dTup ns), .un] ∧ acc = ((ns.take k).map fun x => tt T.t x x).map D.int, ⟨rfl, rfl⟩, fun _ _ _ _ _ => trivial, ?_, ?_⟩
  · rintro k d acc ρ hk hx ⟨rfl, rfl⟩
    have hx : (ns.map D.int)[k]? = some d := hx
    obtain ⟨h1, rfl⟩ := int_at hx
    have hx2 : ns[k]? = some (ns.getD k 0) := by rw [List.getD_eq_getElem?_getD, List.getElem?_eq_getElem h1]; rfl
    refine ⟨.lst (T.t.map lstI), rfl, lstI (T.t.getD (ns.getD k 0).toNat []), at_prow hT (kin hn h1).1 (kin hn h1).2, _, at_tt hT (kin hn h1) (kin hn h1), rfl, ?_⟩
    rw [List.take_add_one, hx2, List.map_append, List.map_append]
    rfl
  · rintro acc ρ ⟨rfl, rfl⟩
    refine ⟨_, rfl, ?_⟩
    show D.int (priceOf T ns - (((ns.take (ns.map D.int).length).map fun x => tt T.t x x).sum)) = D.int (overOf T ns)
    rw [List.length_map, stays_sum T.t ns _ (Nat.le_refl _)]
    rfl
theorem has_law_over_of (T : Tx K mg) (h_law_price_of : Has P w K mg base "_law_price_of" 1 ["prices", "row"] (spF K sp_law_price_of)) {f : Addr} {fd : FuncData} (F : Fd K "_law_over_of" s_law_over_of [] f fd) (gm : mg "_law_over_of" = some (.ref f)) : Has P w K mg base "_law_over_of" 2 ["prices", "row"] (spF K sp_law_over_of) := by
  exact has_of F gm (ok_law_over_of T  h_law_price_of F) fun _ _ _ _ _ _ us hl => match us, hl with | [_, _], _ => rfl
end
end Q
/-! C22 -/
set_option Elab.async false
set_option linter.all false
set_option maxRecDepth 100000
set_option maxHeartbeats 8000000
namespace Q
open PySem PySem.Spec PyProof.Rows L2 N
section
variable {P : Program} {w : World} {K : PySem.W.Frag} {mg : Str → Option Value} {base : Heap}
/-! the law's checks of the house -/
theorem wt_tups : ∀ {ls : List (List Int)}, (∀ l ∈ ls, l.length ≤ 8) → wtL (ls.map dTup) ≤ 9 * ls.length
  | [], _ => by simp [wtL]
  | l :: ls, h => by
    have ih := wt_tups (ls := ls) fun x hx => h x (List.mem_cons_of_mem _ hx)
    have h0 := h l List.mem_cons_self
    rw [List.map_cons, wtL, List.length_cons]
    have : wt (dTup l) ≤ 9 := by
      unfold dTup
      rw [wt, wt_ints]
      omega
    omega
theorem sameOk_tups (ls : List (List Int)) : sameOkL (ls.map dTup) = true := sameOkL_mem.mpr fun d hd => by
  obtain ⟨l, _, rfl⟩ := List.mem_map.mp hd
  exact sameOk_ints l
theorem same_int (i : Int) : sameOk (.int i) = true ∧ wt (.int i) ≤ 1000000 := ⟨rfl, by rw [wt]; decide⟩
theorem shp_tup (ns : List Int) (w : Int) : rowOf (shp (dTup ns) w) = some (ns.map D.int) := by
  rw [dTup, (rowOf_shp _ w).2, List.map_map]
  rfl
theorem rowIn_of {d : D} {ns : List Int} (h : rowOf d = some (ns.map D.int)) : RowIn d := ⟨ty_row h, fun ds e x hx => by
  rw [h] at e
  cases e
  obtain ⟨n, _, rfl⟩ := List.mem_map.mp hx
  rfl⟩
theorem eqL_val {ra rb : RE} {ρ : En} {as bs : List Int} {Q : W → En → Prop} (ha : ∀ Q : W → En → Prop, Q (.d (.lst (as.map D.int))) ρ → ra ρ Q) (hb : ∀ Q : W → En → Prop, Q (.d (.lst (bs.map D.int))) ρ → rb ρ Q) (h : Q (.d (.bl (decide (as = bs)))) ρ) : N.r2 ra rb (oEqD id) ρ Q := ha _ (hb _ (eqL h))
theorem dep_tup (ns : List Int) : dep (dTup ns) < 4 := by
  show dep (.tup (ns.map D.int)) < 4
  rw [dep, depL_ints]
  decide
theorem ord_is {n : Nat} {lo hi : Int} {d : D} {os : List Int} (e : rowOf d = some (os.map D.int)) (h : OrdV n os) (h1 : lo ≤ n) (h2 : (n : Int) ≤ hi) : isOrd lo hi d = true := by
  unfold isOrd
  rw [e]
  show (decide _ && ordIn (os.map D.int)) = true
  rw [decide_eq_true (by rw [List.length_map, h.1]; exact ⟨h1, h2⟩), Bool.true_and]
  unfold ordIn
  rw [List.length_map, toI_map, h.1]
  refine Bool.and_eq_true_iff.mpr ⟨List.all_eq_true.mpr fun x hx => ?_, List.all_eq_true.mpr fun k hk => decide_eq_true (h.2.2 k (List.mem_range.mp hk))⟩
  obtain ⟨i, hi, rfl⟩ := List.mem_map.mp hx
  exact decide_eq_true (h.2.1 i hi)
theorem arr_post {K : PySem.W.Frag} {gd pd r : D} {os ls : List Int} (hg : rowOf gd = some (os.map D.int)) (hp : rowOf pd = some (ls.map D.int)) (h : (sp_arranged K).post (gd, pd) r) : r = dTup (pick os ls) := by
  obtain ⟨os', ls', e1, e2, _, _, hr⟩ := h
  have e1 : rowOf gd = some (os'.map D.int) := e1
  have e2 : rowOf pd = some (ls'.map D.int) := e2
  rw [hg] at e1
  rw [hp] at e2
  have e1 := ints_inj (Option.some.inj e1)
  have e2 := ints_inj (Option.some.inj e2)
  subst e1 e2
  exact hr
theorem nei_post {K : PySem.W.Frag} {gd pd r : D} {os ls : List Int} (hg : rowOf gd = some (os.map D.int)) (hp : rowOf pd = some (ls.map D.int)) (h : (sp_neighbours K).post (gd, pd) r) : r = .tup (pairsOf (pick os ls)) := by
  obtain ⟨os', ls', e1, e2, _, _, hr⟩ := h
  have e1 : rowOf gd = some (os'.map D.int) := e1
  have e2 : rowOf pd = some (ls'.map D.int) := e2
  rw [hg] at e1
  rw [hp] at e2
  have e1 := ints_inj (Option.some.inj e1)
  have e2 := ints_inj (Option.some.inj e2)
  subst e1 e2
  exact hr
theorem arr_exc {K : PySem.W.Frag} {n : Nat} {gd pd : D} {os ls : List Int} (n1 : 1 ≤ n) (n8 : n ≤ 8) (hg : rowOf gd = some (os.map D.int)) (hp : rowOf pd = some (ls.map D.int)) (ho : OrdV n os) (hl : LotOk n ls) (x : Exn) : ¬ (sp_arranged K).exc (gd, pd) x := by
  have h1 : isOrd 1 8 gd = true := ord_is hg ho (by omega) (by omega)
  have h2 : isLotD n pd = true := isLot_of hp hl
  rintro (⟨z, _⟩ | ⟨os', e1, _, z, _⟩)
  · have z : isOrd 1 8 gd = false := z
    rw [h1] at z
    cases z
  · have e1 : rowOf gd = some (os'.map D.int) := e1
    rw [hg] at e1
    have e1 := ints_inj (Option.some.inj e1)
    subst e1
    have z : isLotD (os.length : Nat) pd = false := z
    rw [ho.1, h2] at z
    cases z
theorem ho_post {K : PySem.W.Frag} {n : Nat} {T : Tb} {gd pd r : D} {os ls : List Int} (hg : rowOf gd = some (os.map D.int)) (hp : rowOf pd = some (ls.map D.int)) (h : (sp_house_over K).post (n, T, gd, pd) r) : r = .int (overOf T (pick os ls)) := by
  obtain ⟨os', ls', e1, e2, _, _, hr⟩ := h
  have e1 : rowOf gd = some (os'.map D.int) := e1
  have e2 : rowOf pd = some (ls'.map D.int) := e2
  rw [hg] at e1
  rw [hp] at e2
  have e1 := ints_inj (Option.some.inj e1)
  have e2 := ints_inj (Option.some.inj e2)
  subst e1 e2
  exact hr
theorem ho_exc {K : PySem.W.Frag} {n : Nat} {T : Tb} {gd pd : D} {os ls : List Int} (hg : rowOf gd = some (os.map D.int)) (hp : rowOf pd = some (ls.map D.int)) (ho : OrdV n os) (hl : LotOk n ls) (x : Exn) : ¬ (sp_house_over K).exc (n, T, gd, pd) x := by
  have h1 : isOrd n n gd = true := ord_is hg ho (by omega) (by omega)
  have h2 : isLotD n pd = true := isLot_of hp hl
  rintro (⟨z, _⟩ | ⟨_, z, _⟩)
  · have z : isOrd n n gd = false := z
    rw [h1] at z
    cases z
  · have z : isLotD n pd = false := z
    rw [h2] at z
    cases z
theorem pick_len {os ls : List Int} {n : Nat} (h : OrdV n os) : (pick os ls).length ≤ n := Nat.le_trans (List.length_filter_le _ _) (Nat.le_of_eq h.1)
theorem same_pairs {ns : List Int} (h : ns.length ≤ 8) : sameOk (.tup (pairsOf ns)) = true ∧ wt (.tup (pairsOf ns)) ≤ 1000000 := by
  have e : pairsOf ns = ((List.range (ns.length - 1)).map fun k => [ns.getD k 0, ns.getD (k + 1) 0]).map dTup := by unfold pairsOf; rw [List.map_map]; rfl
  rw [e]
  refine ⟨sameOk_tups _, ?_⟩
  rw [wt]
  have := wt_tups (ls := (List.range (ns.length - 1)).map fun k => [ns.getD k 0, ns.getD (k + 1) 0]) fun l hl => by
    obtain ⟨k, _, rfl⟩ := List.mem_map.mp hl
    show 2 ≤ 8
    decide
  rw [List.length_map, List.length_range] at this
  omega
def sp_lot_arranged (K : PySem.W.Frag) : SS := { α := Nat × Tb × List Int × List Int, args := fun g => [tabI K g.2.1, pricesD g.2.1, dTup g.2.2.1, dTup g.2.2.2], pre := fun g => TbOk g.1 g.2.1 ∧ OrdV g.1 g.2.2.1 ∧ LotOk g.1 g.2.2.2, post := fun _ r => r = .bl true, s0 := fun _ => StOk, s1 := fun _ => StOk }
/-! _law_lot_arranged -/
abbrev s_law_lot_arranged : Stmt := topS 84
abbrev n_law_lot_arranged : List Str := ["store", "table", "prices", "order", "lot", "given", "part", "row", "pairs", "over", "kind", "k"]
theorem sc_law_lot_arranged : FnScope n_law_lot_arranged ["store", "table", "prices", "order", "lot"] (defScope s_law_lot_arranged) := ⟨rfl, rfl, rfl, by decide +kernel, rfl, by decide +kernel, by decide +kernel⟩
theorem ok_law_lot_arranged (T : Tx K mg) (h_law_any_shape : Has P w K mg base "_law_any_shape" 5 ["store", "thing"] (spS K sp_any_shape)) (h_law_over_of : Has P w K mg base "_law_over_of" 2 ["prices", "row"] (spF K sp_law_over_of)) (h_law_same : Has P w K mg base "_law_same" 1 ["actual", "due"] (spF K sp_same)) (h_arranged : Has P w K mg base "arranged" 4 ["order", "lot"] (spF K (sp_arranged K))) (h_neighbours : Has P w K mg base "neighbours" 5 ["order", "lot"] (spF K (sp_neighbours K))) (h_house_over : Has P w K mg base "house_over" 5 ["table", "order", "lot"] (spF K (sp_house_over K))) (hk_arranged_0_lot_order : HasK0 P w K mg base "arranged" 4 [1, 0] ["order", "lot"] ["lot", "order"] (spF K (sp_arranged K))) (hk_neighbours_0_lot_order : HasK0 P w K mg base "neighbours" 5 [1, 0] ["order", "lot"] ["lot", "order"] (spF K (sp_neighbours K))) (hk_house_over_0_order_lot_table : HasK0 P w K mg base "house_over" 5 [2, 0, 1] ["table", "order", "lot"] ["order", "lot", "table"] (spF K (sp_house_over K))) {f : Addr} {fd : FuncData} (F : Fd K "_law_lot_arranged" s_law_lot_arranged [] f fd) : FnOk P w K mg base (L2N.CX P w) 6 f fd ["store", "table", "prices", "order", "lot"] (spS K (sp_lot_arranged K)) := by
  refine fnS_ok F sc_law_lot_arranged (sp_lot_arranged K) (fun _ => rfl) (by decide) fun cdv A outer s H E g p ss hr pre hs => ?_
  refine ⟨_, (ds_cons (ds_set (i := 5) sc_law_lot_arranged.nd (de_callS h_law_any_shape hr (dv 0) (da_cons (dv 3) da_nil)))
      (ds_cons (ds_set (i := 6) sc_law_lot_arranged.nd (de_callS h_law_any_shape hr (dv 0) (da_cons (dv 4) da_nil)))
      (ds_cons (ds_set (i := 7) sc_law_lot_arranged.nd (de_tuple T.b_tuple (da_cons (de_new (dn_lc sc_law_lot_arranged.nd (di_seq (dv 3)) (blkOk_by (own := [("kind", 10)]) (N := n_law_lot_arranged) (sc := defScope s_law_lot_arranged) (by decide +kernel)) (fun _ _ _ _ _ _ _ => (dts_one (dt_in (dv 10) (dv 4)))) (fun _ _ _ _ _ _ _ => (dv 10)) (fun _ _ _ _ _ => pg_name (i := 10) sc_law_lot_arranged.nd rfl (Or.inl rfl)))) da_nil)))
      (ds_cons (ds_set (i := 8) sc_law_lot_arranged.nd (de_tuple T.b_tuple (da_cons (de_new (dn_lc sc_law_lot_arranged.nd (di_range1 T.b_range (da_cons (de_sub (de_len T.b_len (da_cons (dv 7) da_nil)) de_int) da_nil)) (blkOk_by (own := [("k", 11)]) (N := n_law_lot_arranged) (sc := defScope s_law_lot_arranged) (by decide +kernel)) (fun _ _ _ _ _ _ _ => dts_nil) (fun _ _ _ _ _ _ _ => (de_tup (da_cons (de_ix (dv 7) (dv 11)) (da_cons (de_ix (dv 7) (de_add (dv 11) de_int)) da_nil)))) (fun _ _ _ _ _ => pg_name (i := 11) sc_law_lot_arranged.nd rfl (Or.inl rfl)))) da_nil)))
      (ds_cons (ds_set (i := 9) sc_law_lot_arranged.nd (de_call h_law_over_of (hr.mono (by decide : 2 ≤ 5)) (da_cons (dv 2) (da_cons (dv 7) da_nil))))
      (ds_cons (ds_if ((dw_or (dt_not (dt_val (de_call h_law_same (hr.mono (by decide : 1 ≤ 5)) (da_cons (de_call h_arranged (hr.mono (by decide : 4 ≤ 5)) (da_cons (dv 5) (da_cons (dv 6) da_nil))) (da_cons (dv 7) da_nil))))) (dw_or1 (dt_not (dt_val (de_call h_law_same (hr.mono (by decide : 1 ≤ 5)) (da_cons (de_callKX0 hk_arranged_0_lot_order (hr.mono (by decide : 4 ≤ 5)) passN (Xp := fun _ => False) (fun _ _ _ _ z => z.elim) (dk_cons (dv 6) (dk_cons (dv 5) dk_nil))) (da_cons (dv 7) da_nil)))))))).dt
      (ds_one (ds_ret de_bl))
      ds_nil)
      (ds_cons (ds_if ((dw_or (dt_not (dt_val (de_call h_law_same (hr.mono (by decide : 1 ≤ 5)) (da_cons (de_call h_neighbours hr (da_cons (dv 5) (da_cons (dv 6) da_nil))) (da_cons (dv 8) da_nil))))) (dw_or1 (dt_not (dt_val (de_call h_law_same (hr.mono (by decide : 1 ≤ 5)) (da_cons (de_callKX0 hk_neighbours_0_lot_order hr passN (Xp := fun _ => False) (fun _ _ _ _ z => z.elim) (dk_cons (dv 4) (dk_cons (dv 3) dk_nil))) (da_cons (dv 8) da_nil)))))))).dt
      (ds_one (ds_ret de_bl))
      ds_nil)
      (ds_cons (ds_if (dt_not (dt_val (de_call h_law_same (hr.mono (by decide : 1 ≤ 5)) (da_cons (de_call h_house_over hr (da_cons (dv 1) (da_cons (dv 5) (da_cons (dv 6) da_nil)))) (da_cons (dv 9) da_nil)))))
      (ds_one (ds_ret de_bl))
      ds_nil)
      (ds_cons (ds_if (dt_not (dt_val (de_call h_law_same (hr.mono (by decide : 1 ≤ 5)) (da_cons (de_callKX0 hk_house_over_0_order_lot_table hr passN (Xp := fun _ => False) (fun _ _ _ _ z => z.elim) (dk_cons (dv 3) (dk_cons (dv 4) (dk_cons (dv 1) dk_nil)))) (da_cons (dv 9) da_nil)))))
      (ds_one (ds_ret de_bl))
      ds_nil)
      (ds_one (ds_ret (de_and (de_eqD hr (de_new (dn_list T.b_list (da_cons (dv 5) da_nil))) (de_new (dn_list T.b_list (da_cons (dv 3) da_nil)))) (de_one (de_eqD hr (de_new (dn_list T.b_list (da_cons (dv 6) da_nil))) (de_new (dn_list T.b_list (da_cons (dv 4) da_nil))))))))))))))))), ?_⟩
  obtain ⟨n, T, os, ls⟩ := g
  obtain ⟨hT, ho, hl⟩ := pre
  have hT : TbOk n T := hT
  have ho : OrdV n os := ho
  have hl : LotOk n ls := hl
  have n1 := hT.n1
  have n8 := hT.n8
  have hll := lot_len hl
  refine ⟨dTup os, rfl, hs, ⟨dep_tup os, (shOk_ints (by rw [ho.1]; omega)).2⟩, fun d s1 hd hs => ?_⟩
  obtain ⟨w1, rfl⟩ := hd
  refine ⟨dTup ls, rfl, hs, ⟨dep_tup ls, (shOk_ints (by omega)).2⟩, fun d s2 hd hs => ?_⟩
  obtain ⟨w2, rfl⟩ := hd
  have hg := shp_tup os w1
  have hp := shp_tup ls w2
  generalize shp (dTup os) w1 = gd at hg ⊢
  generalize shp (dTup ls) w2 = pd at hp ⊢
  refine ⟨trivial, by show (os.map D.int).length ≤ 16777216; rw [List.length_map, ho.1]; omega, fun k acc ρ => ρ = [.own p s2, .v (tabI K T), .v (pricesD T), .v (dTup os), .v (dTup ls), .v gd, .v pd, .un, .un, .un, .un, .un] ∧ acc = ((os.take k).filter fun x => decide (x ∈ ls)).map D.int, ⟨rfl, rfl⟩, fun _ _ _ _ _ => trivial, ?_, ?_⟩
  · rintro k d acc ρ hk hx ⟨rfl, rfl⟩
    have hx : (os.map D.int)[k]? = some d := hx
    obtain ⟨h1, rfl⟩ := int_at hx
    have st := filt_step (f := fun x => decide (x ∈ ls)) h1
    refine ⟨os.getD k 0, _, ls, rfl, rfl, ?_⟩
    show if decide (os.getD k 0 ∈ ls) = true then _ else _
    refine ite2 (fun h => ⟨rfl, ?_⟩) (fun h => ⟨rfl, ?_⟩)
    · rw [st, if_pos h]
    · rw [st, if_neg h, List.append_nil]
  rintro acc ρ ⟨rfl, rfl⟩
  rw [List.length_map, List.take_length]
  have hq : (pick os ls).length ≤ 8 := Nat.le_trans (pick_len ho) n8
  have hqk : KindsIn n (pick os ls) := pick_in ho.2.1
  change (pick os ls).length ≤ 8 at hq
  have eP : os.filter (fun x => decide (x ∈ ls)) = pick os ls := rfl
  rw [eP]
  have aP : ∀ r, (sp_arranged K).post (gd, pd) r → r = dTup (pick os ls) := fun r => arr_post hg hp
  have aP2 : ∀ r, (sp_neighbours K).post (gd, pd) r → r = .tup (pairsOf (pick os ls)) := fun r => nei_post hg hp
  have aP3 : ∀ r, (sp_neighbours K).post (dTup os, dTup ls) r → r = .tup (pairsOf (pick os ls)) := fun r => nei_post rfl rfl
  have aP4 : ∀ r, (sp_house_over K).post (n, T, gd, pd) r → r = .int (overOf T (pick os ls)) := fun r => ho_post hg hp
  have aP5 : ∀ r, (sp_house_over K).post (n, T, dTup os, dTup ls) r → r = .int (overOf T (pick os ls)) := fun r => ho_post rfl rfl
  generalize pick os ls = q at hq hqk aP aP2 aP3 aP4 aP5 ⊢
  have rg : -(2 ^ 62) ≤ (((q.map D.int).length : Nat) : Int) - 1 ∧ (((q.map D.int).length : Nat) : Int) - 1 < 2 ^ 62 ∧ ((((q.map D.int).length : Nat) : Int) - 1 - 0).toNat ≤ 16777216 ∧ ((((q.map D.int).length : Nat) : Int) - 1 - 0).toNat = q.length - 1 := by rw [List.length_map]; omega
  refine ⟨trivial, by decide, by decide, rg.1, rg.2.1, rg.2.2.1, fun k acc ρ => ρ = [.own p s2, .v (tabI K T), .v (pricesD T), .v (dTup os), .v (dTup ls), .v gd, .v pd, .v (dTup q), .un, .un, .un, .un] ∧ acc = (List.range k).map fun j => dTup [q.getD j 0, q.getD (j + 1) 0], ⟨rfl, rfl⟩, fun _ _ _ _ _ => trivial, ?_, ?_⟩
  · rintro k d acc ρ hk rfl ⟨rfl, rfl⟩
    have hk : k + 1 < q.length := by
      have : k < ((((q.map D.int).length : Nat) : Int) - 1 - 0).toNat := hk
      rw [rg.2.2.2] at this
      omega
    refine ⟨.int (q.getD k 0), by rw [Int.zero_add]; exact at_ints' (by omega), .int (q.getD (k + 1) 0), ?_, rfl, ?_⟩
    · rw [show (0 : Int) + (k : Int) + 1 = ((k + 1 : Nat) : Int) by omega]
      exact at_ints' hk
    · rw [List.range_succ, List.map_append]
      rfl
  rintro acc ρ ⟨rfl, rfl⟩
  rw [rg.2.2.2]
  refine ⟨(n, T, q), rfl, ⟨hT, hqk, by show q.length ≤ 1000; omega⟩, fun r hr => ?_, fun _ h => h.elim⟩
  have hr : r = .int (overOf T q) := hr
  subst hr
  dsimp only [kD]
  refine at_state [.own p s2, .v (tabI K T), .v (pricesD T), .v (dTup os), .v (dTup ls), .v gd, .v pd, .v (dTup q), .v (.tup (pairsOf q)), .v (.int (overOf T q)), .un, .un] rfl ?_
  have rg1 := rowIn_of hg
  have rp1 := rowIn_of hp
  have ro1 : RowIn (dTup os) := rowIn_of (ns := os) rfl
  have rl1 : RowIn (dTup ls) := rowIn_of (ns := ls) rfl
  have w1 := (wt_row (ns := q) (by omega)).2
  have w2 := same_pairs hq
  have w3 := same_int (overOf T q)
  refine sifx False (fun A' F' hA hF => ?_) (fun h => h.elim) (fun _ => ?_)
  · refine ⟨(gd, pd), rfl, ⟨rg1, rp1⟩, fun r hr => ?_, fun x hx => (arr_exc n1 n8 hg hp ho hl x hx).elim⟩
    rw [aP r hr]
    refine ⟨dTup q, rfl, w1, fun r hr => ?_, fun _ h => h.elim⟩
    have hr : r = .bl true := hr
    subst hr
    dsimp only [kB]
    refine ite2 (fun h => absurd h (by decide)) (fun _ => ?_)
    refine ⟨rfl, (gd, pd), rfl, ⟨rg1, rp1⟩, fun r hr => ?_, fun x hx => (arr_exc n1 n8 hg hp ho hl x hx).elim⟩
    rw [aP r hr]
    refine ⟨dTup q, rfl, w1, fun r hr => ?_, fun _ h => h.elim⟩
    have hr : r = .bl true := hr
    subst hr
    exact hF id
  refine sifx False (fun A' F' hA hF => ?_) (fun h => h.elim) (fun _ => ?_)
  · refine ⟨(gd, pd), rfl, ⟨rg1, rp1⟩, fun r hr => ?_, fun x hx => (arr_exc n1 n8 hg hp ho hl x hx).elim⟩
    rw [aP2 r hr]
    refine ⟨.tup (pairsOf q), rfl, w2, fun r hr => ?_, fun _ h => h.elim⟩
    have hr : r = .bl true := hr
    subst hr
    dsimp only [kB]
    refine ite2 (fun h => absurd h (by decide)) (fun _ => ?_)
    refine ⟨rfl, (dTup os, dTup ls), rfl, ⟨ro1, rl1⟩, fun r hr => ?_, fun x hx => (arr_exc n1 n8 rfl rfl ho hl x hx).elim⟩
    rw [aP3 r hr]
    refine ⟨.tup (pairsOf q), rfl, w2, fun r hr => ?_, fun _ h => h.elim⟩
    have hr : r = .bl true := hr
    subst hr
    exact hF id
  refine sifx False (fun A' F' hA hF => ?_) (fun h => h.elim) (fun _ => ?_)
  · refine ⟨(n, T, gd, pd), rfl, ⟨hT, rg1, rp1⟩, fun r hr => ?_, fun x hx => (ho_exc hg hp ho hl x hx).elim⟩
    rw [aP4 r hr]
    refine ⟨.int (overOf T q), rfl, w3, fun r hr => ?_, fun _ h => h.elim⟩
    have hr : r = .bl true := hr
    subst hr
    exact hF id
  refine sifx False (fun A' F' hA hF => ?_) (fun h => h.elim) (fun _ => ?_)
  · refine ⟨rfl, (n, T, dTup os, dTup ls), rfl, ⟨hT, ro1, rl1⟩, fun r hr => ?_, fun x hx => (ho_exc rfl rfl ho hl x hx).elim⟩
    rw [aP5 r hr]
    refine ⟨.int (overOf T q), rfl, w3, fun r hr => ?_, fun _ h => h.elim⟩
    have hr : r = .bl true := hr
    subst hr
    exact hF id
  rcases rowOf_el hg with rfl | rfl <;> rcases rowOf_el hp with rfl | rfl <;> (
    dsimp only [rRet, rAndV]
    refine eqL_val (as := os) (bs := os) (fun Q h => h) (fun Q h => h) ?_
    dsimp only [kB]
    refine ite2 (fun _ => ?_) (fun h => absurd (decide_eq_true rfl) h)
    refine eqL_val (as := ls) (bs := ls) (fun Q h => h) (fun Q h => h) ?_
    exact ⟨congrArg D.bl (decide_eq_true rfl), s2, rfl, hs⟩)
theorem has_law_lot_arranged (T : Tx K mg) (h_law_any_shape : Has P w K mg base "_law_any_shape" 5 ["store", "thing"] (spS K sp_any_shape)) (h_law_over_of : Has P w K mg base "_law_over_of" 2 ["prices", "row"] (spF K sp_law_over_of)) (h_law_same : Has P w K mg base "_law_same" 1 ["actual", "due"] (spF K sp_same)) (h_arranged : Has P w K mg base "arranged" 4 ["order", "lot"] (spF K (sp_arranged K))) (h_neighbours : Has P w K mg base "neighbours" 5 ["order", "lot"] (spF K (sp_neighbours K))) (h_house_over : Has P w K mg base "house_over" 5 ["table", "order", "lot"] (spF K (sp_house_over K))) (hk_arranged_0_lot_order : HasK0 P w K mg base "arranged" 4 [1, 0] ["order", "lot"] ["lot", "order"] (spF K (sp_arranged K))) (hk_neighbours_0_lot_order : HasK0 P w K mg base "neighbours" 5 [1, 0] ["order", "lot"] ["lot", "order"] (spF K (sp_neighbours K))) (hk_house_over_0_order_lot_table : HasK0 P w K mg base "house_over" 5 [2, 0, 1] ["table", "order", "lot"] ["order", "lot", "table"] (spF K (sp_house_over K))) {f : Addr} {fd : FuncData} (F : Fd K "_law_lot_arranged" s_law_lot_arranged [] f fd) (gm : mg "_law_lot_arranged" = some (.ref f)) : Has P w K mg base "_law_lot_arranged" 6 ["store", "table", "prices", "order", "lot"] (spS K (sp_lot_arranged K)) := by
  exact has_of F gm (ok_law_lot_arranged T  h_law_any_shape h_law_over_of h_law_same h_arranged h_neighbours h_house_over hk_arranged_0_lot_order hk_neighbours_0_lot_order hk_house_over_0_order_lot_table F) fun _ _ _ _ _ _ us hl => match us, hl with | [_, _, _, _, _], _ => rfl
end
end Q
/-! C23 -/
set_option Elab.async false
set_option linter.all false
set_option maxRecDepth 100000
set_option maxHeartbeats 8000000
namespace Q
open PySem PySem.Spec PyProof.Rows L2 N
section
variable {P : Program} {w : World} {K : PySem.W.Frag} {mg : Str → Option Value} {base : Heap}
/-! counts and overs agree -/
theorem perm_sum {a b : List Int} (h : a.Perm b) : a.sum = b.sum := by
  induction h with
  | nil => rfl
  | cons x _ ih => rw [List.sum_cons, List.sum_cons, ih]
  | swap x y l => rw [List.sum_cons, List.sum_cons, List.sum_cons, List.sum_cons]; omega
  | trans _ _ h1 h2 => exact h1.trans h2
theorem perm_of_sub : ∀ {l r : List Int}, l.Nodup → (∀ x ∈ l, x ∈ r) → l.length = r.length → r.Perm l
  | [], r, _, _, hl => by
    have : r = [] := List.length_eq_zero_iff.mp hl.symm
    rw [this]
  | x :: l, r, h, hs, hl => by
    obtain ⟨h1, h2⟩ := List.nodup_cons.mp h
    have hx := hs x List.mem_cons_self
    have p1 : r.Perm (x :: r.erase x) := List.perm_cons_erase hx
    have ih := perm_of_sub (l := l) (r := r.erase x) h2 (fun y hy => by
      have hne : y ≠ x := fun z => h1 (z ▸ hy)
      exact (List.mem_erase_of_ne hne).mpr (hs y (List.mem_cons_of_mem _ hy))) (by
        rw [List.length_erase_of_mem hx]
        rw [List.length_cons] at hl
        omega)
    exact p1.trans (ih.cons x)
theorem ord_nodup {n : Nat} {os : List Int} (h : OrdV n os) : os.Nodup := by
  have hr := ord_rg n
  have hnd : (rgI (n : Nat)).Nodup := (rgI_sorted _).imp fun z => Int.ne_of_lt z
  have p := perm_of_sub (l := rgI (n : Nat)) (r := os) hnd (fun x hx => by
    have := hr.2.1 x hx
    have e : x = ((x.toNat : Nat) : Int) := by omega
    rw [e]
    exact h.2.2 _ (by omega)) (hr.1.trans h.1.symm)
  exact p.nodup_iff.mpr hnd
theorem pick_perm {n : Nat} {os ls : List Int} (ho : OrdV n os) (hl : LotOk n ls) : (pick os ls).Perm ls := by
  have hnd : ls.Nodup := hl.2.1.imp fun z => Int.ne_of_lt z
  have hpd : (pick os ls).Nodup := (ord_nodup ho).filter _
  have hin : ∀ x ∈ ls, x ∈ pick os ls := fun x hx => by
    have := hl.2.2 x hx
    have e : x = ((x.toNat : Nat) : Int) := by omega
    refine List.mem_filter.mpr ⟨?_, decide_eq_true hx⟩
    rw [e]
    exact ho.2.2 _ (by omega)
  have h2 : ∀ x ∈ pick os ls, x ∈ ls := fun x hx => of_decide_eq_true (List.mem_filter.mp hx).2
  exact perm_of_sub hnd hin (Nat.le_antisymm (len_le_of hnd hin) (len_le_of hpd h2))
def BatOf (n : Nat) (ls cs : List Int) : Prop := cs.length = n ∧ (∀ c ∈ cs, 0 ≤ c ∧ c ≤ 1000000000) ∧ ∀ k : Nat, k < n → (0 < cs.getD k 0 ↔ (k : Int) ∈ ls)
def sp_whole_batch : SS := { α := Nat × List Int × Int, args := fun g => [.int (g.1 : Nat), dTup g.2.1, .int g.2.2], pre := fun g => 1 ≤ g.1 ∧ g.1 ≤ 8 ∧ LotOk g.1 g.2.1 ∧ 1 ≤ g.2.2 ∧ g.2.2 ≤ 1000000000, post := fun g r => ∃ cs, BatOf g.1 g.2.1 cs ∧ r = lstI cs, s0 := fun _ => StOk, s1 := fun _ => StOk }
/-! _law_whole_batch -/
abbrev s_law_whole_batch : Stmt := topS 75
abbrev n_law_whole_batch : List Str := ["store", "many", "lot", "top", "batch", "kind"]
theorem sc_law_whole_batch : FnScope n_law_whole_batch ["store", "many", "lot", "top"] (defScope s_law_whole_batch) := ⟨rfl, rfl, rfl, by decide +kernel, rfl, by decide +kernel, by decide +kernel⟩
theorem ok_law_whole_batch (T : Tx K mg) (h_law_edge : Has P w K mg base "_law_edge" 3 ["store", "low", "high"] (spS K sp_edge)) {f : Addr} {fd : FuncData} (F : Fd K "_law_whole_batch" s_law_whole_batch [] f fd) : FnOk P w K mg base (L2N.CX P w) 4 f fd ["store", "many", "lot", "top"] (spS K sp_whole_batch) := by
  refine fnS_ok F sc_law_whole_batch sp_whole_batch (fun _ => rfl) (by decide) fun cdv A outer s H E g p ss hr pre hs => ?_
  refine ⟨_, (ds_cons (ds_setO (i := 4) sc_law_whole_batch.nd (dn_rep (de_new (dn_lst (da_cons de_int da_nil))) (dv 1)))
      (ds_cons (ds_for (passes_of rfl) (di_seq (dv 2)) (dg 5 sc_law_whole_batch.nd)
      (ds_one (ds_setIx (de_callS h_law_edge hr (dv 0) (da_cons de_int (da_cons (dv 3) da_nil))) (dv 4) (dv 5))))
      (ds_lock 4 (ds_one (ds_ret (dv 4)))))), ?_⟩
  obtain ⟨n, ls, top⟩ := g
  obtain ⟨n1, n8, hl, t1, t9⟩ := pre
  have n1 : 1 ≤ n := n1
  have n8 : n ≤ 8 := n8
  have hl : LotOk n ls := hl
  have t1 : 1 ≤ top := t1
  have t9 : top ≤ 1000000000 := t9
  have hll := lot_len hl
  refine ⟨by show -(2 ^ 63) ≤ ((n : Nat) : Int); omega, by show ((n : Nat) : Int) < 2 ^ 63; omega, by show 1 * ((n : Nat) : Int).toNat ≤ 16777216; omega, ?_⟩
  intro q
  have e0 : (List.replicate ((n : Nat) : Int).toNat [D.int 0]).flatten = (List.replicate n (0 : Int)).map D.int := by rw [Int.toNat_natCast, flat_repD, List.map_replicate]
  dsimp only
  refine ⟨fun j ρ => ∃ (s : List D) (cs : List Int) (k : Slot), ρ = [.own p s, .v (.int (n : Nat)), .v (dTup ls), .v (.int top), .own q (cs.map D.int), k] ∧ StOk s ∧ BatOf n (ls.take j) cs, ⟨ss, List.replicate n 0, _, by rw [← e0]; rfl, hs, by rw [List.length_replicate], fun c hc => by rw [(List.mem_replicate.mp hc).2]; decide, fun k hk => ?_⟩, fun _ _ _ _ => trivial, ?_, ?_⟩
  · rw [List.take_zero, List.getD_eq_getElem?_getD, List.getElem?_replicate, if_pos hk]
    simp
  · rintro j d ρ hj hx ⟨s, cs, k, rfl, hs, b1, b2, b3⟩
    have hx : (ls.map D.int)[j]? = some d := hx
    obtain ⟨h1, rfl⟩ := int_at hx
    have hx2 : ls[j]? = some (ls.getD j 0) := by rw [List.getD_eq_getElem?_getD, List.getElem?_eq_getElem h1]; rfl
    have hk := hl.2.2 _ (List.mem_of_getElem? hx2)
    refine ⟨(1, top), rfl, hs, ⟨t1, by show top - 1 + 1 < 2 ^ 1000; exact tk (by omega)⟩, fun d s2 hd hs => ?_⟩
    obtain ⟨c, rfl, c0, c1⟩ := hd
    have c0 : 1 ≤ c := c0
    have c1 : c ≤ top := c1
    refine ⟨(ls.getD j 0).toNat, by rw [ixN_nat hk.1 (by rw [List.length_map, b1]; exact hk.2)], s2, cs.set (ls.getD j 0).toNat c, _, by rw [List.map_set]; rfl, hs, by rw [List.length_set]; exact b1, fun c' hc' => ?_, fun k hk' => ?_⟩
    · rcases List.mem_or_eq_of_mem_set hc' with h | rfl
      · exact b2 c' h
      · omega
    · rw [List.take_add_one, hx2]
      have e3 : ((k : Nat) : Int) ∈ ls.take j ++ (some (ls.getD j 0)).toList ↔ (k : Int) ∈ ls.take j ∨ (k : Int) = ls.getD j 0 := by simp
      rw [e3]
      by_cases e : k = (ls.getD j 0).toNat
      · subst e
        rw [List.getD_eq_getElem?_getD, List.getElem?_set_self (by omega)]
        exact ⟨fun _ => .inr (by omega), fun _ => by show 0 < c; omega⟩
      · rw [List.getD_eq_getElem?_getD, List.getElem?_set_ne (Ne.symm e), ← List.getD_eq_getElem?_getD, b3 k hk']
        exact ⟨.inl, fun h => h.elim id fun z => absurd (by omega) e⟩
  · rintro ρ ⟨s, cs, k, rfl, hs, hb⟩
    have hb : BatOf n (ls.take (ls.map D.int).length) cs := hb
    rw [List.length_map, List.take_length] at hb
    exact ⟨⟨cs, hb, rfl⟩, s, rfl, hs⟩
theorem has_law_whole_batch (T : Tx K mg) (h_law_edge : Has P w K mg base "_law_edge" 3 ["store", "low", "high"] (spS K sp_edge)) {f : Addr} {fd : FuncData} (F : Fd K "_law_whole_batch" s_law_whole_batch [] f fd) (gm : mg "_law_whole_batch" = some (.ref f)) : Has P w K mg base "_law_whole_batch" 4 ["store", "many", "lot", "top"] (spS K sp_whole_batch) := by
  exact has_of F gm (ok_law_whole_batch T  h_law_edge F) fun _ _ _ _ _ _ us hl => match us, hl with | [_, _, _, _], _ => rfl
end
end Q
/-! C24 -/
set_option Elab.async false
set_option linter.all false
set_option maxRecDepth 100000
set_option maxHeartbeats 8000000
namespace Q
open PySem PySem.Spec PyProof.Rows L2 N
section
variable {P : Program} {w : World} {K : PySem.W.Frag} {mg : Str → Option Value} {base : Heap}
/-! counts agree, overs told -/
theorem stays_full (t : List (List Int)) (ns : List Int) : (ns.map fun x => tt t x x).sum = staysTo t ns ns.length := by
  have := stays_sum t ns ns.length (Nat.le_refl _)
  rwa [List.take_length] at this
theorem sum_sub (f g : Int → Int) : ∀ ns : List Int, (ns.map fun x => (f x - 1) * g x).sum = (ns.map fun x => f x * g x).sum - (ns.map g).sum
  | [] => rfl
  | x :: ns => by
    have h := sum_sub f g ns
    show ((f x - 1) * g x + (ns.map fun x => (f x - 1) * g x).sum) = (f x * g x + (ns.map fun x => f x * g x).sum) - (g x + (ns.map g).sum)
    rw [h, Int.sub_mul, Int.one_mul]
    omega
theorem counts_law {n : Nat} {T : Tb} {os ls cs : List Int} (ho : OrdV n os) (hl : LotOk n ls) (hb : BatOf n ls cs) : housePrice T os cs = overOf T (pick os ls) + (ls.map fun k => g0 cs k * tt T.t k k).sum := by
  have e : os.filter (fun k => decide (0 < g0 cs k)) = pick os ls := by
    unfold pick
    refine List.filter_congr fun k hk => ?_
    have hk := ho.2.1 k hk
    have h := hb.2.2 k.toNat (by omega)
    have e2 : ((k.toNat : Nat) : Int) = k := by omega
    rw [e2] at h
    unfold g0
    exact decide_eq_decide.mpr h
  unfold housePrice overOf
  rw [e, sum_sub (fun k => g0 cs k) (fun k => tt T.t k k), stays_full, perm_sum ((pick_perm ho hl).map fun k => g0 cs k * tt T.t k k)]
  omega
def sp_counts_agree (K : PySem.W.Frag) : SS := { α := Nat × Tb × List Int × List Int, args := fun g => [tabI K g.2.1, pricesD g.2.1, dTup g.2.2.1, dTup g.2.2.2], pre := fun g => TbOk g.1 g.2.1 ∧ OrdV g.1 g.2.2.1 ∧ LotOk g.1 g.2.2.2, post := fun _ r => r = .bl true, s0 := fun _ => StOk, s1 := fun _ => StOk }
/-! _law_counts_agree -/
abbrev s_law_counts_agree : Stmt := topS 85
abbrev n_law_counts_agree : List Str := ["store", "table", "prices", "order", "lot", "batch", "stays", "price", "kind"]
theorem sc_law_counts_agree : FnScope n_law_counts_agree ["store", "table", "prices", "order", "lot"] (defScope s_law_counts_agree) := ⟨rfl, rfl, rfl, by decide +kernel, rfl, by decide +kernel, by decide +kernel⟩
theorem ok_law_counts_agree (T : Tx K mg) (h_law_whole_batch : Has P w K mg base "_law_whole_batch" 4 ["store", "many", "lot", "top"] (spS K sp_whole_batch)) (h_house_price : Has P w K mg base "house_price" 4 ["table", "order", "batch"] (spF K (sp_house_price K))) (h_law_number : Has P w K mg base "_law_number" 1 ["value"] (spF K sp_is_whole)) (h_law_same : Has P w K mg base "_law_same" 1 ["actual", "due"] (spF K sp_same)) (h_law_over_of : Has P w K mg base "_law_over_of" 2 ["prices", "row"] (spF K sp_law_over_of)) (h_law_arranged : Has P w K mg base "_law_arranged" 1 ["order", "lot"] (spF K sp_law_arranged)) {f : Addr} {fd : FuncData} (F : Fd K "_law_counts_agree" s_law_counts_agree [] f fd) : FnOk P w K mg base (L2N.CX P w) 5 f fd ["store", "table", "prices", "order", "lot"] (spS K (sp_counts_agree K)) := by
  refine fnS_ok F sc_law_counts_agree (sp_counts_agree K) (fun _ => rfl) (by decide) fun cdv A outer s H E g p ss hr pre hs => ?_
  refine ⟨_, (ds_cons (ds_set (i := 5) sc_law_counts_agree.nd (de_callS h_law_whole_batch hr (dv 0) (da_cons (de_len T.b_len (da_cons (dv 3) da_nil)) (da_cons (dv 4) (da_cons (de_pow de_int de_int) da_nil)))))
      (ds_cons (ds_set (i := 6) sc_law_counts_agree.nd (de_sum rfl T.b_sum (da_cons (de_new (dn_lc sc_law_counts_agree.nd (di_seq (dv 4)) (blkOk_by (own := [("kind", 8)]) (N := n_law_counts_agree) (sc := defScope s_law_counts_agree) (by decide +kernel)) (fun _ _ _ _ _ _ _ => dts_nil) (fun _ _ _ _ _ _ _ => (de_mul (de_ix (dv 5) (dv 8)) (de_ix (de_ix (de_ix (dv 2) de_int) (dv 8)) (dv 8)))) (fun _ _ _ _ _ => pg_name (i := 8) sc_law_counts_agree.nd rfl (Or.inl rfl)))) da_nil)))
      (ds_cons (ds_set (i := 7) sc_law_counts_agree.nd (de_call h_house_price hr (da_cons (dv 1) (da_cons (dv 3) (da_cons (dv 5) da_nil)))))
      (ds_one (ds_ret (de_and (de_call h_law_same (hr.mono (by decide : 1 ≤ 4)) (da_cons (dv 7) (da_cons (de_add (de_call h_law_over_of (hr.mono (by decide : 2 ≤ 4)) (da_cons (dv 2) (da_cons (de_call h_law_arranged (hr.mono (by decide : 1 ≤ 4)) (da_cons (dv 3) (da_cons (dv 4) da_nil))) da_nil))) (dv 6)) da_nil))) (de_one (de_call h_law_number (hr.mono (by decide : 1 ≤ 4)) (da_cons (dv 7) da_nil))))))))), ?_⟩
  obtain ⟨n, T, os, ls⟩ := g
  obtain ⟨hT, ho, hl⟩ := pre
  have hT : TbOk n T := hT
  have ho : OrdV n os := ho
  have hl : LotOk n ls := hl
  have n1 := hT.n1
  have n8 := hT.n8
  have hll := lot_len hl
  refine ⟨⟨by decide, by decide, by decide⟩, (n, ls, 1000000000), by show _ = dats [.int (n : Nat), dTup ls, .int 1000000000]; rw [show ((n : Nat) : Int) = ((os.map D.int).length : Nat) by rw [List.length_map, ho.1]]; rfl, hs, ⟨n1, n8, hl, by show (1 : Int) ≤ 1000000000; decide, by show (1000000000 : Int) ≤ 1000000000; decide⟩, fun d s1 hd hs => ?_⟩
  obtain ⟨cs, hb, rfl⟩ := hd
  have hb : BatOf n ls cs := hb
  refine ⟨trivial, by show (ls.map D.int).length ≤ 16777216; rw [List.length_map]; omega, fun k acc ρ => ρ = [.own p s1, .v (tabI K T), .v (pricesD T), .v (dTup os), .v (dTup ls), .v (lstI cs), .un, .un, .un] ∧ acc = ((ls.take k).map fun x => g0 cs x * tt T.t x x).map D.int, ⟨rfl, rfl⟩, fun _ _ _ _ _ => trivial, ?_, ?_⟩
  · rintro k d acc ρ hk hx ⟨rfl, rfl⟩
    have hx : (ls.map D.int)[k]? = some d := hx
    obtain ⟨h1, rfl⟩ := int_at hx
    have hx2 : ls[k]? = some (ls.getD k 0) := by rw [List.getD_eq_getElem?_getD, List.getElem?_eq_getElem h1]; rfl
    have hk' := hl.2.2 _ (List.mem_of_getElem? hx2)
    have hg : 0 ≤ g0 cs (ls.getD k 0) ∧ g0 cs (ls.getD k 0) ≤ 1000000000 := by
      have h4 : (ls.getD k 0).toNat < cs.length := by rw [hb.1]; omega
      unfold g0
      rw [List.getD_eq_getElem?_getD (l := cs), List.getElem?_eq_getElem h4]
      exact hb.2.1 _ (List.getElem_mem h4)
    refine ⟨_, at_mi (f := D.int) (d := 0) hk'.1 (by rw [hb.1]; exact hk'.2), .lst (T.t.map lstI), rfl, lstI (T.t.getD (ls.getD k 0).toNat []), at_prow hT hk'.1 hk'.2, _, at_tt hT hk' hk', .inl ⟨by show -(2 ^ 64) < g0 cs (ls.getD k 0); omega, by show g0 cs (ls.getD k 0) < 2 ^ 64; omega⟩, rfl, ?_⟩
    rw [List.take_add_one, hx2, List.map_append, List.map_append]
    rfl
  rintro acc ρ ⟨rfl, rfl⟩
  refine ⟨_, rfl, ?_⟩
  rw [List.length_map, List.take_length]
  have hos : rowOf (dTup os) = some (os.map D.int) := rfl
  have hcs : rowOf (lstI cs) = some (cs.map D.int) := rfl
  refine ⟨(n, T, dTup os, lstI cs), rfl, ⟨hT, rowIn_of hos, rowIn_of hcs⟩, fun r hr => ?_, fun x hx => ?_⟩
  · obtain ⟨os', cs', e1, e2, _, _, hr⟩ := hr
    have e1 : rowOf (dTup os) = some (os'.map D.int) := e1
    have e2 : rowOf (lstI cs) = some (cs'.map D.int) := e2
    rw [hos] at e1
    rw [hcs] at e2
    have e1 := ints_inj (Option.some.inj e1)
    have e2 := ints_inj (Option.some.inj e2)
    subst e1 e2
    have hr : r = .int (housePrice T os cs) := hr
    subst hr
    rw [counts_law ho hl hb]
    refine ⟨(os, ls), rfl, by show os.length ≤ 1000; rw [ho.1]; omega, fun r hr => ?_, fun _ h => h.elim⟩
    have hr : r = dTup (pick os ls) := hr
    subst hr
    refine ⟨(n, T, pick os ls), rfl, ⟨hT, pick_in ho.2.1, by show (pick os ls).length ≤ 1000; have := pick_len (ls := ls) ho; omega⟩, fun r hr => ?_, fun _ h => h.elim⟩
    have hr : r = .int (overOf T (pick os ls)) := hr
    subst hr
    refine ⟨.int (overOf T (pick os ls) + (ls.map fun k => g0 cs k * tt T.t k k).sum), rfl, same_int _, fun r hr => ?_, fun _ h => h.elim⟩
    have hr : r = .bl true := hr
    subst hr
    dsimp only [kB]
    refine ite2 (fun _ => ?_) (fun h => absurd rfl h)
    refine ⟨.int (overOf T (pick os ls) + (ls.map fun k => g0 cs k * tt T.t k k).sum), rfl, rfl, fun r hr => ?_, fun _ h => h.elim⟩
    exact ⟨hr, s1, rfl, hs⟩
  · have h1 : isOrd n n (dTup os) = true := ord_is hos ho (by omega) (by omega)
    have h2 : isBat n n (lstI cs) = true := by
      unfold isBat
      rw [hcs]
      show (decide _ && (cs.map D.int).all (inB 0 1000000000)) = true
      rw [decide_eq_true (by rw [List.length_map, hb.1]; omega), Bool.true_and]
      exact List.all_eq_true.mpr fun x hx => by
        obtain ⟨c, hc, rfl⟩ := List.mem_map.mp hx
        exact decide_eq_true (hb.2.1 c hc)
    rcases hx with ⟨z, _⟩ | ⟨_, z, _⟩
    · have z : isOrd n n (dTup os) = false := z
      rw [h1] at z
      cases z
    · have z : isBat n n (lstI cs) = false := z
      rw [h2] at z
      cases z
theorem has_law_counts_agree (T : Tx K mg) (h_law_whole_batch : Has P w K mg base "_law_whole_batch" 4 ["store", "many", "lot", "top"] (spS K sp_whole_batch)) (h_house_price : Has P w K mg base "house_price" 4 ["table", "order", "batch"] (spF K (sp_house_price K))) (h_law_number : Has P w K mg base "_law_number" 1 ["value"] (spF K sp_is_whole)) (h_law_same : Has P w K mg base "_law_same" 1 ["actual", "due"] (spF K sp_same)) (h_law_over_of : Has P w K mg base "_law_over_of" 2 ["prices", "row"] (spF K sp_law_over_of)) (h_law_arranged : Has P w K mg base "_law_arranged" 1 ["order", "lot"] (spF K sp_law_arranged)) {f : Addr} {fd : FuncData} (F : Fd K "_law_counts_agree" s_law_counts_agree [] f fd) (gm : mg "_law_counts_agree" = some (.ref f)) : Has P w K mg base "_law_counts_agree" 5 ["store", "table", "prices", "order", "lot"] (spS K (sp_counts_agree K)) := by
  exact has_of F gm (ok_law_counts_agree T  h_law_whole_batch h_house_price h_law_number h_law_same h_law_over_of h_law_arranged F) fun _ _ _ _ _ _ us hl => match us, hl with | [_, _, _, _, _], _ => rfl
def sp_overs_told (K : PySem.W.Frag) : FS := { α := Nat × Tb × List Int × Int, args := fun g => [tabI K g.2.1, pricesD g.2.1, dTup g.2.2.1, .lst ((lotsOf (rgI (g.1 : Nat))).map dTup), .int g.2.2.2], pre := fun g => TbOk g.1 g.2.1 ∧ OrdV g.1 g.2.2.1, post := fun _ r => r = .bl true }
/-! _law_overs_told -/
abbrev s_law_overs_told : Stmt := topS 86
abbrev n_law_overs_told : List Str := ["table", "prices", "order", "lots", "named", "due", "lot"]
theorem sc_law_overs_told : FnScope n_law_overs_told ["table", "prices", "order", "lots", "named"] (defScope s_law_overs_told) := ⟨rfl, rfl, rfl, by decide +kernel, rfl, by decide +kernel, by decide +kernel⟩
theorem ok_law_overs_told (T : Tx K mg) (h_law_over_of : Has P w K mg base "_law_over_of" 2 ["prices", "row"] (spF K sp_law_over_of)) (h_law_arranged : Has P w K mg base "_law_arranged" 1 ["order", "lot"] (spF K sp_law_arranged)) (h_law_same : Has P w K mg base "_law_same" 1 ["actual", "due"] (spF K sp_same)) (h_house_overs : Has P w K mg base "house_overs" 5 ["table", "order"] (spF K (sp_house_overs K))) (hk_house_overs_0_order_table : HasK0 P w K mg base "house_overs" 5 [1, 0] ["table", "order"] ["order", "table"] (spF K (sp_house_overs K))) {f : Addr} {fd : FuncData} (F : Fd K "_law_overs_told" s_law_overs_told [] f fd) : FnOk P w K mg base (L2N.CX P w) 6 f fd ["table", "prices", "order", "lots", "named"] (spF K (sp_overs_told K)) := by
  refine fn_ok F sc_law_overs_told (sp_overs_told K) (fun _ => rfl) fun cdv A outer s H E g hr pre hx => ?_
  refine ⟨_, (ds_cons (ds_set (i := 5) sc_law_overs_told.nd (de_tuple T.b_tuple (da_cons (de_new (dn_lc sc_law_overs_told.nd (di_seq (dv 3)) (blkOk_by (own := [("lot", 6)]) (N := n_law_overs_told) (sc := defScope s_law_overs_told) (by decide +kernel)) (fun _ _ _ _ _ _ _ => dts_nil) (fun _ _ _ _ _ _ _ => (de_call h_law_over_of (hr.mono (by decide : 2 ≤ 5)) (da_cons (dv 1) (da_cons (de_call h_law_arranged (hr.mono (by decide : 1 ≤ 5)) (da_cons (dv 2) (da_cons (dv 6) da_nil))) da_nil)))) (fun _ _ _ _ _ => pg_name (i := 6) sc_law_overs_told.nd rfl (Or.inl rfl)))) da_nil)))
      (ds_cons (ds_if (dt_eq (dv 4) de_int)
      (ds_one (ds_ret (de_call h_law_same (hr.mono (by decide : 1 ≤ 5)) (da_cons (de_callKX0 hk_house_overs_0_order_table hr passN (Xp := fun _ => False) (fun _ _ _ _ z => z.elim) (dk_cons (de_new (dn_list T.b_list (da_cons (dv 2) da_nil))) (dk_cons (dv 0) dk_nil))) (da_cons (dv 5) da_nil)))))
      ds_nil)
      (ds_one (ds_ret (de_call h_law_same (hr.mono (by decide : 1 ≤ 5)) (da_cons (de_call h_house_overs hr (da_cons (dv 0) (da_cons (dv 2) da_nil))) (da_cons (dv 5) da_nil))))))), ?_⟩
  obtain ⟨n, T, os, nm⟩ := g
  obtain ⟨hT, ho⟩ := pre
  have hT : TbOk n T := hT
  have ho : OrdV n os := ho
  have n1 := hT.n1
  have n8 := hT.n8
  have hll := lotsOf_len (ns := rgI (n : Nat)) (rgI_sorted _) (by rw [rgI_len]; omega)
  refine ⟨trivial, by show ((lotsOf (rgI (n : Nat))).map dTup).length ≤ 16777216; rw [List.length_map]; omega, fun k acc ρ => ρ = [.v (tabI K T), .v (pricesD T), .v (dTup os), .v (.lst ((lotsOf (rgI (n : Nat))).map dTup)), .v (.int nm), .un, .un] ∧ acc = ((lotsOf (rgI (n : Nat))).take k).map fun l => .int (overOf T (pick os l)), ⟨rfl, rfl⟩, fun _ _ _ _ _ => trivial, ?_, ?_⟩
  · rintro k d acc ρ hk hx ⟨rfl, rfl⟩
    have hx : ((lotsOf (rgI (n : Nat))).map dTup)[k]? = some d := hx
    rw [List.getElem?_map] at hx
    obtain ⟨lot, hl, rfl⟩ := Option.map_eq_some_iff.mp hx
    refine ⟨(os, lot), rfl, by show os.length ≤ 1000; rw [ho.1]; omega, fun r hr => ?_, fun _ h => h.elim⟩
    have hr : r = dTup (pick os lot) := hr
    subst hr
    refine ⟨(n, T, pick os lot), rfl, ⟨hT, pick_in ho.2.1, by show (pick os lot).length ≤ 1000; have := pick_len (ls := lot) ho; omega⟩, fun r hr => ?_, fun _ h => h.elim⟩
    have hr : r = .int (overOf T (pick os lot)) := hr
    subst hr
    refine ⟨rfl, ?_⟩
    rw [List.take_add_one, hl, List.map_append]
    rfl
  rintro acc ρ ⟨rfl, rfl⟩
  rw [List.length_map, List.take_length]
  have ei : ((lotsOf (rgI (n : Nat))).map fun l => D.int (overOf T (pick os l))) = ((lotsOf (rgI (n : Nat))).map fun l => overOf T (pick os l)).map D.int := by rw [List.map_map]; rfl
  have w : sameOk (.tup ((lotsOf (rgI (n : Nat))).map fun l => D.int (overOf T (pick os l)))) = true ∧ wt (.tup ((lotsOf (rgI (n : Nat))).map fun l => D.int (overOf T (pick os l)))) ≤ 1000000 := by
    rw [ei]
    refine ⟨sameOk_ints _, ?_⟩
    rw [wt, wt_ints, List.length_map]
    omega
  have no : ∀ d : D, rowOf d = some (os.map D.int) → ∀ x, ¬ (sp_house_overs K).exc (n, T, d) x := fun d hd x hx => by
    have h1 : isOrd n n d = true := ord_is hd ho (by omega) (by omega)
    have z : isOrd n n d = false := hx.1
    rw [h1] at z
    cases z
  have yes : ∀ d : D, rowOf d = some (os.map D.int) → ∀ r, (sp_house_overs K).post (n, T, d) r → r = .tup ((lotsOf (rgI (n : Nat))).map fun l => D.int (overOf T (pick os l))) := fun d hd r hr => by
    obtain ⟨os', e1, _, hr⟩ := hr
    have e1 : rowOf d = some (os'.map D.int) := e1
    rw [hd] at e1
    have e1 := ints_inj (Option.some.inj e1)
    subst e1
    exact hr
  generalize hL : ((lotsOf (rgI (n : Nat))).map fun l => D.int (overOf T (pick os l))) = L at w yes ⊢
  show if decide (nm = 1) = true then _ else _
  refine ite2 (fun _ => ?_) (fun _ => ?_)
  · refine ⟨rfl, (n, T, lstI os), rfl, ⟨hT, rowIn_of (ns := os) rfl⟩, fun r hr => ?_, fun x hx => (no _ rfl x hx).elim⟩
    rw [yes _ rfl r hr]
    exact ⟨.tup L, rfl, w, fun r hr => hr, fun _ h => h.elim⟩
  · refine ⟨(n, T, dTup os), rfl, ⟨hT, rowIn_of (ns := os) rfl⟩, fun r hr => ?_, fun x hx => (no _ rfl x hx).elim⟩
    rw [yes _ rfl r hr]
    exact ⟨.tup L, rfl, w, fun r hr => hr, fun _ h => h.elim⟩
theorem has_law_overs_told (T : Tx K mg) (h_law_over_of : Has P w K mg base "_law_over_of" 2 ["prices", "row"] (spF K sp_law_over_of)) (h_law_arranged : Has P w K mg base "_law_arranged" 1 ["order", "lot"] (spF K sp_law_arranged)) (h_law_same : Has P w K mg base "_law_same" 1 ["actual", "due"] (spF K sp_same)) (h_house_overs : Has P w K mg base "house_overs" 5 ["table", "order"] (spF K (sp_house_overs K))) (hk_house_overs_0_order_table : HasK0 P w K mg base "house_overs" 5 [1, 0] ["table", "order"] ["order", "table"] (spF K (sp_house_overs K))) {f : Addr} {fd : FuncData} (F : Fd K "_law_overs_told" s_law_overs_told [] f fd) (gm : mg "_law_overs_told" = some (.ref f)) : Has P w K mg base "_law_overs_told" 6 ["table", "prices", "order", "lots", "named"] (spF K (sp_overs_told K)) := by
  exact has_of F gm (ok_law_overs_told T  h_law_over_of h_law_arranged h_law_same h_house_overs hk_house_overs_0_order_table F) fun _ _ _ _ _ _ us hl => match us, hl with | [_, _, _, _, _], _ => rfl
end
end Q
/-! C25 -/
set_option Elab.async false
set_option linter.all false
set_option maxRecDepth 100000
set_option maxHeartbeats 8000000
namespace Q
open PySem PySem.Spec PyProof.Rows L2 N
section
variable {P : Program} {w : World} {K : PySem.W.Frag} {mg : Str → Option Value} {base : Heap}
/-! wrong orders, wrong lots -/
theorem tyInts (ns : List Int) : ∀ x ∈ ns.map D.int, (ty7 x).isSome = true := fun x hx => by
  obtain ⟨n, _, rfl⟩ := List.mem_map.mp hx
  rfl
theorem bad_of {m : Int} {d : D} {ks : List Int} (e : rowOf d = some (ks.map D.int)) (h : ¬ LotOk m ks) : isLotD m d = false := by
  cases e2 : isLotD m d with
  | false => rfl
  | true =>
    obtain ⟨ns, e1, lo⟩ := isLot_el e2
    obtain rfl := ints_inj (Option.some.inj (e.symm.trans e1))
    exact absurd lo h
theorem rin_ints {d : D} {ks : List Int} (e : rowOf d = some (ks.map D.int)) : RowIn d := by
  have := rowIn_l (ds := ks.map D.int) (tyInts ks)
  rcases rowOf_el e with rfl | rfl
  · exact this.2
  · exact this.1
theorem ord_no {lo hi : Int} {d : D} (h : rowOf d = none) : isOrd lo hi d = false := by
  unfold isOrd
  rw [h]
theorem ord_badx {lo hi : Int} {d x : D} {ds : List D} (e : rowOf d = some ds) (hx : x ∈ ds) (h : isK (ds.length : Nat) x = false) : isOrd lo hi d = false := by
  unfold isOrd
  rw [e]
  show (_ && ordIn ds) = false
  have : ds.all (isK (ds.length : Nat)) = false := List.all_eq_false.mpr ⟨x, hx, by rw [h]; exact Bool.false_ne_true⟩
  unfold ordIn
  rw [this, Bool.false_and, Bool.and_false]
theorem ord_badl {lo hi : Int} {d : D} {ds : List D} (e : rowOf d = some ds) (h : ¬ (lo ≤ ((ds.length : Nat) : Int) ∧ ((ds.length : Nat) : Int) ≤ hi)) : isOrd lo hi d = false := by
  unfold isOrd
  rw [e]
  show (decide _ && _) = false
  rw [decide_eq_false h, Bool.false_and]
def comO (os : List Int) (hg : Int) : List D := [.lst ((os.map fun k => k + 1).map D.int), .lst (rgD 0 9), .lst [], .non, .str "0", .dic [], .lst [.bl true], .lst [dTup os], .lst [.int hg], .lst [.int 0, .int 0]]
theorem comO_bad {n : Nat} {os : List Int} {hg : Int} (n1 : 1 ≤ n) (ho : OrdV n os) (hi : 10 ^ 12 < hg) {d : D} (h : d ∈ comO os hg) : RowIn d ∧ ∀ lo hi : Int, 1 ≤ lo → hi ≤ 8 → isOrd lo hi d = false := by
  unfold comO at h
  simp only [List.mem_cons, List.not_mem_nil, or_false] at h
  rcases h with rfl | rfl | rfl | rfl | rfl | rfl | rfl | rfl | rfl | rfl
  · refine ⟨rin_ints (ks := os.map fun k => k + 1) rfl, fun lo hi _ _ => ord_badx (x := .int (n : Nat)) (ds := (os.map fun k => k + 1).map D.int) rfl ?_ ?_⟩
    · refine List.mem_map.mpr ⟨(n : Nat), List.mem_map.mpr ⟨((n - 1 : Nat) : Int), ho.2.2 (n - 1) (by omega), by omega⟩, rfl⟩
    · rw [List.length_map, List.length_map, ho.1]
      exact decide_eq_false fun z => by omega
  · rw [rgD_ints]
    refine ⟨rin_ints (ks := rgI 9) rfl, fun lo hi _ h8 => ord_badl (ds := (rgI 9).map D.int) rfl fun z => ?_⟩
    have z := z.2
    rw [List.length_map, rgI_len] at z
    have : ((Int.toNat 9 : Nat) : Int) = 9 := rfl
    omega
  · exact ⟨rin_ints (ks := []) rfl, fun lo hi h1 _ => ord_badl (ds := []) rfl fun z => by
      have z : lo ≤ 0 := z.1
      omega⟩
  · exact ⟨rowIn_no rfl rfl, fun lo hi _ _ => ord_no rfl⟩
  · exact ⟨rowIn_no rfl rfl, fun lo hi _ _ => ord_no rfl⟩
  · exact ⟨rowIn_no rfl rfl, fun lo hi _ _ => ord_no rfl⟩
  · exact ⟨rowIn_1 rfl, fun lo hi _ _ => ord_badx (x := .bl true) (ds := [.bl true]) rfl (List.mem_singleton_self _) rfl⟩
  · exact ⟨rowIn_1 rfl, fun lo hi _ _ => ord_badx (x := dTup os) (ds := [dTup os]) rfl (List.mem_singleton_self _) rfl⟩
  · refine ⟨rowIn_1 rfl, fun lo hi _ _ => ord_badx (x := .int hg) (ds := [.int hg]) rfl (List.mem_singleton_self _) (decide_eq_false fun z => ?_)⟩
    have h12 : (10 : Int) ^ 12 = 1000000000000 := by decide
    have z2 : hg < ((1 : Nat) : Int) := z.2
    omega
  · refine ⟨rin_ints (ks := [0, 0]) rfl, fun lo hi _ _ => ?_⟩
    show (decide _ && ordIn [.int 0, .int 0]) = false
    rw [show ordIn [.int 0, .int 0] = false from rfl, Bool.and_false]
theorem extra_bad {n : Nat} {os : List Int} (n1 : 1 ≤ n) (ho : OrdV n os) {d : D} (h : d ∈ [dTup (os ++ [(n : Int)]), dTup (os.drop 1), lstI (List.replicate n (0 : Int) ++ [1]), lstI (os ++ [os.getD 0 0])]) : RowIn d ∧ isOrd n n d = false := by
  simp only [List.mem_cons, List.not_mem_nil, or_false] at h
  rcases h with rfl | rfl | rfl | rfl
  · exact ⟨rin_ints (ks := os ++ [(n : Int)]) rfl, ord_badl (ds := (os ++ [(n : Int)]).map D.int) rfl fun z => by
      rw [List.length_map, List.length_append, ho.1, List.length_singleton] at z
      omega⟩
  · exact ⟨rin_ints (ks := os.drop 1) rfl, ord_badl (ds := (os.drop 1).map D.int) rfl fun z => by
      rw [List.length_map, List.length_drop, ho.1] at z
      omega⟩
  · exact ⟨rin_ints (ks := List.replicate n (0 : Int) ++ [1]) rfl, ord_badl (ds := (List.replicate n (0 : Int) ++ [1]).map D.int) rfl fun z => by
      rw [List.length_map, List.length_append, List.length_replicate, List.length_singleton] at z
      omega⟩
  · exact ⟨rin_ints (ks := os ++ [os.getD 0 0]) rfl, ord_badl (ds := (os ++ [os.getD 0 0]).map D.int) rfl fun z => by
      rw [List.length_map, List.length_append, ho.1, List.length_singleton] at z
      omega⟩
theorem arr_bad {K : PySem.W.Frag} {w l : D} (h : isOrd 1 8 w = false) : (∀ r, ¬ (sp_arranged K).post (w, l) r) ∧ ∀ x, (sp_arranged K).exc (w, l) x → x = exBad K "BadOrder" := by
  refine ⟨fun r ⟨_, _, _, _, z, _⟩ => ?_, fun x hx => ?_⟩
  · have z : isOrd 1 8 w = true := z
    rw [h] at z
    cases z
  · rcases hx with ⟨_, e⟩ | ⟨_, _, z, _⟩
    · exact e
    · have z : isOrd 1 8 w = true := z
      rw [h] at z
      cases z
theorem nei_bad {K : PySem.W.Frag} {w l : D} (h : isOrd 1 8 w = false) : (∀ r, ¬ (sp_neighbours K).post (w, l) r) ∧ ∀ x, (sp_neighbours K).exc (w, l) x → x = exBad K "BadOrder" := by
  refine ⟨fun r ⟨_, _, _, _, z, _⟩ => ?_, fun x hx => (arr_bad h).2 x hx⟩
  have z : isOrd 1 8 w = true := z
  rw [h] at z
  cases z
theorem ho_bad {K : PySem.W.Frag} {n : Nat} {T : Tb} {w l : D} (h : isOrd n n w = false) : (∀ r, ¬ (sp_house_over K).post (n, T, w, l) r) ∧ ∀ x, (sp_house_over K).exc (n, T, w, l) x → x = exBad K "BadOrder" := by
  refine ⟨fun r ⟨_, _, _, _, z, _⟩ => ?_, fun x hx => ?_⟩
  · have z : isOrd n n w = true := z
    rw [h] at z
    cases z
  · rcases hx with ⟨_, e⟩ | ⟨z, _⟩
    · exact e
    · have z : isOrd n n w = true := z
      rw [h] at z
      cases z
theorem hos_bad {K : PySem.W.Frag} {n : Nat} {T : Tb} {w : D} (h : isOrd n n w = false) : (∀ r, ¬ (sp_house_overs K).post (n, T, w) r) ∧ ∀ x, (sp_house_overs K).exc (n, T, w) x → x = exBad K "BadOrder" := by
  refine ⟨fun r ⟨_, _, z, _⟩ => ?_, fun x hx => hx.2⟩
  have z : isOrd n n w = true := z
  rw [h] at z
  cases z
theorem lot4 {m : Int} {d : D} (h : d ∈ [D.tup [.int 0], .lst [], .non, .lst [.int m]]) : RowIn d := by
  simp only [List.mem_cons, List.not_mem_nil, or_false] at h
  rcases h with rfl | rfl | rfl | rfl
  · exact rin_ints (ks := [0]) rfl
  · exact rin_ints (ks := []) rfl
  · exact rowIn_no rfl rfl
  · exact rin_ints (ks := [m]) rfl
def sp_orders_refused (K : PySem.W.Frag) : SS := { α := Nat × Tb × List Int, args := fun g => [tabI K g.2.1, dTup g.2.2], pre := fun g => TbOk g.1 g.2.1 ∧ OrdV g.1 g.2.2, post := fun _ r => r = .bl true, s0 := fun _ => StOk, s1 := fun _ => StOk }
/-! _law_orders_refused -/
abbrev s_law_orders_refused : Stmt := topS 87
abbrev n_law_orders_refused : List Str := ["store", "table", "order", "many", "common", "wrong", "lot", "kind"]
theorem sc_law_orders_refused : FnScope n_law_orders_refused ["store", "table", "order"] (defScope s_law_orders_refused) := ⟨rfl, rfl, rfl, by decide +kernel, rfl, by decide +kernel, by decide +kernel⟩
theorem ok_law_orders_refused (T : Tx K mg) {Tb : Tbs} (hTb : TabFn Tb) (TO : TabO base mg K Tb "_law_orders_refused") {gA : Addr} {fdA : FuncData} (FA : Fd K "_law_answer" s_law_answer [] gA fdA) (mA : mg "_law_answer" = some (.ref gA)) (kx : ∀ nm ∈ cls13, KitX K nm) (kt : KitX K "TooMany") (nt : PySem.W.findIn K (.ref (He.ga K "TooMany")) "limit" = some none) (h_law_huge : Has P w K mg base "_law_huge" 1 [] (spF K sp_huge)) (h_law_pick : Has P w K mg base "_law_pick" 3 ["store", "things"] (spS K sp_pick)) (h_law_refused : Has P w K mg base "_law_refused" 2 ["answer", "name", "value"] (spF K sp_refused)) (h_arranged : Has P w K mg base "arranged" 4 ["order", "lot"] (spF K (sp_arranged K))) (h_neighbours : Has P w K mg base "neighbours" 5 ["order", "lot"] (spF K (sp_neighbours K))) (h_house_over : Has P w K mg base "house_over" 5 ["table", "order", "lot"] (spF K (sp_house_over K))) (h_house_overs : Has P w K mg base "house_overs" 5 ["table", "order"] (spF K (sp_house_overs K))) {fd : FuncData} (F : Fd K "_law_orders_refused" s_law_orders_refused [] (He.fAd K ("_law_orders_refused", none)) fd) : FnOk P w K mg base (L2N.CX P w) 8 (He.fAd K ("_law_orders_refused", none)) fd ["store", "table", "order"] (spST K Tb (sp_orders_refused K)) := by
  refine fnST_ok F sc_law_orders_refused (sp_orders_refused K) (fun _ => rfl) (by decide) (by decide) fun A outer s H E g p ss hr pre hs => ?_
  refine ⟨_, (ds_cons (ds_set (i := 3) sc_law_orders_refused.nd (de_len T.b_len (da_cons (dv 2) da_nil)))
      (ds_cons (ds_set (i := 4) sc_law_orders_refused.nd (de_new (dn_lst (da_cons (de_new (dn_lc sc_law_orders_refused.nd (di_seq (dv 2)) (blkOk_by (own := [("kind", 7)]) (N := n_law_orders_refused) (sc := defScope s_law_orders_refused) (by decide +kernel)) (fun _ _ _ _ _ _ _ => dts_nil) (fun _ _ _ _ _ _ _ => (de_add (dv 7) de_int)) (fun _ _ _ _ _ => pg_name (i := 7) sc_law_orders_refused.nd rfl (Or.inl rfl)))) (da_cons (de_new (dn_listrange T.b_list T.b_range de_int)) (da_cons (de_new (dn_lst da_nil)) (da_cons de_non (da_cons de_str (da_cons de_dic0 (da_cons (de_new (dn_lst (da_cons de_bl da_nil))) (da_cons (de_new (dn_lst (da_cons (dv 2) da_nil))) (da_cons (de_new (dn_lst (da_cons (de_call0 h_law_huge (hr.mono (by decide : 1 ≤ 7))) da_nil))) (da_cons (de_new (dn_lst (da_cons de_int (da_cons de_int da_nil)))) da_nil)))))))))))))
      (ds_cons (ds_for (passes_of rfl) (di_seq (dv 4)) (dg 5 sc_law_orders_refused.nd)
      (ds_cons (ds_set (i := 6) sc_law_orders_refused.nd (de_callS h_law_pick (hr.mono (by decide : 3 ≤ 7)) (dv 0) (da_cons (de_new (dn_lst (da_cons (de_tup (da_cons de_int da_nil)) (da_cons (de_new (dn_lst da_nil)) (da_cons de_non (da_cons (de_new (dn_lst (da_cons (dv 3) da_nil))) da_nil)))))) da_nil)))
      (ds_cons (ds_if (dt_not (dt_val (de_call h_law_refused (hr.mono (by decide : 2 ≤ 7)) (da_cons (de_answerT (n := 8) (T := Tb) (Ans := AnsN K) noT_no FA mA sc_law_answer rfl (Or.inl rfl) (fun _ _ _ _ _ _ us hl => match us, hl with | [_], _ => rfl) (fun cdg => gives_law_answer T kx kt nt) TO.b rfl hTb TO.m hr (fun Xp B' A outer s H E f c' hr hE => (de_callX h_arranged (hr.mono (by decide : 4 ≤ 5)) (L2N.passes_call (L2N.takes_of rfl rfl rfl rfl) (fun _ _ _ _ h => h)) hE (da_cons (dv 5) (da_cons (dv 6) da_nil)))) (L := (LamX.lamS_by (by decide +kernel) : LamX.LamS (defScope s_law_orders_refused) _))) (da_cons de_str (da_cons de_non da_nil))))))
      (ds_one (ds_ret de_bl))
      ds_nil)
      (ds_one (ds_if (dt_not (dt_val (de_call h_law_refused (hr.mono (by decide : 2 ≤ 7)) (da_cons (de_answerT (n := 8) (T := Tb) (Ans := AnsN K) noT_no FA mA sc_law_answer rfl (Or.inl rfl) (fun _ _ _ _ _ _ us hl => match us, hl with | [_], _ => rfl) (fun cdg => gives_law_answer T kx kt nt) TO.b rfl hTb TO.m hr (fun Xp B' A outer s H E f c' hr hE => (de_callX h_neighbours hr (L2N.passes_call (L2N.takes_of rfl rfl rfl rfl) (fun _ _ _ _ h => h)) hE (da_cons (dv 5) (da_cons (dv 6) da_nil)))) (L := (LamX.lamS_by (by decide +kernel) : LamX.LamS (defScope s_law_orders_refused) _))) (da_cons de_str (da_cons de_non da_nil))))))
      (ds_one (ds_ret de_bl))
      ds_nil)))))
      (ds_cons (ds_for (passes_of rfl) (di_seq (de_new (dn_cat (dv 4) (de_new (dn_lst (da_cons (de_catT (dv 2) (de_tup (da_cons (dv 3) da_nil))) (da_cons (de_sliceT (dv 2) (do_some de_int) do_none) (da_cons (de_new (dn_cat (de_new (dn_rep (de_new (dn_lst (da_cons de_int da_nil))) (dv 3))) (de_new (dn_lst (da_cons de_int da_nil))))) (da_cons (de_new (dn_cat (de_new (dn_list T.b_list (da_cons (dv 2) da_nil))) (de_new (dn_lst (da_cons (de_ix (dv 2) de_int) da_nil))))) da_nil))))))))) (dg 5 sc_law_orders_refused.nd)
      (ds_cons (ds_set (i := 6) sc_law_orders_refused.nd (de_callS h_law_pick (hr.mono (by decide : 3 ≤ 7)) (dv 0) (da_cons (de_new (dn_lst (da_cons (de_tup (da_cons de_int da_nil)) (da_cons (de_new (dn_lst da_nil)) (da_cons de_non (da_cons (de_new (dn_lst (da_cons (dv 3) da_nil))) da_nil)))))) da_nil)))
      (ds_cons (ds_if (dt_not (dt_val (de_call h_law_refused (hr.mono (by decide : 2 ≤ 7)) (da_cons (de_answerT (n := 8) (T := Tb) (Ans := AnsN K) noT_no FA mA sc_law_answer rfl (Or.inl rfl) (fun _ _ _ _ _ _ us hl => match us, hl with | [_], _ => rfl) (fun cdg => gives_law_answer T kx kt nt) TO.b rfl hTb TO.m hr (fun Xp B' A outer s H E f c' hr hE => (de_callX h_house_over hr (L2N.passes_call (L2N.takes_of rfl rfl rfl rfl) (fun _ _ _ _ h => h)) hE (da_cons (dv 1) (da_cons (dv 5) (da_cons (dv 6) da_nil))))) (L := (LamX.lamS_by (by decide +kernel) : LamX.LamS (defScope s_law_orders_refused) _))) (da_cons de_str (da_cons de_non da_nil))))))
      (ds_one (ds_ret de_bl))
      ds_nil)
      (ds_one (ds_if (dt_not (dt_val (de_call h_law_refused (hr.mono (by decide : 2 ≤ 7)) (da_cons (de_answerT (n := 8) (T := Tb) (Ans := AnsN K) noT_no FA mA sc_law_answer rfl (Or.inl rfl) (fun _ _ _ _ _ _ us hl => match us, hl with | [_], _ => rfl) (fun cdg => gives_law_answer T kx kt nt) TO.b rfl hTb TO.m hr (fun Xp B' A outer s H E f c' hr hE => (de_callX h_house_overs hr (L2N.passes_call (L2N.takes_of rfl rfl rfl rfl) (fun _ _ _ _ h => h)) hE (da_cons (dv 1) (da_cons (dv 5) da_nil)))) (L := (LamX.lamS_by (by decide +kernel) : LamX.LamS (defScope s_law_orders_refused) _))) (da_cons de_str (da_cons de_non da_nil))))))
      (ds_one (ds_ret de_bl))
      ds_nil)))))
      (ds_one (ds_ret de_bl)))))), ?_⟩
  obtain ⟨n, T, os⟩ := g
  obtain ⟨hT, ho⟩ := pre
  have hT : TbOk n T := hT
  have ho : OrdV n os := ho
  have n1 := hT.n1
  have n8 := hT.n8
  refine ⟨trivial, by show (os.map D.int).length ≤ 16777216; rw [List.length_map, ho.1]; omega, fun k acc ρ => ρ = [.own p ss, .v (tabI K T), .v (dTup os), .v (.int ((os.map D.int).length : Nat)), .un, .un, .un, .un] ++ tabL Tb ∧ acc = ((os.take k).map fun k => k + 1).map D.int, ⟨rfl, rfl⟩, fun _ _ _ _ _ => trivial, ?_, ?_⟩
  · rintro k d acc ρ hk hx ⟨rfl, rfl⟩
    have hx : (os.map D.int)[k]? = some d := hx
    obtain ⟨h1, rfl⟩ := int_at hx
    have hx2 : os[k]? = some (os.getD k 0) := by rw [List.getD_eq_getElem?_getD, List.getElem?_eq_getElem h1]; rfl
    refine ⟨rfl, ?_⟩
    rw [List.take_add_one, hx2, List.map_append, List.map_append]
    rfl
  rintro acc ρ ⟨rfl, rfl⟩
  rw [List.length_map, List.take_length]
  refine ⟨⟨by decide, by decide, by decide, by decide, by decide⟩, (), rfl, trivial, fun r ⟨hg, er, hi⟩ => ?_, fun _ h => h.elim⟩
  subst er
  have hcO := fun d (hd : d ∈ comO os hg) => comO_bad n1 ho hi hd
  refine ⟨fun k ρ => ∃ (s : List D) (a b : Slot), ρ = [.own p s, .v (tabI K T), .v (dTup os), .v (.int (os.length : Nat)), .v (.lst (comO os hg)), a, b, .un] ++ tabL Tb ∧ StOk s, ⟨ss, _, _, rfl, hs⟩, fun _ _ _ _ => trivial, ?_, ?_⟩
  · rintro k w ρ hk hw ⟨s, a, b, rfl, hs⟩
    obtain ⟨c2, c1⟩ := hcO w (List.mem_of_getElem? hw)
    have c1 := c1 1 8 (by decide) (by decide)
    refine ⟨(false, [.tup [.int 0], .lst [], .non, .lst [.int (os.length : Nat)]]), rfl, hs, ⟨by simp, by simp⟩, fun d s2 hd hs => ?_⟩
    have c3 : RowIn d := lot4 hd
    have pb := arr_bad (K := K) (l := d) c1
    have pn := nei_bad (K := K) (l := d) c1
    refine ⟨⟨rfl, rfl, rfl⟩, fun y => y = exBad K "BadOrder", ⟨(w, d), rfl, ⟨c2, c3⟩, fun r hr => absurd hr (pb.1 r), pb.2⟩, fun y hy => ⟨raisedD "BadOrder", ansP "BadOrder" (by decide) hy, ?_⟩⟩
    refine ⟨("BadOrder", .non), rfl, ref_pre (by decide), fun r hr => ?_, fun _ h => h.elim⟩
    have hr : r = .bl true := hr
    subst hr
    refine ⟨⟨rfl, rfl, rfl⟩, fun y => y = exBad K "BadOrder", ⟨(w, d), rfl, ⟨c2, c3⟩, fun r hr => absurd hr (pn.1 r), pn.2⟩, fun y hy => ⟨raisedD "BadOrder", ansP "BadOrder" (by decide) hy, ?_⟩⟩
    refine ⟨("BadOrder", .non), rfl, ref_pre (by decide), fun r hr => ?_, fun _ h => h.elim⟩
    have hr : r = .bl true := hr
    subst hr
    exact ⟨s2, _, _, rfl, hs⟩
  rintro ρ ⟨s, a, b, rfl, hs⟩
  have e2 : N.cutD (os.map D.int) (some 1) none = (os.drop 1).map D.int := (cut1 _).trans (by rw [List.map_drop])
  have hol := ho.1
  have e3 : (List.replicate ((os.length : Nat) : Int).toNat [D.int 0]).flatten = (List.replicate n (0 : Int)).map D.int := by rw [Int.toNat_natCast, hol, flat_repD, List.map_replicate]
  refine ⟨by show (os.map D.int).length + 1 ≤ 16777216; rw [List.length_map]; omega, os.map D.int, rfl, ?_⟩
  refine ⟨by show -(2 ^ 63) ≤ ((os.length : Nat) : Int); omega, by show ((os.length : Nat) : Int) < 2 ^ 63; omega, by show 1 * ((os.length : Nat) : Int).toNat ≤ 16777216; omega, ?_⟩
  refine ⟨by rw [e3, List.length_map, List.length_replicate]; show n + 1 ≤ 16777216; omega, .int (os.getD 0 0), at_ints' (ns := os) (k := 0) (by omega), ?_⟩
  refine ⟨by show (os.map D.int).length + 1 ≤ 16777216; rw [List.length_map]; omega, by show 10 + 4 ≤ 16777216; decide, ?_⟩
  have eL : [D.tup (os.map D.int ++ [.int (os.length : Nat)]), .tup (N.cutD (os.map D.int) (some 1) none), .lst ((List.replicate ((os.length : Nat) : Int).toNat [D.int 0]).flatten ++ [.int 1]), .lst (os.map D.int ++ [.int (os.getD 0 0)])] = [dTup (os ++ [(n : Int)]), dTup (os.drop 1), lstI (List.replicate n (0 : Int) ++ [1]), lstI (os ++ [os.getD 0 0])] := by
    rw [e2, e3, hol]
    simp [dTup, lstI]
  refine ⟨fun k ρ => ∃ (s : List D) (a b : Slot), ρ = [.own p s, .v (tabI K T), .v (dTup os), .v (.int (os.length : Nat)), .v (.lst (comO os hg)), a, b, .un] ++ tabL Tb ∧ StOk s, ⟨s, _, _, rfl, hs⟩, fun _ _ _ _ => trivial, ?_, ?_⟩
  · rintro k w ρ hk hw ⟨s, a, b, rfl, hs⟩
    have hm : w ∈ comO os hg ++ [D.tup (os.map D.int ++ [.int (os.length : Nat)]), .tup (N.cutD (os.map D.int) (some 1) none), .lst ((List.replicate ((os.length : Nat) : Int).toNat [D.int 0]).flatten ++ [.int 1]), .lst (os.map D.int ++ [.int (os.getD 0 0)])] := List.mem_of_getElem? hw
    rw [eL] at hm
    obtain ⟨c2, c1⟩ : RowIn w ∧ isOrd n n w = false := by
      rcases List.mem_append.mp hm with h | h
      · obtain ⟨c2, c1⟩ := hcO w h
        exact ⟨c2, c1 n n (by omega) (by omega)⟩
      · exact extra_bad n1 ho h
    refine ⟨(false, [.tup [.int 0], .lst [], .non, .lst [.int (os.length : Nat)]]), rfl, hs, ⟨by simp, by simp⟩, fun d s2 hd hs => ?_⟩
    have c3 : RowIn d := lot4 hd
    have pb := ho_bad (K := K) (T := T) (l := d) c1
    have pn := hos_bad (K := K) (T := T) c1
    refine ⟨⟨rfl, rfl, rfl⟩, fun y => y = exBad K "BadOrder", ⟨(n, T, w, d), rfl, ⟨hT, c2, c3⟩, fun r hr => absurd hr (pb.1 r), pb.2⟩, fun y hy => ⟨raisedD "BadOrder", ansP "BadOrder" (by decide) hy, ?_⟩⟩
    refine ⟨("BadOrder", .non), rfl, ref_pre (by decide), fun r hr => ?_, fun _ h => h.elim⟩
    have hr : r = .bl true := hr
    subst hr
    refine ⟨⟨rfl, rfl, rfl⟩, fun y => y = exBad K "BadOrder", ⟨(n, T, w), rfl, ⟨hT, c2⟩, fun r hr => absurd hr (pn.1 r), pn.2⟩, fun y hy => ⟨raisedD "BadOrder", ansP "BadOrder" (by decide) hy, ?_⟩⟩
    refine ⟨("BadOrder", .non), rfl, ref_pre (by decide), fun r hr => ?_, fun _ h => h.elim⟩
    have hr : r = .bl true := hr
    subst hr
    exact ⟨s2, _, _, rfl, hs⟩
  rintro ρ ⟨s, a, b, rfl, hs⟩
  exact ⟨rfl, ⟨s, rfl, hs⟩, rfl⟩
theorem has_law_orders_refused (T : Tx K mg) {Tb : Tbs} (hTb : TabFn Tb) (TO : TabO base mg K Tb "_law_orders_refused") {gA : Addr} {fdA : FuncData} (FA : Fd K "_law_answer" s_law_answer [] gA fdA) (mA : mg "_law_answer" = some (.ref gA)) (kx : ∀ nm ∈ cls13, KitX K nm) (kt : KitX K "TooMany") (nt : PySem.W.findIn K (.ref (He.ga K "TooMany")) "limit" = some none) (h_law_huge : Has P w K mg base "_law_huge" 1 [] (spF K sp_huge)) (h_law_pick : Has P w K mg base "_law_pick" 3 ["store", "things"] (spS K sp_pick)) (h_law_refused : Has P w K mg base "_law_refused" 2 ["answer", "name", "value"] (spF K sp_refused)) (h_arranged : Has P w K mg base "arranged" 4 ["order", "lot"] (spF K (sp_arranged K))) (h_neighbours : Has P w K mg base "neighbours" 5 ["order", "lot"] (spF K (sp_neighbours K))) (h_house_over : Has P w K mg base "house_over" 5 ["table", "order", "lot"] (spF K (sp_house_over K))) (h_house_overs : Has P w K mg base "house_overs" 5 ["table", "order"] (spF K (sp_house_overs K))) {fd : FuncData} (F : Fd K "_law_orders_refused" s_law_orders_refused [] (He.fAd K ("_law_orders_refused", none)) fd) (gm : mg "_law_orders_refused" = some (.ref (He.fAd K ("_law_orders_refused", none)))) : Has P w K mg base "_law_orders_refused" 8 ["store", "table", "order"] (spST K Tb (sp_orders_refused K)) := by
  exact has_of F gm (ok_law_orders_refused T  hTb TO FA mA kx kt nt h_law_huge h_law_pick h_law_refused h_arranged h_neighbours h_house_over h_house_overs F) fun _ _ _ _ _ _ us hl => match us, hl with | [_, _, _], _ => rfl
end
end Q
/-! C26 -/
set_option Elab.async false
set_option linter.all false
set_option maxRecDepth 100000
set_option maxHeartbeats 8000000
namespace Q
open PySem PySem.Spec PyProof.Rows L2 N
section
variable {P : Program} {w : World} {K : PySem.W.Frag} {mg : Str → Option Value} {base : Heap}
/-! wrong lots -/
def comW (m : Int) : List D := [.lst [], .tup [], .lst [.int 0, .int 0], .lst [.int 1, .int 0], .lst [.bl true], .lst [.bl false], .tup [.int 0, .int (-1)], .str "0", .non, .dic [(.inl 0, .int 0)], .int 0, .lst [.int m], .lst [.int 0, .int m], .lst [.lst [.int 0]]]
theorem comW_bad {m : Int} {d : D} (h : d ∈ comW m) : isLotD m d = false ∧ RowIn d := by
  have key : ∀ {d : D} (ks : List Int), rowOf d = some (ks.map D.int) → ¬ LotOk m ks → isLotD m d = false ∧ RowIn d := fun ks e h => ⟨bad_of e h, rin_ints e⟩
  have no : ∀ {d : D}, rowOf d = none → (ty7 d).isSome = true → isLotD m d = false ∧ RowIn d := fun h t => ⟨lot_no h, rowIn_no h t⟩
  unfold comW at h
  simp only [List.mem_cons, List.not_mem_nil, or_false] at h
  rcases h with rfl | rfl | rfl | rfl | rfl | rfl | rfl | rfl | rfl | rfl | rfl | rfl | rfl | rfl
  · exact key [] rfl fun z => z.1 rfl
  · exact key [] rfl fun z => z.1 rfl
  · exact key [0, 0] rfl fun z => absurd z.2.1 (by decide)
  · exact key [1, 0] rfl fun z => absurd z.2.1 (by decide)
  · exact ⟨lot_badx (x := .bl true) (List.mem_singleton_self _) rfl, rowIn_1 rfl⟩
  · exact ⟨lot_badx (x := .bl false) (List.mem_singleton_self _) rfl, rowIn_1 rfl⟩
  · exact key [0, -1] rfl fun z => absurd z.2.1 (by decide)
  · exact no rfl rfl
  · exact no rfl rfl
  · exact no rfl rfl
  · exact no rfl rfl
  · exact key [m] rfl fun z => by have := (z.2.2 m (by simp)).2; omega
  · exact key [0, m] rfl fun z => by have := (z.2.2 m (by simp)).2; omega
  · exact ⟨lot_badx (x := .lst [.int 0]) (List.mem_singleton_self _) rfl, rowIn_1 rfl⟩
theorem arr_badl {K : PySem.W.Frag} {n : Nat} {o w : D} {os : List Int} (n1 : 1 ≤ n) (n8 : n ≤ 8) (ho : OrdV n os) (eo : rowOf o = some (os.map D.int)) (h : isLotD n w = false) : (∀ r, ¬ (sp_arranged K).post (o, w) r) ∧ (∀ r, ¬ (sp_neighbours K).post (o, w) r) ∧ ∀ x, (sp_arranged K).exc (o, w) x → x = exBad K "BadLot" := by
  have h1 : isOrd 1 8 o = true := ord_is eo ho (by omega) (by omega)
  have key : ∀ {os' : List Int}, rowOf o = some (os'.map D.int) → isLotD (os'.length : Nat) w = true → False := fun {os'} e z => by
    rw [eo] at e
    have e := ints_inj (Option.some.inj e)
    subst e
    rw [ho.1, h] at z
    cases z
  refine ⟨fun r ⟨_, _, e, _, _, z, _⟩ => key e z, fun r ⟨_, _, e, _, _, z, _⟩ => key e z, fun x hx => ?_⟩
  rcases hx with ⟨z, _⟩ | ⟨_, _, _, _, e⟩
  · have z : isOrd 1 8 o = false := z
    rw [h1] at z
    cases z
  · exact e
theorem ho_badl {K : PySem.W.Frag} {n : Nat} {T : Tb} {o w : D} {os : List Int} (ho : OrdV n os) (eo : rowOf o = some (os.map D.int)) (h : isLotD n w = false) : (∀ r, ¬ (sp_house_over K).post (n, T, o, w) r) ∧ ∀ x, (sp_house_over K).exc (n, T, o, w) x → x = exBad K "BadLot" := by
  have h1 : isOrd n n o = true := ord_is eo ho (by omega) (by omega)
  refine ⟨fun r ⟨_, _, _, _, _, z, _⟩ => ?_, fun x hx => ?_⟩
  · have z : isLotD n w = true := z
    rw [h] at z
    cases z
  · rcases hx with ⟨z, _⟩ | ⟨_, _, e⟩
    · have z : isOrd n n o = false := z
      rw [h1] at z
      cases z
    · exact e
/-! _law_lots_refused -/
abbrev s_law_lots_refused : Stmt := topS 88
abbrev n_law_lots_refused : List Str := ["store", "table", "order", "many", "wrongs", "wrong", "answers", "answer"]
theorem sc_law_lots_refused : FnScope n_law_lots_refused ["store", "table", "order"] (defScope s_law_lots_refused) := ⟨rfl, rfl, rfl, by decide +kernel, rfl, by decide +kernel, by decide +kernel⟩
theorem ok_law_lots_refused (T : Tx K mg) {Tb : Tbs} (hTb : TabFn Tb) (TO : TabO base mg K Tb "_law_lots_refused") {gA : Addr} {fdA : FuncData} (FA : Fd K "_law_answer" s_law_answer [] gA fdA) (mA : mg "_law_answer" = some (.ref gA)) (kx : ∀ nm ∈ cls13, KitX K nm) (kt : KitX K "TooMany") (nt : PySem.W.findIn K (.ref (He.ga K "TooMany")) "limit" = some none) (h_law_take : Has P w K mg base "_law_take" 2 ["store", "many"] (spS K sp_take)) (h_arranged : Has P w K mg base "arranged" 4 ["order", "lot"] (spF K (sp_arranged K))) (h_neighbours : Has P w K mg base "neighbours" 5 ["order", "lot"] (spF K (sp_neighbours K))) (h_house_over : Has P w K mg base "house_over" 5 ["table", "order", "lot"] (spF K (sp_house_over K))) (h_law_refused : Has P w K mg base "_law_refused" 2 ["answer", "name", "value"] (spF K sp_refused)) {fd : FuncData} (F : Fd K "_law_lots_refused" s_law_lots_refused [] (He.fAd K ("_law_lots_refused", none)) fd) : FnOk P w K mg base (L2N.CX P w) 8 (He.fAd K ("_law_lots_refused", none)) fd ["store", "table", "order"] (spST K Tb (sp_orders_refused K)) := by
  refine fnST_ok F sc_law_lots_refused (sp_orders_refused K) (fun _ => rfl) (by decide) (by decide) fun A outer s H E g p ss hr pre hs => ?_
  refine ⟨_, (ds_cons (ds_set (i := 3) sc_law_lots_refused.nd (de_len T.b_len (da_cons (dv 2) da_nil)))
      (ds_cons (ds_set (i := 4) sc_law_lots_refused.nd (de_new (dn_lst (da_cons (de_new (dn_lst da_nil)) (da_cons (de_tup da_nil) (da_cons (de_new (dn_lst (da_cons de_int (da_cons de_int da_nil)))) (da_cons (de_new (dn_lst (da_cons de_int (da_cons de_int da_nil)))) (da_cons (de_new (dn_lst (da_cons de_bl da_nil))) (da_cons (de_new (dn_lst (da_cons de_bl da_nil))) (da_cons (de_tup (da_cons de_int (da_cons (de_neg de_int) da_nil))) (da_cons de_str (da_cons de_non (da_cons de_dic1 (da_cons de_int (da_cons (de_new (dn_lst (da_cons (dv 3) da_nil))) (da_cons (de_new (dn_lst (da_cons de_int (da_cons (dv 3) da_nil)))) (da_cons (de_new (dn_lst (da_cons (de_new (dn_lst (da_cons de_int da_nil))) da_nil))) da_nil)))))))))))))))))
      (ds_cons (ds_for (passes_of rfl) (di_seq (de_new (dn_cat (dv 4) (de_new (dn_lst (da_cons (de_new (dn_lst (da_cons (de_callS h_law_take (hr.mono (by decide : 2 ≤ 7)) (dv 0) (da_cons (dv 3) da_nil)) (da_cons (de_add (dv 3) (de_callS h_law_take (hr.mono (by decide : 2 ≤ 7)) (dv 0) (da_cons de_int da_nil))) da_nil)))) da_nil)))))) (dg 5 sc_law_lots_refused.nd)
      (ds_cons (ds_setO (i := 6) sc_law_lots_refused.nd (dn_lst (da_cons (de_answerT (n := 8) (T := Tb) (Ans := AnsN K) noT_no FA mA sc_law_answer rfl (Or.inl rfl) (fun _ _ _ _ _ _ us hl => match us, hl with | [_], _ => rfl) (fun cdg => gives_law_answer T kx kt nt) TO.b rfl hTb TO.m hr (fun Xp B' A outer s H E f c' hr hE => (de_callX h_arranged (hr.mono (by decide : 4 ≤ 5)) (L2N.passes_call (L2N.takes_of rfl rfl rfl rfl) (fun _ _ _ _ h => h)) hE (da_cons (dv 2) (da_cons (dv 5) da_nil)))) (L := (LamX.lamS_by (by decide +kernel) : LamX.LamS (defScope s_law_lots_refused) _))) da_nil)))
      (ds_cons (ds_expr (de_append (dv 6) (de_answerT (n := 8) (T := Tb) (Ans := AnsN K) noT_no FA mA sc_law_answer rfl (Or.inl rfl) (fun _ _ _ _ _ _ us hl => match us, hl with | [_], _ => rfl) (fun cdg => gives_law_answer T kx kt nt) TO.b rfl hTb TO.m hr (fun Xp B' A outer s H E f c' hr hE => (de_callX h_neighbours hr (L2N.passes_call (L2N.takes_of rfl rfl rfl rfl) (fun _ _ _ _ h => h)) hE (da_cons (dv 2) (da_cons (dv 5) da_nil)))) (L := (LamX.lamS_by (by decide +kernel) : LamX.LamS (defScope s_law_lots_refused) _)))))
      (ds_cons (ds_expr (de_append (dv 6) (de_answerT (n := 8) (T := Tb) (Ans := AnsN K) noT_no FA mA sc_law_answer rfl (Or.inl rfl) (fun _ _ _ _ _ _ us hl => match us, hl with | [_], _ => rfl) (fun cdg => gives_law_answer T kx kt nt) TO.b rfl hTb TO.m hr (fun Xp B' A outer s H E f c' hr hE => (de_callX h_house_over hr (L2N.passes_call (L2N.takes_of rfl rfl rfl rfl) (fun _ _ _ _ h => h)) hE (da_cons (dv 1) (da_cons (dv 2) (da_cons (dv 5) da_nil))))) (L := (LamX.lamS_by (by decide +kernel) : LamX.LamS (defScope s_law_lots_refused) _)))))
      (ds_one (ds_for (passes_of rfl) (di_seq (dv 6)) (dg 7 sc_law_lots_refused.nd)
      (ds_one (ds_if (dt_not (dt_val (de_call h_law_refused (hr.mono (by decide : 2 ≤ 7)) (da_cons (dv 7) (da_cons de_str (da_cons de_non da_nil))))))
      (ds_one (ds_ret de_bl))
      ds_nil))))))))
      (ds_one (ds_ret de_bl))))), ?_⟩
  obtain ⟨n, T, os⟩ := g
  obtain ⟨hT, ho⟩ := pre
  have hT : TbOk n T := hT
  have ho : OrdV n os := ho
  have n1 := hT.n1
  have n8 := hT.n8
  have hlen : ((os.map D.int).length : Nat) = n := by rw [List.length_map, ho.1]
  refine ⟨(((os.map D.int).length : Nat) : Int), rfl, hs, tk (by omega), fun d s1 hd hs => ?_⟩
  obtain ⟨i, rfl, i0, i1⟩ := hd
  refine ⟨(99 : Int), rfl, hs, tk (by decide), fun d s2 hd hs => ?_⟩
  obtain ⟨j, rfl, j0, j1⟩ := hd
  refine ⟨by show 14 + 1 ≤ 16777216; decide, ?_⟩
  have h1 : ∀ w ∈ comW (n : Nat) ++ [D.lst [.int i, .int ((n : Nat) + j)]], isLotD (n : Nat) w = false ∧ RowIn w := fun w hw => by
    rcases List.mem_append.mp hw with h | h
    · exact comW_bad h
    · rw [List.mem_singleton.mp h]
      exact ⟨bad_of (ks := [i, (n : Nat) + j]) rfl fun z => by have := (z.2.2 ((n : Nat) + j) (by simp)).2; omega, rin_ints (ks := [i, (n : Nat) + j]) rfl⟩
  refine ⟨fun k ρ => ∃ (a b c : Slot), ρ = [.own p s2, .v (tabI K T), .v (dTup os), .v (.int ((os.map D.int).length : Nat)), .v (.lst (comW ((os.map D.int).length : Nat))), a, b, c] ++ tabL Tb, ⟨_, _, _, rfl⟩, fun _ _ _ _ => trivial, ?_, ?_⟩
  · rintro k w ρ hk hw ⟨a, b, c, rfl⟩
    have hm : w ∈ comW ((os.map D.int).length : Nat) ++ [D.lst [.int i, .int (((os.map D.int).length : Nat) + j)]] := List.mem_of_getElem? hw
    rw [hlen] at hm
    obtain ⟨c1, c2⟩ := h1 w hm
    have pa := arr_badl (K := K) (o := dTup os) n1 n8 ho rfl c1
    have po := ho_badl (K := K) (T := T) (o := dTup os) ho rfl c1
    have ro : RowIn (dTup os) := rin_ints (ks := os) rfl
    refine ⟨⟨rfl, rfl, rfl⟩, fun y => y = exBad K "BadLot", ⟨(dTup os, w), rfl, ⟨ro, c2⟩, fun r hr => absurd hr (pa.1 r), pa.2.2⟩, fun y hy => ⟨raisedD "BadLot", ansP "BadLot" (by decide) hy, ?_⟩⟩
    intro q
    refine ⟨⟨rfl, rfl, rfl⟩, fun y => y = exBad K "BadLot", ⟨(dTup os, w), rfl, ⟨ro, c2⟩, fun r hr => absurd hr (pa.2.1 r), pa.2.2⟩, fun y hy => ⟨raisedD "BadLot", ansP "BadLot" (by decide) hy, by decide, ?_⟩⟩
    refine ⟨⟨rfl, rfl, rfl⟩, fun y => y = exBad K "BadLot", ⟨(n, T, dTup os, w), rfl, ⟨hT, ro, c2⟩, fun r hr => absurd hr (po.1 r), po.2⟩, fun y hy => ⟨raisedD "BadLot", ansP "BadLot" (by decide) hy, by decide, ?_⟩⟩
    refine ⟨fun k ρ => ∃ c : Slot, ρ = [.own p s2, .v (tabI K T), .v (dTup os), .v (.int ((os.map D.int).length : Nat)), .v (.lst (comW ((os.map D.int).length : Nat))), .v w, .own q (List.replicate 3 (raisedD "BadLot")), c] ++ tabL Tb, ⟨_, rfl⟩, fun k ρ _ ⟨_, e⟩ => ⟨q, rfl, by rw [e]; rfl⟩, ?_, ?_⟩
    · rintro k d hk hk2 hd ⟨c, rfl⟩
      obtain rfl := List.eq_of_mem_replicate (List.mem_of_getElem? (show (List.replicate 3 (raisedD "BadLot"))[k]? = some d from hd))
      refine ⟨("BadLot", .non), rfl, ref_pre (by decide), fun r hr => ?_, fun _ h => h.elim⟩
      have hr : r = .bl true := hr
      subst hr
      exact ⟨_, rfl⟩
    · rintro ρ ⟨c, rfl⟩
      exact ⟨_, _, _, rfl⟩
  · rintro ρ ⟨a, b, c, rfl⟩
    exact ⟨rfl, ⟨_, rfl, hs⟩, rfl⟩
theorem has_law_lots_refused (T : Tx K mg) {Tb : Tbs} (hTb : TabFn Tb) (TO : TabO base mg K Tb "_law_lots_refused") {gA : Addr} {fdA : FuncData} (FA : Fd K "_law_answer" s_law_answer [] gA fdA) (mA : mg "_law_answer" = some (.ref gA)) (kx : ∀ nm ∈ cls13, KitX K nm) (kt : KitX K "TooMany") (nt : PySem.W.findIn K (.ref (He.ga K "TooMany")) "limit" = some none) (h_law_take : Has P w K mg base "_law_take" 2 ["store", "many"] (spS K sp_take)) (h_arranged : Has P w K mg base "arranged" 4 ["order", "lot"] (spF K (sp_arranged K))) (h_neighbours : Has P w K mg base "neighbours" 5 ["order", "lot"] (spF K (sp_neighbours K))) (h_house_over : Has P w K mg base "house_over" 5 ["table", "order", "lot"] (spF K (sp_house_over K))) (h_law_refused : Has P w K mg base "_law_refused" 2 ["answer", "name", "value"] (spF K sp_refused)) {fd : FuncData} (F : Fd K "_law_lots_refused" s_law_lots_refused [] (He.fAd K ("_law_lots_refused", none)) fd) (gm : mg "_law_lots_refused" = some (.ref (He.fAd K ("_law_lots_refused", none)))) : Has P w K mg base "_law_lots_refused" 8 ["store", "table", "order"] (spST K Tb (sp_orders_refused K)) := by
  exact has_of F gm (ok_law_lots_refused T  hTb TO FA mA kx kt nt h_law_take h_arranged h_neighbours h_house_over h_law_refused F) fun _ _ _ _ _ _ us hl => match us, hl with | [_, _, _], _ => rfl
end
end Q
/-! C27 -/
set_option Elab.async false
set_option linter.all false
set_option maxRecDepth 100000
set_option maxHeartbeats 8000000
namespace Q
open PySem PySem.Spec PyProof.Rows L2 N
section
variable {P : Program} {w : World} {K : PySem.W.Frag} {mg : Str → Option Value} {base : Heap}
/-! the law -/
theorem isTab_of {n : Nat} {T : Tb} (h : TbOk n T) : isTab (.lst (T.t.map lstI)) (lstI T.b) (lstI T.e) = true := by
  have hp : ∀ l : List Int, PrOk n l → isPrs (n : Nat) (lstI l) = true := fun l hl => by
    unfold isPrs
    show (decide _ && (l.map D.int).all (inB 0 9999)) = true
    rw [decide_eq_true (by rw [List.length_map, hl.1]), Bool.true_and]
    exact List.all_eq_true.mpr fun x hx => by
      obtain ⟨i, hi, rfl⟩ := List.mem_map.mp hx
      exact decide_eq_true (hl.2 i hi)
  unfold isTab
  show (decide (1 ≤ (T.t.map lstI).length ∧ (T.t.map lstI).length ≤ 8) && ((T.t.map lstI).all (isPrs ((T.t.map lstI).length : Nat)) && (isPrs ((T.t.map lstI).length : Nat) (lstI T.b) && isPrs ((T.t.map lstI).length : Nat) (lstI T.e)))) = true
  rw [List.length_map, h.len, hp _ h.b, hp _ h.e, decide_eq_true ⟨h.n1, h.n8⟩, List.all_eq_true.mpr fun x hx => by
    obtain ⟨r, hr, rfl⟩ := List.mem_map.mp hx
    exact hp r (h.row r hr)]
  rfl
theorem tabOf_of {K : PySem.W.Frag} {T : Tb} : tabOf K (.lst (T.t.map lstI)) (lstI T.b) (lstI T.e) = tabI K T := by
  unfold tabOf tabI tblD
  show D.ins _ _ [.tup ((T.t.map lstI).map tupR), tupR (lstI T.b), tupR (lstI T.e)] = _
  rw [List.map_map]
  rfl
theorem sqIn_of {T : Tb} : SqIn (.lst (T.t.map lstI)) ∧ RowIn (lstI T.b) ∧ RowIn (lstI T.e) := by
  refine ⟨⟨(rowIn_l fun x hx => ?_).1, fun rs e r hr => ?_⟩, rin_ints (ks := T.b) rfl, rin_ints (ks := T.e) rfl⟩
  · obtain ⟨r, _, rfl⟩ := List.mem_map.mp hx
    rfl
  · cases e
    obtain ⟨l, _, rfl⟩ := List.mem_map.mp hr
    exact rin_ints (ks := l) rfl
theorem ini_pre {K : PySem.W.Frag} {n : Nat} {T : Tb} (h : TbOk n T) : (sp_Table_init K).pre (.lst (T.t.map lstI), lstI T.b, lstI T.e) ∧ (∀ r, (sp_Table_init K).post (.lst (T.t.map lstI), lstI T.b, lstI T.e) r → r = tabI K T) ∧ ∀ x, ¬ (sp_Table_init K).exc (.lst (T.t.map lstI), lstI T.b, lstI T.e) x := by
  refine ⟨sqIn_of, fun r hr => ?_, fun x hx => ?_⟩
  · have hr : r = tabOf K (.lst (T.t.map lstI)) (lstI T.b) (lstI T.e) := hr.2
    rw [hr, tabOf_of]
  · have z : isTab (.lst (T.t.map lstI)) (lstI T.b) (lstI T.e) = false := hx.1
    rw [isTab_of h] at z
    cases z
theorem lots_at {n : Nat} {lot : List Int} (h : lot ∈ lotsOf (rgI (n : Nat))) : LotOk n lot := by
  obtain ⟨_, h1, h2, h3⟩ := lotsOf_mem h
  exact ⟨h1, h2, fun x hx => (ord_rg n).2.1 x (h3 x hx)⟩
theorem ord_rev {n : Nat} {os : List Int} (h : OrdV n os) : OrdV n os.reverse := ord_perm h (List.reverse_perm os)
theorem atI_mem {ds : List D} {i : Int} (h0 : 0 ≤ i) (h : i < (ds.length : Nat)) : ∃ d, atI ds i = some d ∧ d ∈ ds := by
  have hk : i.toNat < ds.length := by omega
  refine ⟨ds[i.toNat], ?_, List.getElem_mem hk⟩
  unfold atI
  rw [ixN_nat h0 h]
  exact List.getElem?_eq_getElem hk
theorem atI_m1 {ds : List D} (h : 0 < ds.length) : ∃ d, atI ds (-1) = some d ∧ d ∈ ds := by
  rcases List.eq_nil_or_concat ds with rfl | ⟨A, y, rfl⟩
  · cases h
  · rw [List.concat_eq_append]
    exact ⟨y, atI_end A y, List.mem_append_right _ (List.mem_singleton_self y)⟩
theorem size_chk9 : ∀ m : Fin 9, (lotsOf (rgI (m.val : Nat))).length = 2 ^ m.val - 1 := by decide +kernel
/-! law -/
abbrev s_law : Stmt := topS 89
abbrev n_law : List Str := ["script", "store", "many", "prices", "fresh", "table", "order", "other", "lots", "chosen", "lot", "line", "others", "beside", "k"]
theorem sc_law : FnScope n_law ["script"] (defScope s_law) := ⟨rfl, rfl, rfl, by decide +kernel, rfl, by decide +kernel, by decide +kernel⟩
theorem ok_law (T : Tx K mg) {Tb : Tbs} (h_law_store : Has P w K mg base "_law_store" 1 ["script"] (spRaw K StOk)) (h_law_many : Has P w K mg base "_law_many" 4 ["store", "top"] (spS K sp_many)) (h_law_take : Has P w K mg base "_law_take" 2 ["store", "many"] (spS K sp_take)) (h_law_free_prices : Has P w K mg base "_law_free_prices" 5 ["store", "many"] (spS K sp_free_prices)) (h_law_copied_prices : Has P w K mg base "_law_copied_prices" 1 ["prices"] (spF K sp_copied_prices)) (h_Table___init__ : HasMk P w K mg base "Table" (He.ga K "Table") 5 ["self", "turns", "begins", "ends"] (spI K (He.ga K "Table") (sp_Table_init K))) (h_law_order : Has P w K mg base "_law_order" 4 ["store", "many"] (spS K sp_law_order)) (h_law_lots : Has P w K mg base "_law_lots" 1 ["many"] (spF K sp_lots)) (h_law_pick : Has P w K mg base "_law_pick" 3 ["store", "things"] (spS K sp_pick)) (h_law_lot_arranged : Has P w K mg base "_law_lot_arranged" 6 ["store", "table", "prices", "order", "lot"] (spS K (sp_lot_arranged K))) (h_law_counts_agree : Has P w K mg base "_law_counts_agree" 5 ["store", "table", "prices", "order", "lot"] (spS K (sp_counts_agree K))) (h_law_overs_told : Has P w K mg base "_law_overs_told" 6 ["table", "prices", "order", "lots", "named"] (spF K (sp_overs_told K))) (h_law_lots_refused : Has P w K mg base "_law_lots_refused" 8 ["store", "table", "order"] (spST K Tb (sp_orders_refused K))) (h_law_orders_refused : Has P w K mg base "_law_orders_refused" 8 ["store", "table", "order"] (spST K Tb (sp_orders_refused K))) {fd : FuncData} (F : Fd K "law" s_law [] (He.fAd K ("law", none)) fd) :
    FnOk P w K mg base (L2N.CX P w) 9 (He.fAd K ("law", none)) fd ["script"] (spLaw K (Tb.map (·.1))) := by
  refine law_ok (N := n_law) (st := StOk) (T := Tb) F sc_law h_law_store (by decide) (by decide) rfl rfl (by first | exact Or.inl rfl | exact Or.inr rfl) (by first | exact Or.inl rfl | exact Or.inr rfl) rfl (fun _ _ => rfl) (by decide) (by decide) (by decide) fun A outer s H E hr => ?_
  refine ⟨_, (ds_cons (ds_set (i := 2) sc_law.nd (de_callS h_law_many (hr.mono (by decide : 4 ≤ 8)) (dv 1) (da_cons (de_add de_int (de_callS h_law_take (hr.mono (by decide : 2 ≤ 8)) (dv 1) (da_cons de_int da_nil))) da_nil)))
      (ds_cons (ds_set (i := 3) sc_law.nd (de_callS h_law_free_prices (hr.mono (by decide : 5 ≤ 8)) (dv 1) (da_cons (dv 2) da_nil)))
      (ds_cons (ds_set (i := 4) sc_law.nd (de_call h_law_copied_prices (hr.mono (by decide : 1 ≤ 8)) (da_cons (dv 3) da_nil)))
      (ds_cons (ds_set (i := 5) sc_law.nd (de_make h_Table___init__ (hr.mono (by decide : 6 ≤ 8)) (da_cons (de_ix (dv 4) de_int) (da_cons (de_ix (dv 4) de_int) (da_cons (de_ix (dv 4) de_int) da_nil)))))
      (ds_cons (ds_set (i := 6) sc_law.nd (de_callS h_law_order (hr.mono (by decide : 4 ≤ 8)) (dv 1) (da_cons (dv 2) da_nil)))
      (ds_cons (ds_set (i := 7) sc_law.nd (de_callS h_law_order (hr.mono (by decide : 4 ≤ 8)) (dv 1) (da_cons (dv 2) da_nil)))
      (ds_cons (ds_set (i := 8) sc_law.nd (de_call h_law_lots (hr.mono (by decide : 1 ≤ 8)) (da_cons (dv 2) da_nil)))
      (ds_cons (ds_set (i := 9) sc_law.nd (de_new (dn_list T.b_list (da_cons (dv 8) da_nil))))
      (ds_cons (ds_if (dt_gt (dv 2) de_int)
      (ds_one (ds_set (i := 9) sc_law.nd (de_new (dn_cat (de_new (dn_lst (da_cons (de_ix (dv 8) de_int) (da_cons (de_ix (dv 8) (de_neg de_int)) (da_cons (de_ix (dv 8) (de_sub (de_len T.b_len (da_cons (dv 8) da_nil)) de_int)) da_nil))))) (de_new (dn_lc sc_law.nd (di_range1 T.b_range (da_cons de_int da_nil)) (blkOk_by (own := [("k", 14)]) (N := n_law) (sc := defScope s_law) (by decide +kernel)) (fun _ _ _ _ _ _ _ => dts_nil) (fun _ _ _ _ _ _ _ => (de_callS h_law_pick (hr.mono (by decide : 3 ≤ 8)) (dv 1) (da_cons (dv 8) da_nil))) (fun _ _ _ _ _ => pg_name (i := 14) sc_law.nd rfl (Or.inl rfl))))))))
      ds_nil)
      (ds_cons (ds_for (passes_of rfl) (di_seq (dv 9)) (dg 10 sc_law.nd)
      (ds_cons (ds_if (dt_not (dt_val (de_callS h_law_lot_arranged (hr.mono (by decide : 6 ≤ 8)) (dv 1) (da_cons (dv 5) (da_cons (dv 3) (da_cons (dv 6) (da_cons (dv 10) da_nil)))))))
      (ds_one (ds_ret de_bl))
      ds_nil)
      (ds_cons (ds_if (dt_not (dt_val (de_callS h_law_lot_arranged (hr.mono (by decide : 6 ≤ 8)) (dv 1) (da_cons (dv 5) (da_cons (dv 3) (da_cons (de_revT (dv 6)) (da_cons (dv 10) da_nil)))))))
      (ds_one (ds_ret de_bl))
      ds_nil)
      (ds_one (ds_if (dt_not (dt_val (de_callS h_law_counts_agree (hr.mono (by decide : 5 ≤ 8)) (dv 1) (da_cons (dv 5) (da_cons (dv 3) (da_cons (dv 7) (da_cons (dv 10) da_nil)))))))
      (ds_one (ds_ret de_bl))
      ds_nil)))))
      (ds_cons (ds_for (passes_of rfl) (di_seq (de_new (dn_lst (da_cons (dv 7) (da_cons (de_revT (dv 6)) da_nil))))) (dg 11 sc_law.nd)
      (ds_one (ds_if (dt_not (dt_val (de_call h_law_overs_told (hr.mono (by decide : 6 ≤ 8)) (da_cons (dv 5) (da_cons (dv 3) (da_cons (dv 11) (da_cons (dv 8) (da_cons de_int da_nil))))))))
      (ds_one (ds_ret de_bl))
      ds_nil)))
      (ds_cons (ds_if ((dw_or (dt_not (dt_val (de_callST (n := 15) (T := Tb) noH_no h_law_orders_refused hr (dv 1) (da_cons (dv 5) (da_cons (dv 6) da_nil))))) (dw_or1 (dt_not (dt_val (de_callST (n := 15) (T := Tb) noH_no h_law_lots_refused hr (dv 1) (da_cons (dv 5) (da_cons (dv 6) da_nil)))))))).dt
      (ds_one (ds_ret de_bl))
      ds_nil)
      (ds_cons (ds_set (i := 12) sc_law.nd (de_callS h_law_free_prices (hr.mono (by decide : 5 ≤ 8)) (dv 1) (da_cons (dv 2) da_nil)))
      (ds_cons (ds_set (i := 13) sc_law.nd (de_make h_Table___init__ (hr.mono (by decide : 6 ≤ 8)) (da_cons (de_ix (dv 12) de_int) (da_cons (de_ix (dv 12) de_int) (da_cons (de_ix (dv 12) de_int) da_nil)))))
      (ds_cons (ds_if (dt_not (dt_val (de_callS h_law_lot_arranged (hr.mono (by decide : 6 ≤ 8)) (dv 1) (da_cons (dv 13) (da_cons (dv 12) (da_cons (dv 7) (da_cons (de_ix (dv 8) (de_neg de_int)) da_nil)))))))
      (ds_one (ds_ret de_bl))
      ds_nil)
      (ds_cons (ds_if (dt_not (dt_val (de_call h_law_overs_told (hr.mono (by decide : 6 ≤ 8)) (da_cons (dv 13) (da_cons (dv 12) (da_cons (dv 6) (da_cons (dv 8) (da_cons de_int da_nil))))))))
      (ds_one (ds_ret de_bl))
      ds_nil)
      (ds_one (ds_ret (de_call h_law_overs_told (hr.mono (by decide : 6 ≤ 8)) (da_cons (dv 5) (da_cons (dv 3) (da_cons (dv 6) (da_cons (dv 8) (da_cons de_int da_nil)))))))))))))))))))))))), fun p ss hs => ?_⟩
  refine ⟨(4 : Int), rfl, hs, tk (by omega), fun d s1 hd hs => ?_⟩
  obtain ⟨t, rfl, t0, t1⟩ := hd
  refine ⟨5 + t, rfl, hs, ⟨by show 3 ≤ 5 + t; omega, by show 5 + t ≤ 64; omega⟩, fun d s2 hd hs => ?_⟩
  obtain ⟨mi, rfl, i0, i1⟩ := hd
  obtain ⟨n, rfl⟩ : ∃ n : Nat, mi = (n : Nat) := ⟨mi.toNat, by omega⟩
  have n1 : 1 ≤ n := by omega
  have n8 : n ≤ 8 := by omega
  refine ⟨n, rfl, hs, ⟨n1, n8⟩, fun d s3 hd hs => ?_⟩
  obtain ⟨T, hT, rfl⟩ := hd
  have hT : TbOk n T := hT
  refine ⟨(n, T), rfl, hT, fun r hr => ?_, fun _ h => h.elim⟩
  have hr : r = pricesD T := hr
  subst hr
  obtain ⟨q1, q2, q3⟩ := ini_pre (K := K) hT
  refine ⟨.lst (T.t.map lstI), rfl, lstI T.b, rfl, lstI T.e, rfl, (.lst (T.t.map lstI), lstI T.b, lstI T.e), rfl, q1, fun r hr => ?_, fun x hx => (q3 x hx).elim⟩
  obtain rfl := q2 r hr
  refine ⟨n, rfl, hs, ⟨n1, n8⟩, fun d s4 hd hs => ?_⟩
  obtain ⟨os, ho, rfl⟩ := hd
  have ho : OrdV n os := ho
  refine ⟨n, rfl, hs, ⟨n1, n8⟩, fun d s5 hd hs => ?_⟩
  obtain ⟨ot, hot, rfl⟩ := hd
  have hot : OrdV n ot := hot
  refine ⟨n, rfl, n8, fun r hr => ?_, fun _ h => h.elim⟩
  have hr : r = .lst ((lotsOf (rgI (n : Nat))).map dTup) := hr
  subst hr
  dsimp only [kD]
  have hsz : (lotsOf (rgI (n : Nat))).length = 2 ^ n - 1 := size_chk9 ⟨n, by omega⟩
  have hp2 : 2 ^ 1 ≤ 2 ^ n := Nat.pow_le_pow_right (by decide) n1
  have hp5 : 4 < n → 2 ^ 5 ≤ 2 ^ n := fun h => Nat.pow_le_pow_right (by decide) h
  have hp8 : 2 ^ n ≤ 2 ^ 8 := Nat.pow_le_pow_right (by decide) n8
  have hmem : ∀ d ∈ (lotsOf (rgI (n : Nat))).map dTup, ∃ lot, d = dTup lot ∧ LotOk n lot := fun d hd => by
    obtain ⟨lot, h, rfl⟩ := List.mem_map.mp hd
    exact ⟨lot, rfl, lots_at h⟩
  have hLl : ((lotsOf (rgI (n : Nat))).map dTup).length = 2 ^ n - 1 := by rw [List.length_map, hsz]
  have hov : ∀ (T' : Q.Tb) (ol : List Int) (nm : Int), [W.d (tabI K T'), .d (pricesD T'), .d (dTup ol), .d (.lst ((lotsOf (rgI (n : Nat))).map dTup)), .d (.int nm)] = dats ((sp_overs_told K).args (n, T', ol, nm)) := fun _ _ _ => rfl
  generalize (lotsOf (rgI (n : Nat))).map dTup = L at hmem hLl hov ⊢
  have er : (os.map D.int).reverse = os.reverse.map D.int := List.map_reverse.symm
  have hor := ord_rev ho
  refine at_state ([.un, .own p s5, .v (.int (n : Nat)), .v (pricesD T), .v (pricesD T), .v (tabI K T), .v (dTup os), .v (dTup ot), .v (.lst L), .un, .un, .un, .un, .un, .un] ++ tabL Tb) rfl ?_
  refine sAsg (d := .lst L) (fun Q h => h) ?_
  refine joinA (fun ρ => ∃ (s : List D) (ch : List D), ρ = [.un, .own p s, .v (.int (n : Nat)), .v (pricesD T), .v (pricesD T), .v (tabI K T), .v (dTup os), .v (dTup ot), .v (.lst L), .v (.lst ch), .un, .un, .un, .un, .un] ++ tabL Tb ∧ StOk s ∧ ∀ d ∈ ch, d ∈ L) (fun R hR => ?_) ?_
  · show if decide ((4 : Int) < (n : Nat)) = true then _ else _
    refine ite2 (fun h => ?_) (fun h => hR _ ⟨s5, L, rfl, hs, fun d hd => hd⟩)
    have h := of_decide_eq_true h
    have h32 := hp5 (by omega)
    obtain ⟨da, ea, ha⟩ := atI_mem (ds := L) (i := 0) (by decide) (by omega)
    obtain ⟨db, eb, hb⟩ := atI_m1 (ds := L) (by omega)
    obtain ⟨dc, ec, hc⟩ := atI_mem (ds := L) (i := (L.length : Nat) - 2) (by omega) (by omega)
    refine ⟨da, ea, db, eb, dc, ec, ?_⟩
    refine ⟨trivial, by decide, by decide, by decide, by decide, by decide, fun k acc ρ => ∃ s : List D, ρ = [.un, .own p s, .v (.int (n : Nat)), .v (pricesD T), .v (pricesD T), .v (tabI K T), .v (dTup os), .v (dTup ot), .v (.lst L), .v (.lst L), .un, .un, .un, .un, .un] ++ tabL Tb ∧ StOk s ∧ acc.length = k ∧ ∀ d ∈ acc, d ∈ L, ⟨s5, rfl, hs, rfl, fun d hd => by simp at hd⟩, fun _ _ _ _ _ => trivial, ?_, ?_⟩
    · rintro k d acc ρ hk rfl ⟨s, rfl, hs, hl, hm⟩
      refine ⟨(false, L), rfl, hs, ⟨fun z => by have z : L = [] := z; rw [z] at hLl; simp at hLl; omega, by show L.length ≤ 16777216; omega⟩, fun d s2 hd hs => ?_⟩
      have hd : d ∈ L := hd
      refine ⟨s2, rfl, hs, by rw [List.length_append, hl]; rfl, fun x hx => ?_⟩
      rcases List.mem_append.mp hx with h | h
      · exact hm x h
      · rw [List.mem_singleton.mp h]; exact hd
    · rintro acc ρ ⟨s, rfl, hs, hl, hm⟩
      have hl : acc.length = 5 := hl
      refine ⟨by show 3 + acc.length ≤ 16777216; omega, hR _ ⟨s, _, rfl, hs, fun d hd => ?_⟩⟩
      rcases List.mem_append.mp hd with h | h
      · simp only [List.mem_cons, List.not_mem_nil, or_false] at h
        rcases h with rfl | rfl | rfl
        · exact ha
        · exact hb
        · exact hc
      · exact hm d h
  rintro ρ ⟨s, ch, rfl, hs, hch⟩
  refine ⟨fun k ρ => ∃ (s : List D) (a : Slot), ρ = [.un, .own p s, .v (.int (n : Nat)), .v (pricesD T), .v (pricesD T), .v (tabI K T), .v (dTup os), .v (dTup ot), .v (.lst L), .v (.lst ch), a, .un, .un, .un, .un] ++ tabL Tb ∧ StOk s, ⟨s, _, rfl, hs⟩, fun _ _ _ _ => trivial, ?_, ?_⟩
  · rintro k w ρ hk hw ⟨s, a, rfl, hs⟩
    obtain ⟨lot, rfl, hl⟩ := hmem w (hch w (List.mem_of_getElem? hw))
    refine ⟨(n, T, os, lot), rfl, hs, ⟨hT, ho, hl⟩, fun r s2 hr hs => ?_⟩
    have hr : r = .bl true := hr
    subst hr
    refine ⟨os.map D.int, rfl, ?_⟩
    refine ⟨(n, T, os.reverse, lot), by show [W.d (tabI K T), .d (pricesD T), .d (.tup (os.map D.int).reverse), .d (dTup lot)] = _; rw [er]; rfl, hs, ⟨hT, hor, hl⟩, fun r s3 hr hs => ?_⟩
    have hr : r = .bl true := hr
    subst hr
    refine ⟨(n, T, ot, lot), rfl, hs, ⟨hT, hot, hl⟩, fun r s4 hr hs => ?_⟩
    have hr : r = .bl true := hr
    subst hr
    exact ⟨s4, _, rfl, hs⟩
  rintro ρ ⟨s, a, rfl, hs⟩
  refine ⟨os.map D.int, rfl, ?_⟩
  refine ⟨fun k ρ => ∃ (b : Slot), ρ = [.un, .own p s, .v (.int (n : Nat)), .v (pricesD T), .v (pricesD T), .v (tabI K T), .v (dTup os), .v (dTup ot), .v (.lst L), .v (.lst ch), a, b, .un, .un, .un] ++ tabL Tb, ⟨_, rfl⟩, fun _ _ _ _ => trivial, ?_, ?_⟩
  · rintro k w ρ hk hw ⟨b, rfl⟩
    obtain ⟨ol, rfl, hol⟩ : ∃ ol, w = dTup ol ∧ OrdV n ol := by
      have hw : w ∈ [dTup ot, D.tup (os.map D.int).reverse] := List.mem_of_getElem? hw
      rw [er] at hw
      simp only [List.mem_cons, List.not_mem_nil, or_false] at hw
      rcases hw with rfl | rfl
      · exact ⟨ot, rfl, hot⟩
      · exact ⟨os.reverse, rfl, hor⟩
    refine ⟨(n, T, ol, 1), hov T ol 1, ⟨hT, hol⟩, fun r hr => ?_, fun _ h => h.elim⟩
    have hr : r = .bl true := hr
    subst hr
    exact ⟨_, rfl⟩
  rintro ρ ⟨b, rfl⟩
  refine ⟨(n, T, os), rfl, hs, ⟨hT, ho⟩, ⟨rfl, trivial⟩, fun r s6 hr hs => ?_⟩
  have hr : r = .bl true := hr
  subst hr
  refine ⟨(n, T, os), rfl, hs, ⟨hT, ho⟩, ⟨rfl, trivial⟩, fun r s7 hr hs => ?_⟩
  have hr : r = .bl true := hr
  subst hr
  refine ⟨n, rfl, hs, ⟨n1, n8⟩, fun d s8 hd hs => ?_⟩
  obtain ⟨U, hU, rfl⟩ := hd
  have hU : TbOk n U := hU
  obtain ⟨u1, u2, u3⟩ := ini_pre (K := K) hU
  refine ⟨.lst (U.t.map lstI), rfl, lstI U.b, rfl, lstI U.e, rfl, (.lst (U.t.map lstI), lstI U.b, lstI U.e), rfl, u1, fun r hr => ?_, fun x hx => (u3 x hx).elim⟩
  obtain rfl := u2 r hr
  obtain ⟨db, eb, hb⟩ := atI_m1 (ds := L) (by omega)
  obtain ⟨lot, rfl, hl⟩ := hmem db hb
  refine ⟨dTup lot, eb, (n, U, ot, lot), rfl, hs, ⟨hU, hot, hl⟩, fun r s9 hr hs => ?_⟩
  have hr : r = .bl true := hr
  subst hr
  refine ⟨(n, U, os, 0), hov U os 0, ⟨hU, ho⟩, fun r hr => ?_, fun _ h => h.elim⟩
  have hr : r = .bl true := hr
  subst hr
  exact ⟨(n, T, os, 0), hov T os 0, ⟨hT, ho⟩, fun r hr => hr, fun _ h => h.elim⟩
end
end Q
/-! E -/
set_option Elab.async false
set_option linter.all false
set_option maxRecDepth 100000
set_option maxHeartbeats 0
namespace Q
section
open PySem PySem.Spec PyProof.Rows L2 N
/-! the head -/
def exOk (K : PySem.W.Frag) (nm : Str) : Bool :=
  He.eqO (PySem.W.findIn K (.ref (He.ga K nm)) "__getattribute__") (some (some (.builtin "BaseException.__getattribute__"))) && (He.eqO (PySem.W.findIn K (.ref (He.ga K nm)) "__getattr__") (some none) &&
  (decide (PySem.W.subIn K (.ref (He.ga K nm)) (.type "BaseException") = some true) && (PySem.W.hasDictIn K (He.ga K nm) &&
  (He.eqO (PySem.W.findIn K (.ref (He.ga K nm)) "__class__") (some (some (.builtin "object.__class__"))) && (He.eqO (PySem.W.specialIn K (.builtin "object.__class__") "__get__") (some (some (.builtin "getset_descriptor.__get__"))) &&
  (decide (PySem.W.takesIn K (.builtin "object.__class__") = some true) && (decide (PySem.W.mroIn K (He.ga K nm) (.type "object") = some true) &&
  (decide (PySem.W.exmOne K (.ref (He.ga K nm)) (.ref (He.ga K "WorksError")) = some true) && (cls16.all (fun x => decide (PySem.W.kitOne K (.ref (He.ga K nm)) (.ref (He.ga K x)) = some (decide (x = nm)))) &&
  decide (PySem.W.kitOne K (.ref (He.ga K nm)) (.type "ValueError") = some true))))))))))
theorem kitX_of {K : PySem.W.Frag} {nm : Str} (h : exOk K nm = true) : KitX K nm := by
  obtain ⟨h1, h⟩ := He.ba h
  obtain ⟨h2, h⟩ := He.ba h
  obtain ⟨h3, h⟩ := He.ba h
  obtain ⟨h4, h⟩ := He.ba h
  obtain ⟨h5, h⟩ := He.ba h
  obtain ⟨h6, h⟩ := He.ba h
  obtain ⟨h7, h⟩ := He.ba h
  obtain ⟨h8, h⟩ := He.ba h
  obtain ⟨h9, h⟩ := He.ba h
  obtain ⟨h10, h11⟩ := He.ba h
  exact ⟨⟨He.eqO_ok h1, He.eqO_ok h2, of_decide_eq_true h3, h4, He.eqO_ok h5, He.eqO_ok h6, of_decide_eq_true h7, of_decide_eq_true h8⟩, of_decide_eq_true h9, fun x hx => of_decide_eq_true (List.all_eq_true.mp h10 x hx), of_decide_eq_true h11⟩
theorem noCX {P : Program} {w : World} {H : Hp} {s s' : Shared} {u : Value} (h : L2N.CX P w [] H s (fun _ _ _ => False) u s') : False := by
  obtain ⟨_, _, _, _, _, _, _, _, _, _, _, _, h⟩ := h
  exact h
abbrev dm (cx m q : Str) (st : Stmt) : He.DefD := ⟨(cx, some m), m, q, defArgs st, defBody st, defScope st, [], []⟩
def getL : List Gi := [("Table", "many", wantW "many" "Table.many" s_Table_many), ("Table", "turns", wantW "turns" "Table.turns" s_Table_turns), ("Table", "begins", wantW "begins" "Table.begins" s_Table_begins), ("Table", "ends", wantW "ends" "Table.ends" s_Table_ends)]
abbrev dd (x r : Str) (st : Stmt) (dv : List He.Dv) : He.DefD := ⟨(x, none), r, r, defArgs st, defBody st, defScope st, dv, []⟩
def fnL : List He.DefD := [dd "_law_mix" "_law_mix" s_law_mix [], dd "_law_take" "_law_take" s_law_take [], dd "_law_pick" "_law_pick" s_law_pick [], dd "_law_edge" "_law_edge" s_law_edge [], dd "_law_arrangement" "_law_arrangement" s_law_arrangement [], dd "_law_same" "_law_same" s_law_same [], dd "_law_refused" "_law_refused" s_law_refused [], dd "_law_shaped" "_law_shaped" s_law_shaped [], dd "_law_store" "_law_store" s_law_store [], dd "_law_any_shape" "_law_any_shape" s_law_any_shape [], dd "is_whole_table" "is_whole" s_is_whole_table [], dd "is_whole_rows" "is_whole" s_is_whole_rows [], dd "is_whole" "is_whole" s_is_whole [], dd "is_listed" "is_listed" s_is_listed [], dd "is_between" "is_between" s_is_between [], dd "is_kind" "is_kind" s_is_kind [], dd "is_lot" "is_lot" s_is_lot [], dd "check_lot" "check_lot" s_check_lot [], dd "check_many" "check_many" s_check_many [], dd "is_price" "is_price" s_is_price [], dd "are_prices" "are_prices" s_are_prices [], dd "check_kind" "check_kind" s_check_kind [], dd "price_of" "price_of" s_price_of [], dd "over_of" "over_of" s_over_of [], dd "is_list" "is_list" s_is_list [], dd "are_kinds" "are_kinds" s_are_kinds [], dd "checked_order" "checked_order" s_checked_order [], dd "lots_among" "lots_among" s_lots_among [], dd "all_lots" "all_lots" s_all_lots [], dd "_law_huge" "_law_huge" s_law_huge [], dd "_law_many" "_law_many" s_law_many [], dd "_law_lots" "_law_lots" s_law_lots [], dd "checked_lot" "checked_lot" s_checked_lot [], dd "checked_batch" "checked_batch" s_checked_batch [], dd "picked" "picked" s_picked [], dd "made" "made" s_made [], dd "arranged" "arranged" s_arranged [], dd "neighbours" "neighbours" s_neighbours [], dd "house_over" "house_over" s_house_over [], dd "house_overs" "house_overs" s_house_overs [], dd "house_price" "house_price" s_house_price [], dd "_law_price" "_law_price" s_law_price [], dd "_law_free_prices" "_law_free_prices" s_law_free_prices [], dd "_law_order" "_law_order" s_law_order [], dd "_law_copied_prices" "_law_copied_prices" s_law_copied_prices [], dd "_law_arranged" "_law_arranged" s_law_arranged [], dd "_law_number" "_law_number" s_law_number [], dd "_law_price_of" "_law_price_of" s_law_price_of [], dd "_law_over_of" "_law_over_of" s_law_over_of [], dd "_law_lot_arranged" "_law_lot_arranged" s_law_lot_arranged [], dd "_law_whole_batch" "_law_whole_batch" s_law_whole_batch [], dd "_law_counts_agree" "_law_counts_agree" s_law_counts_agree [], dd "_law_overs_told" "_law_overs_told" s_law_overs_told [], dd "_law_orders_refused" "_law_orders_refused" s_law_orders_refused [], dd "_law_lots_refused" "_law_lots_refused" s_law_lots_refused [], dd "_law_answer" "_law_answer" s_law_answer [], dd "law" "law" s_law [], dm "Table" "__init__" "Table.__init__" s_Table___init__]
def faL : List He.Fa := [.free "ValueError", .free "all", .free "any", .free "bool", .free "int", .free "isinstance", .free "iter", .free "len", .free "list", .free "max", .free "min", .free "property", .free "range", .free "str", .free "sum", .free "super", .free "tuple", .free "zip", .int "GREATEST_COUNT" 1000000000, .int "KINDS_MOST" 8, .int "MOST_KINDS" 8, .int "PRICE_MOST" 9999, .glo "BadBatch", .exc "BadBatch", .glo "BadKind", .exc "BadKind", .glo "BadLot", .exc "BadLot", .glo "BadNumber", .exc "BadNumber", .glo "BadOrder", .exc "BadOrder", .glo "BadTable", .exc "BadTable", .glo "Outside", .exc "Outside", .cls "Table", .noat "Table" "own_turns", .noat "Table" "own_begins", .noat "Table" "own_ends", .glo "BadFold", .glo "BadPaper", .glo "BadRing", .glo "BadRow", .glo "BadRule", .glo "BadSlot", .glo "BadText", .glo "Gains", .glo "Table", .glo "TooMany", .glo "WorksError", .glo "_law_mix", .glo "_law_take", .glo "_law_pick", .glo "_law_edge", .glo "_law_arrangement", .glo "_law_same", .glo "_law_refused", .glo "_law_shaped", .glo "_law_store", .glo "_law_any_shape", .glo "is_whole_table", .glo "is_whole_rows", .glo "is_whole", .glo "is_listed", .glo "is_between", .glo "is_kind", .glo "is_lot", .glo "check_lot", .glo "check_many", .glo "is_price", .glo "are_prices", .glo "check_kind", .glo "price_of", .glo "over_of", .glo "is_list", .glo "are_kinds", .glo "checked_order", .glo "lots_among", .glo "all_lots", .glo "_law_huge", .glo "_law_many", .glo "_law_lots", .glo "checked_lot", .glo "checked_batch", .glo "picked", .glo "made", .glo "arranged", .glo "neighbours", .glo "house_over", .glo "house_overs", .glo "house_price", .glo "_law_price", .glo "_law_free_prices", .glo "_law_order", .glo "_law_copied_prices", .glo "_law_arranged", .glo "_law_number", .glo "_law_price_of", .glo "_law_over_of", .glo "_law_lot_arranged", .glo "_law_whole_batch", .glo "_law_counts_agree", .glo "_law_overs_told", .glo "_law_orders_refused", .glo "_law_lots_refused", .glo "_law_answer", .glo "law", .mkr "Table"]
def tfL : List (Str × Option Str) := [("_law_orders_refused", none), ("_law_lots_refused", none)]
def TbK (K : PySem.W.Frag) : Tbs := tfL.map fun t => ((He.cT K t).2, lamQ t.1)
def tabDis (K : PySem.W.Frag) : Bool := (TbK K).all fun p => (TbK K).all fun p' => !decide (p.1 = p'.1) || decide (p.2 = p'.2)
theorem tabDis_ok {K : PySem.W.Frag} (h : tabDis K = true) : TabFn (TbK K) := fun p hp p' hp' e => by
  have h1 := List.all_eq_true.mp (List.all_eq_true.mp h p hp) p' hp'
  rw [decide_eq_true e] at h1
  exact of_decide_eq_true (by simpa using h1)
abbrev fileS : PySem.Str := PySem.Challenge.pw_staysandturns_k09_house_overs_of_lots.main.file
abbrev sTM : Stmt := initS (topS 17)
def iniL : List (PySem.Str × FnI) := [("TooMany", iniV sTM)]
theorem ini_TooMany {P : Program} {w : World} {K : PySem.W.Frag} {mg : PySem.Str → Option Value} {base : Heap} (c : ClsF K (He.ga K "TooMany") (He.ma K (He.ga K "TooMany") "__init__") "limit" fileS) (e : iniAt K "TooMany" = iniV sTM) (hfile : (P.main.file == fileS) = true) (htop : (P.main.scope.names.lookup ("super" : PySem.Str)).isSome = false) (hmg : mg "super" = none) : IniOk P w K mg base (He.ga K "TooMany") (He.ma K (He.ga K "TooMany") "__init__") "limit" :=
  iniOk_of (params := defArgs sTM) (scope := defScope sTM) c e hfile htop hmg
def exL (K : PySem.W.Frag) : Bool := tabDis K && (cls13.all (exOk K) && (exOk K "TooMany" && (clsF K (He.ga K "TooMany") (He.ma K (He.ga K "TooMany") "__init__") "limit" fileS && (propB K (He.ga K "Table") "many" && (getB K (getAd K (He.ga K "Table") "many") "Table.many" && (propB K (He.ga K "Table") "turns" && (getB K (getAd K (He.ga K "Table") "turns") "Table.turns" && (propB K (He.ga K "Table") "begins" && (getB K (getAd K (He.ga K "Table") "begins") "Table.begins" && (propB K (He.ga K "Table") "ends" && (getB K (getAd K (He.ga K "Table") "ends") "Table.ends" && true)))))))))))
abbrev R : PySem.W.OpenRow := PySem.W.OpenLaw.row PySem.Challenge.rw_staysandturns_k09_house_overs_of_lots
def asL : List Addr := [3, 6, 4, 21, 31, 44, 56, 68, 80, 92, 104, 116, 128, 140, 152, 164, 176, 188, 209, 230, 251, 489, 260, 267, 274, 281, 288, 293, 300, 307, 314, 319, 324, 329, 459, 470, 475, 482, 496, 503, 510, 517, 524, 531, 538, 543, 548, 555, 560, 567, 574, 579, 586, 593, 600, 607, 614, 621, 626, 633, 640, 645, 652, 657, 664, 669, 676, 683, 688, 693, 700, 707, 712, 719, 724, 729, 734, 739, 744, 751, 756, 0, 20, 30, 43, 55, 67, 79, 91, 103, 115, 127, 139, 151, 163, 175, 187, 208, 229, 250, 488, 259, 266, 273, 280, 287, 292, 299, 306, 313, 318, 323, 328, 458, 469, 474, 481, 495, 502, 509, 516, 523, 530, 537, 542, 547, 554, 559, 566, 573, 578, 585, 592, 599, 606, 613, 620, 625, 632, 639, 644, 651, 656, 663, 668, 675, 682, 687, 692, 699, 706, 711, 718, 723, 728, 733, 738, 743, 750, 755, 15, 16, 17, 18, 19, 29, 32, 42, 54, 66, 78, 90, 102, 114, 126, 138, 150, 162, 174, 186, 206, 207, 227, 228, 248, 249, 483, 484, 485, 486, 487, 254, 255, 256, 257, 258, 261, 262, 263, 264, 265, 268, 269, 270, 271, 272, 275, 276, 277, 278, 279, 282, 283, 284, 285, 286, 289, 290, 291, 294, 295, 296, 297, 298, 301, 302, 303, 304, 305, 308, 309, 310, 311, 312, 315, 316, 317, 320, 321, 322, 325, 326, 327, 341, 349, 357, 365, 373, 380, 387, 394, 401, 406, 413, 420, 427, 432, 439, 444, 449, 456, 457, 460, 461, 464, 465, 466, 467, 468, 471, 472, 473, 476, 477, 478, 479, 480, 490, 491, 492, 493, 494, 497, 498, 499, 500, 501, 504, 505, 506, 507, 508, 511, 512, 513, 514, 515, 518, 519, 520, 521, 522, 525, 526, 527, 528, 529, 532, 533, 534, 535, 536, 539, 540, 541, 544, 545, 546, 549, 550, 551, 552, 553, 556, 557, 558, 561, 562, 563, 564, 565, 568, 569, 570, 571, 572, 575, 576, 577, 580, 581, 582, 583, 584, 587, 588, 589, 590, 591, 594, 595, 596, 597, 598, 601, 602, 603, 604, 605, 608, 609, 610, 611, 612, 615, 616, 617, 618, 619, 622, 623, 624, 627, 628, 629, 630, 631, 634, 635, 636, 637, 638, 641, 642, 643, 646, 647, 648, 649, 650, 653, 654, 655, 658, 659, 660, 661, 662, 665, 666, 667, 670, 671, 672, 673, 674, 677, 678, 679, 680, 681, 684, 685, 686, 689, 690, 691, 694, 695, 696, 697, 698, 701, 702, 703, 704, 705, 708, 709, 710, 713, 714, 715, 716, 717, 720, 721, 722, 725, 726, 727, 730, 731, 732, 735, 736, 737, 740, 741, 742, 745, 746, 747, 748, 749, 752, 753, 754, 205, 194, 226, 215, 247, 236, 340, 348, 356, 364, 372, 379, 386, 393, 400, 405, 412, 419, 426, 431, 438, 443, 448, 455, 200, 201, 202, 203, 204, 221, 222, 223, 224, 225, 242, 243, 244, 245, 246, 337, 338, 339, 347, 355, 363, 371, 374, 375, 376, 377, 378, 381, 382, 383, 384, 385, 388, 389, 390, 391, 392, 395, 396, 397, 398, 399, 402, 403, 404, 407, 408, 409, 410, 411, 414, 415, 416, 417, 418, 421, 422, 423, 424, 425, 428, 429, 430, 433, 434, 435, 436, 437, 440, 441, 442, 445, 446, 447, 450, 451, 452, 453, 454, 2]
abbrev hk : PySem.W.Hook := N.hookM asL faL fnL tfL exL iniL getL
def ob (s : PySem.W.SharedT) : (He.AlX × List FnI) × List He.FnW := N.obsM asL faL fnL tfL exL iniL getL (HandSHeadRun.getT s)
theorem ob_eq (s : PySem.W.SharedT) : ob s = hk.obs s.abs := N.obsM_eq (HandSHeadRun.getT_eq s)
def names0 : List PySem.Str := ["_wall", "WorksError", "BadNumber", "BadTable", "BadKind", "BadLot", "BadOrder", "BadBatch", "BadRow", "BadFold", "BadRing", "BadSlot", "BadPaper", "BadRule", "Outside", "BadText", "TooMany", "Gains", "KINDS_MOST", "PRICE_MOST", "is_whole", "is_whole_table", "is_listed", "is_between", "is_price", "is_kind", "are_prices", "is_lot", "check_kind", "check_lot"]
def names1 : List PySem.Str := ["check_within", "sums_of", "products_of", "Table", "check_many", "lots_among", "all_lots", "MOST_KINDS", "GREATEST_COUNT", "is_whole_rows", "is_list", "are_kinds", "checked_batch", "price_of", "over_of", "checked_order", "checked_lot", "picked", "made", "arranged", "neighbours", "house_price", "house_over", "house_overs", "_law_store", "_law_mix", "_law_take", "_law_pick", "_law_edge", "_law_huge"]
def names2 : List PySem.Str := ["_law_shaped", "_law_any_shape", "_law_many", "_law_lots", "_law_arrangement", "_law_order", "_law_price", "_law_copied_prices", "_law_whole_batch", "_law_price_of", "_law_over_of", "_law_arranged", "_law_same", "_law_number", "_law_answer", "_law_refused", "_law_free_prices", "_law_lot_arranged", "_law_counts_agree", "_law_overs_told", "_law_orders_refused", "_law_lots_refused"]
def names : List PySem.Str := names0 ++ names1 ++ names2
theorem run (w : World) : HandSHeadRun.RunEq R (PySem.W.view R.prog [89]) hk ob 12000 names w := by
  intro os
  kernel_rfl
theorem facts {P : Program} {w : World} {K : PySem.W.Frag} {h : Heap} {mg : Str → Option Value} {fa : Addr} (X : K.In h) (G : h.Ns mainGlobals mg) (hfa : mg ("law" : Str) = some (.ref fa)) (c : N.SaysZ faL fnL tfL exL iniL getL w h K) (hP1 : (P.main.file == fileS) = true) (hP2 : (P.main.scope.names.lookup ("super" : PySem.Str)).isSome = false) :
    ∃ fd : FuncData, (∀ (s : Shared) (v : Value), BindsTo s fd ⟨[v], []⟩ [("script", v)]) ∧ ∀ base : Heap, (∀ t ∈ tfL, LamX.TabB base mg (He.cT K t).1 (He.cT K t).2) → FnOk P w K mg base (L2N.CX P w) 9 fa fd ["script"] (spLaw K ((TbK K).map (·.1))) := by
  have cd := c.y.x.t.d
  obtain ⟨m1, m2⟩ := He.ba c.y.x.more
  obtain ⟨m2, m3⟩ := He.ba m2
  obtain ⟨m3, m4⟩ := He.ba m3
  have kt : KitX K "TooMany" := kitX_of m3
  obtain ⟨m4, mR⟩ := He.ba m4
  obtain ⟨mC0, mR⟩ := He.ba mR
  obtain ⟨mC1, mR⟩ := He.ba mR
  obtain ⟨mC2, mR⟩ := He.ba mR
  obtain ⟨mC3, mR⟩ := He.ba mR
  obtain ⟨mC4, mR⟩ := He.ba mR
  obtain ⟨mC5, mR⟩ := He.ba mR
  obtain ⟨mC6, mR⟩ := He.ba mR
  obtain ⟨mC7, mR⟩ := He.ba mR
  have cF_TooMany := clsF_ok m4
  have nt := cF_TooMany.no
  have hTb : TabFn (TbK K) := tabDis_ok m1
  have kx : ∀ nm ∈ cls13, KitX K nm := fun nm hn => kitX_of (List.all_eq_true.mp m2 nm hn)
  obtain ⟨fd0, F0⟩ := cd.def_ 0 (d := dd "_law_mix" "_law_mix" s_law_mix []) rfl
  have F0 : Fd K "_law_mix" s_law_mix [] (He.fAd K ("_law_mix", none)) fd0 := F0
  have g0 : mg "_law_mix" = some (.ref (He.fAd K ("_law_mix", none))) := He.glo_ok X G (cd.fact 51 (f := .glo "_law_mix") rfl)
  obtain ⟨fd1, F1⟩ := cd.def_ 1 (d := dd "_law_take" "_law_take" s_law_take []) rfl
  have F1 : Fd K "_law_take" s_law_take [] (He.fAd K ("_law_take", none)) fd1 := F1
  have g1 : mg "_law_take" = some (.ref (He.fAd K ("_law_take", none))) := He.glo_ok X G (cd.fact 52 (f := .glo "_law_take") rfl)
  obtain ⟨fd2, F2⟩ := cd.def_ 2 (d := dd "_law_pick" "_law_pick" s_law_pick []) rfl
  have F2 : Fd K "_law_pick" s_law_pick [] (He.fAd K ("_law_pick", none)) fd2 := F2
  have g2 : mg "_law_pick" = some (.ref (He.fAd K ("_law_pick", none))) := He.glo_ok X G (cd.fact 53 (f := .glo "_law_pick") rfl)
  obtain ⟨fd3, F3⟩ := cd.def_ 3 (d := dd "_law_edge" "_law_edge" s_law_edge []) rfl
  have F3 : Fd K "_law_edge" s_law_edge [] (He.fAd K ("_law_edge", none)) fd3 := F3
  have g3 : mg "_law_edge" = some (.ref (He.fAd K ("_law_edge", none))) := He.glo_ok X G (cd.fact 54 (f := .glo "_law_edge") rfl)
  obtain ⟨fd4, F4⟩ := cd.def_ 4 (d := dd "_law_arrangement" "_law_arrangement" s_law_arrangement []) rfl
  have F4 : Fd K "_law_arrangement" s_law_arrangement [] (He.fAd K ("_law_arrangement", none)) fd4 := F4
  have g4 : mg "_law_arrangement" = some (.ref (He.fAd K ("_law_arrangement", none))) := He.glo_ok X G (cd.fact 55 (f := .glo "_law_arrangement") rfl)
  obtain ⟨fd5, F5⟩ := cd.def_ 5 (d := dd "_law_same" "_law_same" s_law_same []) rfl
  have F5 : Fd K "_law_same" s_law_same [] (He.fAd K ("_law_same", none)) fd5 := F5
  have g5 : mg "_law_same" = some (.ref (He.fAd K ("_law_same", none))) := He.glo_ok X G (cd.fact 56 (f := .glo "_law_same") rfl)
  obtain ⟨fd6, F6⟩ := cd.def_ 6 (d := dd "_law_refused" "_law_refused" s_law_refused []) rfl
  have F6 : Fd K "_law_refused" s_law_refused [] (He.fAd K ("_law_refused", none)) fd6 := F6
  have g6 : mg "_law_refused" = some (.ref (He.fAd K ("_law_refused", none))) := He.glo_ok X G (cd.fact 57 (f := .glo "_law_refused") rfl)
  obtain ⟨fd7, F7⟩ := cd.def_ 7 (d := dd "_law_shaped" "_law_shaped" s_law_shaped []) rfl
  have F7 : Fd K "_law_shaped" s_law_shaped [] (He.fAd K ("_law_shaped", none)) fd7 := F7
  have g7 : mg "_law_shaped" = some (.ref (He.fAd K ("_law_shaped", none))) := He.glo_ok X G (cd.fact 58 (f := .glo "_law_shaped") rfl)
  obtain ⟨fd8, F8⟩ := cd.def_ 8 (d := dd "_law_store" "_law_store" s_law_store []) rfl
  have F8 : Fd K "_law_store" s_law_store [] (He.fAd K ("_law_store", none)) fd8 := F8
  have g8 : mg "_law_store" = some (.ref (He.fAd K ("_law_store", none))) := He.glo_ok X G (cd.fact 59 (f := .glo "_law_store") rfl)
  obtain ⟨fd9, F9⟩ := cd.def_ 9 (d := dd "_law_any_shape" "_law_any_shape" s_law_any_shape []) rfl
  have F9 : Fd K "_law_any_shape" s_law_any_shape [] (He.fAd K ("_law_any_shape", none)) fd9 := F9
  have g9 : mg "_law_any_shape" = some (.ref (He.fAd K ("_law_any_shape", none))) := He.glo_ok X G (cd.fact 60 (f := .glo "_law_any_shape") rfl)
  obtain ⟨fd10, F10⟩ := cd.def_ 10 (d := dd "is_whole_table" "is_whole" s_is_whole_table []) rfl
  have F10 : Fd K "is_whole" s_is_whole_table [] (He.fAd K ("is_whole_table", none)) fd10 := F10
  have g10 : mg "is_whole_table" = some (.ref (He.fAd K ("is_whole_table", none))) := He.glo_ok X G (cd.fact 61 (f := .glo "is_whole_table") rfl)
  obtain ⟨fd11, F11⟩ := cd.def_ 11 (d := dd "is_whole_rows" "is_whole" s_is_whole_rows []) rfl
  have F11 : Fd K "is_whole" s_is_whole_rows [] (He.fAd K ("is_whole_rows", none)) fd11 := F11
  have g11 : mg "is_whole_rows" = some (.ref (He.fAd K ("is_whole_rows", none))) := He.glo_ok X G (cd.fact 62 (f := .glo "is_whole_rows") rfl)
  obtain ⟨fd12, F12⟩ := cd.def_ 12 (d := dd "is_whole" "is_whole" s_is_whole []) rfl
  have F12 : Fd K "is_whole" s_is_whole [] (He.fAd K ("is_whole", none)) fd12 := F12
  have g12 : mg "is_whole" = some (.ref (He.fAd K ("is_whole", none))) := He.glo_ok X G (cd.fact 63 (f := .glo "is_whole") rfl)
  obtain ⟨fd13, F13⟩ := cd.def_ 13 (d := dd "is_listed" "is_listed" s_is_listed []) rfl
  have F13 : Fd K "is_listed" s_is_listed [] (He.fAd K ("is_listed", none)) fd13 := F13
  have g13 : mg "is_listed" = some (.ref (He.fAd K ("is_listed", none))) := He.glo_ok X G (cd.fact 64 (f := .glo "is_listed") rfl)
  obtain ⟨fd14, F14⟩ := cd.def_ 14 (d := dd "is_between" "is_between" s_is_between []) rfl
  have F14 : Fd K "is_between" s_is_between [] (He.fAd K ("is_between", none)) fd14 := F14
  have g14 : mg "is_between" = some (.ref (He.fAd K ("is_between", none))) := He.glo_ok X G (cd.fact 65 (f := .glo "is_between") rfl)
  obtain ⟨fd15, F15⟩ := cd.def_ 15 (d := dd "is_kind" "is_kind" s_is_kind []) rfl
  have F15 : Fd K "is_kind" s_is_kind [] (He.fAd K ("is_kind", none)) fd15 := F15
  have g15 : mg "is_kind" = some (.ref (He.fAd K ("is_kind", none))) := He.glo_ok X G (cd.fact 66 (f := .glo "is_kind") rfl)
  obtain ⟨fd16, F16⟩ := cd.def_ 16 (d := dd "is_lot" "is_lot" s_is_lot []) rfl
  have F16 : Fd K "is_lot" s_is_lot [] (He.fAd K ("is_lot", none)) fd16 := F16
  have g16 : mg "is_lot" = some (.ref (He.fAd K ("is_lot", none))) := He.glo_ok X G (cd.fact 67 (f := .glo "is_lot") rfl)
  obtain ⟨fd17, F17⟩ := cd.def_ 17 (d := dd "check_lot" "check_lot" s_check_lot []) rfl
  have F17 : Fd K "check_lot" s_check_lot [] (He.fAd K ("check_lot", none)) fd17 := F17
  have g17 : mg "check_lot" = some (.ref (He.fAd K ("check_lot", none))) := He.glo_ok X G (cd.fact 68 (f := .glo "check_lot") rfl)
  obtain ⟨fd18, F18⟩ := cd.def_ 18 (d := dd "check_many" "check_many" s_check_many []) rfl
  have F18 : Fd K "check_many" s_check_many [] (He.fAd K ("check_many", none)) fd18 := F18
  have g18 : mg "check_many" = some (.ref (He.fAd K ("check_many", none))) := He.glo_ok X G (cd.fact 69 (f := .glo "check_many") rfl)
  obtain ⟨fd19, F19⟩ := cd.def_ 19 (d := dd "is_price" "is_price" s_is_price []) rfl
  have F19 : Fd K "is_price" s_is_price [] (He.fAd K ("is_price", none)) fd19 := F19
  have g19 : mg "is_price" = some (.ref (He.fAd K ("is_price", none))) := He.glo_ok X G (cd.fact 70 (f := .glo "is_price") rfl)
  obtain ⟨fd20, F20⟩ := cd.def_ 20 (d := dd "are_prices" "are_prices" s_are_prices []) rfl
  have F20 : Fd K "are_prices" s_are_prices [] (He.fAd K ("are_prices", none)) fd20 := F20
  have g20 : mg "are_prices" = some (.ref (He.fAd K ("are_prices", none))) := He.glo_ok X G (cd.fact 71 (f := .glo "are_prices") rfl)
  obtain ⟨fd21, F21⟩ := cd.def_ 21 (d := dd "check_kind" "check_kind" s_check_kind []) rfl
  have F21 : Fd K "check_kind" s_check_kind [] (He.fAd K ("check_kind", none)) fd21 := F21
  have g21 : mg "check_kind" = some (.ref (He.fAd K ("check_kind", none))) := He.glo_ok X G (cd.fact 72 (f := .glo "check_kind") rfl)
  obtain ⟨fd22, F22⟩ := cd.def_ 22 (d := dd "price_of" "price_of" s_price_of []) rfl
  have F22 : Fd K "price_of" s_price_of [] (He.fAd K ("price_of", none)) fd22 := F22
  have g22 : mg "price_of" = some (.ref (He.fAd K ("price_of", none))) := He.glo_ok X G (cd.fact 73 (f := .glo "price_of") rfl)
  obtain ⟨fd23, F23⟩ := cd.def_ 23 (d := dd "over_of" "over_of" s_over_of []) rfl
  have F23 : Fd K "over_of" s_over_of [] (He.fAd K ("over_of", none)) fd23 := F23
  have g23 : mg "over_of" = some (.ref (He.fAd K ("over_of", none))) := He.glo_ok X G (cd.fact 74 (f := .glo "over_of") rfl)
  obtain ⟨fd24, F24⟩ := cd.def_ 24 (d := dd "is_list" "is_list" s_is_list []) rfl
  have F24 : Fd K "is_list" s_is_list [] (He.fAd K ("is_list", none)) fd24 := F24
  have g24 : mg "is_list" = some (.ref (He.fAd K ("is_list", none))) := He.glo_ok X G (cd.fact 75 (f := .glo "is_list") rfl)
  obtain ⟨fd25, F25⟩ := cd.def_ 25 (d := dd "are_kinds" "are_kinds" s_are_kinds []) rfl
  have F25 : Fd K "are_kinds" s_are_kinds [] (He.fAd K ("are_kinds", none)) fd25 := F25
  have g25 : mg "are_kinds" = some (.ref (He.fAd K ("are_kinds", none))) := He.glo_ok X G (cd.fact 76 (f := .glo "are_kinds") rfl)
  obtain ⟨fd26, F26⟩ := cd.def_ 26 (d := dd "checked_order" "checked_order" s_checked_order []) rfl
  have F26 : Fd K "checked_order" s_checked_order [] (He.fAd K ("checked_order", none)) fd26 := F26
  have g26 : mg "checked_order" = some (.ref (He.fAd K ("checked_order", none))) := He.glo_ok X G (cd.fact 77 (f := .glo "checked_order") rfl)
  obtain ⟨fd27, F27⟩ := cd.def_ 27 (d := dd "lots_among" "lots_among" s_lots_among []) rfl
  have F27 : Fd K "lots_among" s_lots_among [] (He.fAd K ("lots_among", none)) fd27 := F27
  have g27 : mg "lots_among" = some (.ref (He.fAd K ("lots_among", none))) := He.glo_ok X G (cd.fact 78 (f := .glo "lots_among") rfl)
  obtain ⟨fd28, F28⟩ := cd.def_ 28 (d := dd "all_lots" "all_lots" s_all_lots []) rfl
  have F28 : Fd K "all_lots" s_all_lots [] (He.fAd K ("all_lots", none)) fd28 := F28
  have g28 : mg "all_lots" = some (.ref (He.fAd K ("all_lots", none))) := He.glo_ok X G (cd.fact 79 (f := .glo "all_lots") rfl)
  obtain ⟨fd29, F29⟩ := cd.def_ 29 (d := dd "_law_huge" "_law_huge" s_law_huge []) rfl
  have F29 : Fd K "_law_huge" s_law_huge [] (He.fAd K ("_law_huge", none)) fd29 := F29
  have g29 : mg "_law_huge" = some (.ref (He.fAd K ("_law_huge", none))) := He.glo_ok X G (cd.fact 80 (f := .glo "_law_huge") rfl)
  obtain ⟨fd30, F30⟩ := cd.def_ 30 (d := dd "_law_many" "_law_many" s_law_many []) rfl
  have F30 : Fd K "_law_many" s_law_many [] (He.fAd K ("_law_many", none)) fd30 := F30
  have g30 : mg "_law_many" = some (.ref (He.fAd K ("_law_many", none))) := He.glo_ok X G (cd.fact 81 (f := .glo "_law_many") rfl)
  obtain ⟨fd31, F31⟩ := cd.def_ 31 (d := dd "_law_lots" "_law_lots" s_law_lots []) rfl
  have F31 : Fd K "_law_lots" s_law_lots [] (He.fAd K ("_law_lots", none)) fd31 := F31
  have g31 : mg "_law_lots" = some (.ref (He.fAd K ("_law_lots", none))) := He.glo_ok X G (cd.fact 82 (f := .glo "_law_lots") rfl)
  obtain ⟨fd32, F32⟩ := cd.def_ 32 (d := dd "checked_lot" "checked_lot" s_checked_lot []) rfl
  have F32 : Fd K "checked_lot" s_checked_lot [] (He.fAd K ("checked_lot", none)) fd32 := F32
  have g32 : mg "checked_lot" = some (.ref (He.fAd K ("checked_lot", none))) := He.glo_ok X G (cd.fact 83 (f := .glo "checked_lot") rfl)
  obtain ⟨fd33, F33⟩ := cd.def_ 33 (d := dd "checked_batch" "checked_batch" s_checked_batch []) rfl
  have F33 : Fd K "checked_batch" s_checked_batch [] (He.fAd K ("checked_batch", none)) fd33 := F33
  have g33 : mg "checked_batch" = some (.ref (He.fAd K ("checked_batch", none))) := He.glo_ok X G (cd.fact 84 (f := .glo "checked_batch") rfl)
  obtain ⟨fd34, F34⟩ := cd.def_ 34 (d := dd "picked" "picked" s_picked []) rfl
  have F34 : Fd K "picked" s_picked [] (He.fAd K ("picked", none)) fd34 := F34
  have g34 : mg "picked" = some (.ref (He.fAd K ("picked", none))) := He.glo_ok X G (cd.fact 85 (f := .glo "picked") rfl)
  obtain ⟨fd35, F35⟩ := cd.def_ 35 (d := dd "made" "made" s_made []) rfl
  have F35 : Fd K "made" s_made [] (He.fAd K ("made", none)) fd35 := F35
  have g35 : mg "made" = some (.ref (He.fAd K ("made", none))) := He.glo_ok X G (cd.fact 86 (f := .glo "made") rfl)
  obtain ⟨fd36, F36⟩ := cd.def_ 36 (d := dd "arranged" "arranged" s_arranged []) rfl
  have F36 : Fd K "arranged" s_arranged [] (He.fAd K ("arranged", none)) fd36 := F36
  have g36 : mg "arranged" = some (.ref (He.fAd K ("arranged", none))) := He.glo_ok X G (cd.fact 87 (f := .glo "arranged") rfl)
  obtain ⟨fd37, F37⟩ := cd.def_ 37 (d := dd "neighbours" "neighbours" s_neighbours []) rfl
  have F37 : Fd K "neighbours" s_neighbours [] (He.fAd K ("neighbours", none)) fd37 := F37
  have g37 : mg "neighbours" = some (.ref (He.fAd K ("neighbours", none))) := He.glo_ok X G (cd.fact 88 (f := .glo "neighbours") rfl)
  obtain ⟨fd38, F38⟩ := cd.def_ 38 (d := dd "house_over" "house_over" s_house_over []) rfl
  have F38 : Fd K "house_over" s_house_over [] (He.fAd K ("house_over", none)) fd38 := F38
  have g38 : mg "house_over" = some (.ref (He.fAd K ("house_over", none))) := He.glo_ok X G (cd.fact 89 (f := .glo "house_over") rfl)
  obtain ⟨fd39, F39⟩ := cd.def_ 39 (d := dd "house_overs" "house_overs" s_house_overs []) rfl
  have F39 : Fd K "house_overs" s_house_overs [] (He.fAd K ("house_overs", none)) fd39 := F39
  have g39 : mg "house_overs" = some (.ref (He.fAd K ("house_overs", none))) := He.glo_ok X G (cd.fact 90 (f := .glo "house_overs") rfl)
  obtain ⟨fd40, F40⟩ := cd.def_ 40 (d := dd "house_price" "house_price" s_house_price []) rfl
  have F40 : Fd K "house_price" s_house_price [] (He.fAd K ("house_price", none)) fd40 := F40
  have g40 : mg "house_price" = some (.ref (He.fAd K ("house_price", none))) := He.glo_ok X G (cd.fact 91 (f := .glo "house_price") rfl)
  obtain ⟨fd41, F41⟩ := cd.def_ 41 (d := dd "_law_price" "_law_price" s_law_price []) rfl
  have F41 : Fd K "_law_price" s_law_price [] (He.fAd K ("_law_price", none)) fd41 := F41
  have g41 : mg "_law_price" = some (.ref (He.fAd K ("_law_price", none))) := He.glo_ok X G (cd.fact 92 (f := .glo "_law_price") rfl)
  obtain ⟨fd42, F42⟩ := cd.def_ 42 (d := dd "_law_free_prices" "_law_free_prices" s_law_free_prices []) rfl
  have F42 : Fd K "_law_free_prices" s_law_free_prices [] (He.fAd K ("_law_free_prices", none)) fd42 := F42
  have g42 : mg "_law_free_prices" = some (.ref (He.fAd K ("_law_free_prices", none))) := He.glo_ok X G (cd.fact 93 (f := .glo "_law_free_prices") rfl)
  obtain ⟨fd43, F43⟩ := cd.def_ 43 (d := dd "_law_order" "_law_order" s_law_order []) rfl
  have F43 : Fd K "_law_order" s_law_order [] (He.fAd K ("_law_order", none)) fd43 := F43
  have g43 : mg "_law_order" = some (.ref (He.fAd K ("_law_order", none))) := He.glo_ok X G (cd.fact 94 (f := .glo "_law_order") rfl)
  obtain ⟨fd44, F44⟩ := cd.def_ 44 (d := dd "_law_copied_prices" "_law_copied_prices" s_law_copied_prices []) rfl
  have F44 : Fd K "_law_copied_prices" s_law_copied_prices [] (He.fAd K ("_law_copied_prices", none)) fd44 := F44
  have g44 : mg "_law_copied_prices" = some (.ref (He.fAd K ("_law_copied_prices", none))) := He.glo_ok X G (cd.fact 95 (f := .glo "_law_copied_prices") rfl)
  obtain ⟨fd45, F45⟩ := cd.def_ 45 (d := dd "_law_arranged" "_law_arranged" s_law_arranged []) rfl
  have F45 : Fd K "_law_arranged" s_law_arranged [] (He.fAd K ("_law_arranged", none)) fd45 := F45
  have g45 : mg "_law_arranged" = some (.ref (He.fAd K ("_law_arranged", none))) := He.glo_ok X G (cd.fact 96 (f := .glo "_law_arranged") rfl)
  obtain ⟨fd46, F46⟩ := cd.def_ 46 (d := dd "_law_number" "_law_number" s_law_number []) rfl
  have F46 : Fd K "_law_number" s_law_number [] (He.fAd K ("_law_number", none)) fd46 := F46
  have g46 : mg "_law_number" = some (.ref (He.fAd K ("_law_number", none))) := He.glo_ok X G (cd.fact 97 (f := .glo "_law_number") rfl)
  obtain ⟨fd47, F47⟩ := cd.def_ 47 (d := dd "_law_price_of" "_law_price_of" s_law_price_of []) rfl
  have F47 : Fd K "_law_price_of" s_law_price_of [] (He.fAd K ("_law_price_of", none)) fd47 := F47
  have g47 : mg "_law_price_of" = some (.ref (He.fAd K ("_law_price_of", none))) := He.glo_ok X G (cd.fact 98 (f := .glo "_law_price_of") rfl)
  obtain ⟨fd48, F48⟩ := cd.def_ 48 (d := dd "_law_over_of" "_law_over_of" s_law_over_of []) rfl
  have F48 : Fd K "_law_over_of" s_law_over_of [] (He.fAd K ("_law_over_of", none)) fd48 := F48
  have g48 : mg "_law_over_of" = some (.ref (He.fAd K ("_law_over_of", none))) := He.glo_ok X G (cd.fact 99 (f := .glo "_law_over_of") rfl)
  obtain ⟨fd49, F49⟩ := cd.def_ 49 (d := dd "_law_lot_arranged" "_law_lot_arranged" s_law_lot_arranged []) rfl
  have F49 : Fd K "_law_lot_arranged" s_law_lot_arranged [] (He.fAd K ("_law_lot_arranged", none)) fd49 := F49
  have g49 : mg "_law_lot_arranged" = some (.ref (He.fAd K ("_law_lot_arranged", none))) := He.glo_ok X G (cd.fact 100 (f := .glo "_law_lot_arranged") rfl)
  obtain ⟨fd50, F50⟩ := cd.def_ 50 (d := dd "_law_whole_batch" "_law_whole_batch" s_law_whole_batch []) rfl
  have F50 : Fd K "_law_whole_batch" s_law_whole_batch [] (He.fAd K ("_law_whole_batch", none)) fd50 := F50
  have g50 : mg "_law_whole_batch" = some (.ref (He.fAd K ("_law_whole_batch", none))) := He.glo_ok X G (cd.fact 101 (f := .glo "_law_whole_batch") rfl)
  obtain ⟨fd51, F51⟩ := cd.def_ 51 (d := dd "_law_counts_agree" "_law_counts_agree" s_law_counts_agree []) rfl
  have F51 : Fd K "_law_counts_agree" s_law_counts_agree [] (He.fAd K ("_law_counts_agree", none)) fd51 := F51
  have g51 : mg "_law_counts_agree" = some (.ref (He.fAd K ("_law_counts_agree", none))) := He.glo_ok X G (cd.fact 102 (f := .glo "_law_counts_agree") rfl)
  obtain ⟨fd52, F52⟩ := cd.def_ 52 (d := dd "_law_overs_told" "_law_overs_told" s_law_overs_told []) rfl
  have F52 : Fd K "_law_overs_told" s_law_overs_told [] (He.fAd K ("_law_overs_told", none)) fd52 := F52
  have g52 : mg "_law_overs_told" = some (.ref (He.fAd K ("_law_overs_told", none))) := He.glo_ok X G (cd.fact 103 (f := .glo "_law_overs_told") rfl)
  obtain ⟨fd53, F53⟩ := cd.def_ 53 (d := dd "_law_orders_refused" "_law_orders_refused" s_law_orders_refused []) rfl
  have F53 : Fd K "_law_orders_refused" s_law_orders_refused [] (He.fAd K ("_law_orders_refused", none)) fd53 := F53
  have g53 : mg "_law_orders_refused" = some (.ref (He.fAd K ("_law_orders_refused", none))) := He.glo_ok X G (cd.fact 104 (f := .glo "_law_orders_refused") rfl)
  obtain ⟨fd54, F54⟩ := cd.def_ 54 (d := dd "_law_lots_refused" "_law_lots_refused" s_law_lots_refused []) rfl
  have F54 : Fd K "_law_lots_refused" s_law_lots_refused [] (He.fAd K ("_law_lots_refused", none)) fd54 := F54
  have g54 : mg "_law_lots_refused" = some (.ref (He.fAd K ("_law_lots_refused", none))) := He.glo_ok X G (cd.fact 105 (f := .glo "_law_lots_refused") rfl)
  obtain ⟨fd55, F55⟩ := cd.def_ 55 (d := dd "_law_answer" "_law_answer" s_law_answer []) rfl
  have F55 : Fd K "_law_answer" s_law_answer [] (He.fAd K ("_law_answer", none)) fd55 := F55
  have g55 : mg "_law_answer" = some (.ref (He.fAd K ("_law_answer", none))) := He.glo_ok X G (cd.fact 106 (f := .glo "_law_answer") rfl)
  obtain ⟨fd56, F56⟩ := cd.def_ 56 (d := dd "law" "law" s_law []) rfl
  have F56 : Fd K "law" s_law [] (He.fAd K ("law", none)) fd56 := F56
  have g56 : mg "law" = some (.ref (He.fAd K ("law", none))) := He.glo_ok X G (cd.fact 107 (f := .glo "law") rfl)
  have e := hfa.symm.trans g56
  cases e
  have b := FunD.bindsA (ps := ["script"]) F56 fun _ _ _ _ _ _ us hl => match us, hl with | [_], _ => rfl
  refine ⟨fd56, fun s v => b s [v] rfl, fun base hTB => ?_⟩
  have T : Tx K mg := ⟨He.free_ok X G (cd.fact 0 (f := .free "ValueError") rfl), He.free_ok X G (cd.fact 1 (f := .free "all") rfl), He.free_ok X G (cd.fact 2 (f := .free "any") rfl), He.free_ok X G (cd.fact 3 (f := .free "bool") rfl), He.free_ok X G (cd.fact 4 (f := .free "int") rfl), He.free_ok X G (cd.fact 5 (f := .free "isinstance") rfl), He.free_ok X G (cd.fact 6 (f := .free "iter") rfl), He.free_ok X G (cd.fact 7 (f := .free "len") rfl), He.free_ok X G (cd.fact 8 (f := .free "list") rfl), He.free_ok X G (cd.fact 9 (f := .free "max") rfl), He.free_ok X G (cd.fact 10 (f := .free "min") rfl), He.free_ok X G (cd.fact 11 (f := .free "property") rfl), He.free_ok X G (cd.fact 12 (f := .free "range") rfl), He.free_ok X G (cd.fact 13 (f := .free "str") rfl), He.free_ok X G (cd.fact 14 (f := .free "sum") rfl), He.free_ok X G (cd.fact 15 (f := .free "super") rfl), He.free_ok X G (cd.fact 16 (f := .free "tuple") rfl), He.free_ok X G (cd.fact 17 (f := .free "zip") rfl), He.int_ok X G (cd.fact 18 (f := .int "GREATEST_COUNT" 1000000000) rfl), He.int_ok X G (cd.fact 19 (f := .int "KINDS_MOST" 8) rfl), He.int_ok X G (cd.fact 20 (f := .int "MOST_KINDS" 8) rfl), He.int_ok X G (cd.fact 21 (f := .int "PRICE_MOST" 9999) rfl), He.glo_ok X G (cd.fact 22 (f := .glo "BadBatch") rfl), He.exc_ok (cd.fact 23 (f := .exc "BadBatch") rfl), He.glo_ok X G (cd.fact 24 (f := .glo "BadKind") rfl), He.exc_ok (cd.fact 25 (f := .exc "BadKind") rfl), He.glo_ok X G (cd.fact 26 (f := .glo "BadLot") rfl), He.exc_ok (cd.fact 27 (f := .exc "BadLot") rfl), He.glo_ok X G (cd.fact 28 (f := .glo "BadNumber") rfl), He.exc_ok (cd.fact 29 (f := .exc "BadNumber") rfl), He.glo_ok X G (cd.fact 30 (f := .glo "BadOrder") rfl), He.exc_ok (cd.fact 31 (f := .exc "BadOrder") rfl), He.glo_ok X G (cd.fact 32 (f := .glo "BadTable") rfl), He.exc_ok (cd.fact 33 (f := .exc "BadTable") rfl), He.glo_ok X G (cd.fact 34 (f := .glo "Outside") rfl), He.exc_ok (cd.fact 35 (f := .exc "Outside") rfl), He.cls_ok (cd.fact 36 (f := .cls "Table") rfl), He.noat_ok (cd.fact 37 (f := .noat "Table" "own_turns") rfl), He.noat_ok (cd.fact 38 (f := .noat "Table" "own_begins") rfl), He.noat_ok (cd.fact 39 (f := .noat "Table" "own_ends") rfl), He.glo_ok X G (cd.fact 40 (f := .glo "BadFold") rfl), He.glo_ok X G (cd.fact 41 (f := .glo "BadPaper") rfl), He.glo_ok X G (cd.fact 42 (f := .glo "BadRing") rfl), He.glo_ok X G (cd.fact 43 (f := .glo "BadRow") rfl), He.glo_ok X G (cd.fact 44 (f := .glo "BadRule") rfl), He.glo_ok X G (cd.fact 45 (f := .glo "BadSlot") rfl), He.glo_ok X G (cd.fact 46 (f := .glo "BadText") rfl), He.glo_ok X G (cd.fact 47 (f := .glo "Gains") rfl), He.glo_ok X G (cd.fact 48 (f := .glo "Table") rfl), He.glo_ok X G (cd.fact 49 (f := .glo "TooMany") rfl), He.glo_ok X G (cd.fact 50 (f := .glo "WorksError") rfl)⟩
  obtain ⟨fdm0, Fm0⟩ := cd.def_ 57 (d := dm "Table" "__init__" "Table.__init__" s_Table___init__) rfl
  have Fm0 : FunD K "__init__" "Table.__init__" (defArgs s_Table___init__) (defBody s_Table___init__) (defScope s_Table___init__) [] [] (He.ma K (He.ga K "Table") "__init__") fdm0 := Fm0
  have gm0 := He.mkr_ok (cd.fact 108 (f := .mkr "Table") rfl)
  obtain ⟨fdp0, Fp0⟩ := getFunD (c.get ("Table", "many", wantW "many" "Table.many" s_Table_many) (by simp [getL])) mC1
  have gp0 := propB_ok mC0
  obtain ⟨fdp1, Fp1⟩ := getFunD (c.get ("Table", "turns", wantW "turns" "Table.turns" s_Table_turns) (by simp [getL])) mC3
  have gp1 := propB_ok mC2
  obtain ⟨fdp2, Fp2⟩ := getFunD (c.get ("Table", "begins", wantW "begins" "Table.begins" s_Table_begins) (by simp [getL])) mC5
  have gp2 := propB_ok mC4
  obtain ⟨fdp3, Fp3⟩ := getFunD (c.get ("Table", "ends", wantW "ends" "Table.ends" s_Table_ends) (by simp [getL])) mC7
  have gp3 := propB_ok mC6
  have TO__law_orders_refused : TabO base mg K (TbK K) "_law_orders_refused" := ⟨hTB _ (by simp [tfL]), List.mem_map.mpr ⟨("_law_orders_refused", none), by simp [tfL], rfl⟩⟩
  have TO__law_lots_refused : TabO base mg K (TbK K) "_law_lots_refused" := ⟨hTB _ (by simp [tfL]), List.mem_map.mpr ⟨("_law_lots_refused", none), by simp [tfL], rfl⟩⟩
  have h_law_mix := has_law_mix (P := P) (w := w) (base := base) T  F0 g0
  have h_law_take := has_law_take (P := P) (w := w) (base := base) T h_law_mix F1 g1
  have h_law_pick := has_law_pick (P := P) (w := w) (base := base) T h_law_take F2 g2
  have h_law_edge := has_law_edge (P := P) (w := w) (base := base) T h_law_take F3 g3
  have h_law_arrangement := has_law_arrangement (P := P) (w := w) (base := base) T h_law_take F4 g4
  have h_law_same := has_law_same (P := P) (w := w) (base := base) T  F5 g5
  have h_law_refused := has_law_refused (P := P) (w := w) (base := base) T h_law_same F6 g6
  have h_law_shaped := has_law_shaped (P := P) (w := w) (base := base) T  F7 g7 4
  have h_law_store := has_law_store (P := P) (w := w) (base := base) T  F8 g8
  have h_law_any_shape := has_law_any_shape (P := P) (w := w) (base := base) T h_law_shaped h_law_pick F9 g9
  have h_is_whole_table := has_is_whole_table (P := P) (w := w) (base := base) T  F10 g10
  have h_is_whole_rows := has_is_whole_rows (P := P) (w := w) (base := base) T  F11 g11
  have h_is_whole := has_is_whole (P := P) (w := w) (base := base) T  F12 g12
  have h_is_listed := has_is_listed (P := P) (w := w) (base := base) T  F13 g13
  have h_is_between := has_is_between (P := P) (w := w) (base := base) T h_is_whole_table F14 g14
  have h_is_kind := has_is_kind (P := P) (w := w) (base := base) T h_is_between F15 g15
  have h_is_lot := has_is_lot (P := P) (w := w) (base := base) T h_is_listed h_is_kind F16 g16
  have h_check_lot := has_check_lot (P := P) (w := w) (base := base) T h_is_lot F17 g17
  have h_check_many := has_check_many (P := P) (w := w) (base := base) T h_is_between F18 g18
  have h_is_price := has_is_price (P := P) (w := w) (base := base) T h_is_between F19 g19
  have h_are_prices := has_are_prices (P := P) (w := w) (base := base) T h_is_price h_is_listed F20 g20
  have h_check_kind := has_check_kind (P := P) (w := w) (base := base) T h_is_kind F21 g21
  have h_Table___init__ := hasmk_Table___init__ (P := P) (w := w) (base := base) (pr := 0) T h_is_listed h_are_prices Fm0 T.c_Table gm0
  have h_Table_many := hasp_Table_many (P := P) (w := w) (base := base) T  Fp0 gp0
  have h_Table_turns := hasp_Table_turns (P := P) (w := w) (base := base) T  Fp1 gp1
  have h_Table_begins := hasp_Table_begins (P := P) (w := w) (base := base) T  Fp2 gp2
  have h_Table_ends := hasp_Table_ends (P := P) (w := w) (base := base) T  Fp3 gp3
  have h_price_of := has_price_of (P := P) (w := w) (base := base) T h_Table_turns h_Table_begins h_Table_ends F22 g22
  have h_over_of := has_over_of (P := P) (w := w) (base := base) T h_Table_turns h_price_of F23 g23
  have h_is_list := has_is_list (P := P) (w := w) (base := base) T  F24 g24
  have h_are_kinds := has_are_kinds (P := P) (w := w) (base := base) T h_is_whole_rows F25 g25
  have h_checked_order := has_checked_order (P := P) (w := w) (base := base) T h_is_list h_are_kinds F26 g26
  have h_lots_among := has_lots_among (P := P) (w := w) (base := base) T  F27 g27
  have h_all_lots := has_all_lots (P := P) (w := w) (base := base) T h_check_many h_lots_among F28 g28
  have hk_all_lots_0_many := hask_all_lots_0_many (P := P) (w := w) (base := base) T h_check_many h_lots_among F28 g28
  have h_law_huge := has_law_huge (P := P) (w := w) (base := base) T  F29 g29
  have h_law_many := has_law_many (P := P) (w := w) (base := base) T h_law_pick F30 g30
  have h_law_lots := has_law_lots (P := P) (w := w) (base := base) T  F31 g31
  have h_checked_lot := has_checked_lot (P := P) (w := w) (base := base) T h_are_kinds h_is_list F32 g32
  have h_checked_batch := has_checked_batch (P := P) (w := w) (base := base) T h_is_list h_is_whole_rows F33 g33
  have h_picked := has_picked (P := P) (w := w) (base := base) T  F34 g34
  have h_made := has_made (P := P) (w := w) (base := base) T  F35 g35
  have h_arranged := has_arranged (P := P) (w := w) (base := base) T h_checked_order h_picked h_checked_lot F36 g36
  have hk_arranged_0_lot_order := hask_arranged_0_lot_order (P := P) (w := w) (base := base) T h_checked_order h_picked h_checked_lot F36 g36
  have h_neighbours := has_neighbours (P := P) (w := w) (base := base) T h_arranged F37 g37
  have hk_neighbours_0_lot_order := hask_neighbours_0_lot_order (P := P) (w := w) (base := base) T h_arranged F37 g37
  have h_house_over := has_house_over (P := P) (w := w) (base := base) T h_Table_many h_checked_order h_over_of h_picked h_checked_lot F38 g38
  have hk_house_over_0_order_lot_table := hask_house_over_0_order_lot_table (P := P) (w := w) (base := base) T h_Table_many h_checked_order h_over_of h_picked h_checked_lot F38 g38
  have h_house_overs := has_house_overs (P := P) (w := w) (base := base) T h_Table_many h_checked_order h_all_lots h_over_of h_picked F39 g39
  have hk_house_overs_0_order_table := hask_house_overs_0_order_table (P := P) (w := w) (base := base) T h_Table_many h_checked_order h_all_lots h_over_of h_picked F39 g39
  have h_house_price := has_house_price (P := P) (w := w) (base := base) T h_Table_many h_checked_order h_checked_batch h_made h_Table_turns h_price_of F40 g40
  have h_law_price := has_law_price (P := P) (w := w) (base := base) T h_law_edge h_law_take F41 g41
  have h_law_free_prices := has_law_free_prices (P := P) (w := w) (base := base) T h_law_pick h_law_price h_law_take F42 g42
  have h_law_order := has_law_order (P := P) (w := w) (base := base) T h_law_take h_law_arrangement F43 g43
  have h_law_copied_prices := has_law_copied_prices (P := P) (w := w) (base := base) T  F44 g44
  have h_law_arranged := has_law_arranged (P := P) (w := w) (base := base) T  F45 g45
  have h_law_number := has_law_number (P := P) (w := w) (base := base) T  F46 g46
  have h_law_price_of := has_law_price_of (P := P) (w := w) (base := base) T  F47 g47
  have h_law_over_of := has_law_over_of (P := P) (w := w) (base := base) T h_law_price_of F48 g48
  have h_law_lot_arranged := has_law_lot_arranged (P := P) (w := w) (base := base) T h_law_any_shape h_law_over_of h_law_same h_arranged h_neighbours h_house_over hk_arranged_0_lot_order hk_neighbours_0_lot_order hk_house_over_0_order_lot_table F49 g49
  have h_law_whole_batch := has_law_whole_batch (P := P) (w := w) (base := base) T h_law_edge F50 g50
  have h_law_counts_agree := has_law_counts_agree (P := P) (w := w) (base := base) T h_law_whole_batch h_house_price h_law_number h_law_same h_law_over_of h_law_arranged F51 g51
  have h_law_overs_told := has_law_overs_told (P := P) (w := w) (base := base) T h_law_over_of h_law_arranged h_law_same h_house_overs hk_house_overs_0_order_table F52 g52
  have h_law_orders_refused := has_law_orders_refused (P := P) (w := w) (base := base) (Tb := TbK K) T hTb TO__law_orders_refused F55 g55 kx kt nt h_law_huge h_law_pick h_law_refused h_arranged h_neighbours h_house_over h_house_overs F53 g53
  have h_law_lots_refused := has_law_lots_refused (P := P) (w := w) (base := base) (Tb := TbK K) T hTb TO__law_lots_refused F55 g55 kx kt nt h_law_take h_arranged h_neighbours h_house_over h_law_refused F54 g54
  exact ok_law (Tb := TbK K) T h_law_store h_law_many h_law_take h_law_free_prices h_law_copied_prices h_Table___init__ h_law_order h_law_lots h_law_pick h_law_lot_arranged h_law_counts_agree h_law_overs_told h_law_lots_refused h_law_orders_refused F56
end
end Q
section
open PySem PySem.W PySem.Calls PyProof.Rows
theorem PySem.Challenge.cw_staysandturns_k09_house_overs_of_lots_holds : PySem.Challenge.rw_staysandturns_k09_house_overs_of_lots.Holds := by
  w_on; o_law
  refine HandSHeadRun.head_any (r := Q.R) (q := view Q.R.prog [89]) (H := Q.hk) (ob := Q.ob) (M := 12000) (loose := Q.names) (d := HandSHeadRun.topDef Q.R.prog 89) (kwd := []) Q.ob_eq
    (by kernel_rfl) (fun s => by kernel_rfl) Q.run (by kernel_rfl) (by kernel_rfl) (by kernel_rfl) (by rfl) (by first | assumption | decide +kernel) (by decide +kernel) ⟨rfl, rfl, rfl, rfl, rfl, by decide +kernel⟩ ?hw ?hc
  case hw => w_witness2
  case hc =>
    refine LamX.walk_ofTsE (l := PySem.Challenge.rw_staysandturns_k09_house_overs_of_lots) (n := 63) (k := 9) (x := "script") (CX := L2N.CX (PySem.Challenge.rw_staysandturns_k09_house_overs_of_lots).prog) rfl (by decide) (by kernel_rfl) ⟨rfl, by decide, by decide⟩ ?F ?hCX
    case hCX =>
      intro w H s e s' h
      exact Q.noCX h
    case F =>
      intro w mg fa h Y G hmg0
      obtain ⟨K, KX, c⟩ := Y
      have hmg : mg ("law" : PySem.Str) = some (.ref fa) := by
        have e : (HandSHeadRun.topDef Q.R.prog 89).name = ("law" : PySem.Str) := by kernel_rfl
        rw [← e]
        exact hmg0
      obtain ⟨fd, hb, hF⟩ := Q.facts (P := (PySem.Challenge.rw_staysandturns_k09_house_overs_of_lots).prog) (w := w) KX G hmg c (by first | exact beq_self_eq_true _ | kernel_rfl) (by kernel_rfl)
      refine ⟨K, KX, fd, Q.tfL.map (He.cT K), N.spLaw K ((Q.TbK K).map (·.1)), fun p hp => ?_, fun p hp => ?_, fun p hp => ?_, hb, fun H a ns hl _ hT hS => ⟨a, ns, rfl, by omega, hS, fun P hP => ?_, fun _ => rfl⟩, fun base _ _ hT => hF base fun t ht => hT _ (List.mem_map.mpr ⟨t, ht, rfl⟩)⟩
      · obtain ⟨t, ht, rfl⟩ := List.mem_map.mp hp
        exact c.y.x.empty _ ht
      · obtain ⟨t, ht, rfl⟩ := List.mem_map.mp hp
        exact c.y.x.out _ ht
      · obtain ⟨t, ht, rfl⟩ := List.mem_map.mp hp
        exact PySem.W.codeHd_of_K KX (c.y.x.hd _ ht)
      · obtain ⟨q, hq, rfl⟩ := List.mem_map.mp hP
        obtain ⟨t, ht, rfl⟩ := List.mem_map.mp hq
        exact hT _ (List.mem_map.mpr ⟨t, ht, rfl⟩)
end
