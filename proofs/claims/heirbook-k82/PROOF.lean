import PyProof.Rows.All
import Wide.All
import OpenK.AllK
import Wide.FinOn
import HandS.ForMost
import HandS.ForExc
import HandS.TryOnly
import HandS.TryMany
import HandS.TryElse
import HandS.ExcOwn
import HandS.ExcIs
import HandS.CallSlots
import HandS.Wide
import HandS.Rev
import HandS.Codes
import HandS.IsInst
import HandS.TupAny
import HandS.Style
import HandS.Text
import HandS.More
import HandS.Finally
import HandS.Zip
import PySem.Challenge.RW_heirbook_k82_whole_known_levels
set_option Elab.async false
set_option linter.all false
set_option maxRecDepth 100000
/-! DLCore: a layer of data over the hand layer: tuples are values, mutable objects stand at places 0, 1, .. of a list. -/
namespace DL
open PySem PySem.Spec PyProof.Rows L2
abbrev St := L2.St

inductive D where
  | non | bl (b : Bool) | int (i : Int) | str (x : Str) | ref (n : Nat) | tup (xs : List D) | raw (v : V)
instance : Inhabited D := ⟨.non⟩
inductive DO where
  | lst (xs : List D) | dk (kvs : List (Key × D)) | dt (kvs : List (List Key × D)) | ins (C : Addr) (fs : List (Str × D)) | scr (xs : List D)
abbrev DH := List DO
abbrev DEnv := List (Option D)
def DO.isScr : DO → Bool
  | .scr _ => true
  | _ => false

section
variable (K : PySem.W.Frag)
mutual
inductive RV (H : Hp) (al : List Addr) : D → V → Prop where
  | non : RV H al .non .non
  | bl {b} : RV H al (.bl b) (.bl b)
  | int {i} : RV H al (.int i) (.int i)
  | str {x} : RV H al (.str x) (.str x)
  | ref {n a} : al[n]? = some a → RV H al (.ref n) (.ref a)
  | tup {a vs ds} : SqT K H a vs → RVs H al ds vs → RV H al (.tup ds) (.ref a)
  | raw {v} : RV H al (.raw v) v
inductive RVs (H : Hp) (al : List Addr) : List D → List V → Prop where
  | nil : RVs H al [] []
  | cons {d v ds vs} : RV H al d v → RVs H al ds vs → RVs H al (d :: ds) (v :: vs)
end
structure Evo (H : Hp) (al : List Addr) (H' : Hp) (al' : List Addr) : Prop where
  pre : ∃ r, al' = al ++ r
  tup : ∀ a vs, SqT K H a vs → SqT K H' a vs
def KR {κ : Type} (H : Hp) (al : List Addr) (p : κ × D) (q : κ × V) : Prop := p.1 = q.1 ∧ RV K H al p.2 q.2
def RO (H : Hp) (al : List Addr) : DO → Addr → Prop
  | .lst ds, a => ∃ vs, H a = some (.lst vs) ∧ RVs K H al ds vs
  | .dk kvs, a => ∃ kv, H a = some (.dK kv) ∧ Paired (KR K H al) kvs kv
  | .dt kvs, a => ∃ kv, H a = some (.dT kv) ∧ Paired (KR K H al) kvs kv
  | .ins C fs, a => ∃ dx fv, H a = some (.ins C dx fv) ∧ Paired (KR K H al) fs fv
  | .scr ds, a => ∃ vs, ((∃ o, H a = some (.frz o (.lst vs))) ∨ (∀ H', SqL K H' a vs)) ∧ RVs K H al ds vs
structure RH (H : Hp) (al : List Addr) (h : DH) : Prop where
  len : h.length = al.length
  obj : ∀ (n : Nat) (o : DO) (a : Addr), h[n]? = some o → al[n]? = some a → RO K H al o a
  uniq : ∀ (i j : Nat) (a : Addr) (o o' : DO), al[i]? = some a → al[j]? = some a → h[i]? = some o → h[j]? = some o' → o.isScr = false → o'.isScr = false → i = j
def RSlot (H : Hp) (al : List Addr) : Option D → Option V → Prop
  | none, _ => True
  | some d, some v => RV K H al d v
  | some _, none => False
abbrev RS (H : Hp) (al : List Addr) : DEnv → St → Prop := Paired (RSlot K H al)
end

section
variable {K : PySem.W.Frag} {H H1 H2 : Hp} {al al1 al2 : List Addr}
theorem Evo.refl : Evo K H al H al := ⟨⟨[], by simp⟩, fun _ _ h => h⟩
theorem Evo.trans (a : Evo K H al H1 al1) (b : Evo K H1 al1 H2 al2) : Evo K H al H2 al2 := by
  obtain ⟨⟨r, e⟩, t⟩ := a
  obtain ⟨⟨r', e'⟩, t'⟩ := b
  exact ⟨⟨r ++ r', by rw [e', e, List.append_assoc]⟩, fun a vs h => t' a vs (t a vs h)⟩
theorem Evo.at (e : Evo K H al H1 al1) {n : Nat} {a : Addr} (h : al[n]? = some a) : al1[n]? = some a := by
  obtain ⟨⟨r, rfl⟩, _⟩ := e
  obtain ⟨hn, _⟩ := List.getElem?_eq_some_iff.mp h
  rw [List.getElem?_append_left hn]
  exact h
mutual
theorem RV.evo (e : Evo K H al H1 al1) : ∀ {d : D} {v : V}, RV K H al d v → RV K H1 al1 d v
  | _, _, .non => .non
  | _, _, .bl => .bl
  | _, _, .int => .int
  | _, _, .str => .str
  | _, _, .ref h => .ref (e.at h)
  | _, _, .tup h hs => .tup (e.tup _ _ h) (RVs.evo e hs)
  | _, _, .raw => .raw
theorem RVs.evo (e : Evo K H al H1 al1) : ∀ {ds : List D} {vs : List V}, RVs K H al ds vs → RVs K H1 al1 ds vs
  | _, _, .nil => .nil
  | _, _, .cons h t => .cons (RV.evo e h) (RVs.evo e t)
end
theorem KR.evo {κ : Type} (e : Evo K H al H1 al1) {p : κ × D} {q : κ × V} (h : KR K H al p q) : KR K H1 al1 p q := ⟨h.1, h.2.evo e⟩
theorem RSlot.evo (e : Evo K H al H1 al1) : ∀ {d : Option D} {v : Option V}, RSlot K H al d v → RSlot K H1 al1 d v
  | none, _, _ => trivial
  | some _, some _, h => RV.evo e h
  | some _, none, h => h
theorem RS.evo (e : Evo K H al H1 al1) {ρ : DEnv} {σ : St} (h : RS K H al ρ σ) : RS K H1 al1 ρ σ := Paired.mapP h fun _ _ q => RSlot.evo e q

/-! ### lists of values -/
theorem RVs.length : ∀ {ds : List D} {vs : List V}, RVs K H al ds vs → ds.length = vs.length
  | _, _, .nil => rfl
  | _, _, .cons _ t => congrArg (· + 1) (RVs.length t)
theorem RVs.get : ∀ {ds : List D} {vs : List V} {i : Nat} {d : D}, RVs K H al ds vs → ds[i]? = some d → ∃ v, vs[i]? = some v ∧ RV K H al d v
  | _, _, i, _, .nil, e => by simp at e
  | _, _, 0, _, .cons h _, e => by simp at e; subst e; exact ⟨_, rfl, h⟩
  | _, _, i + 1, d, .cons _ t, e => by
    obtain ⟨v, h1, h2⟩ := RVs.get (i := i) (d := d) t (by simpa using e)
    exact ⟨v, by simpa using h1, h2⟩
theorem RVs.append : ∀ {ds es : List D} {vs ws : List V}, RVs K H al ds vs → RVs K H al es ws → RVs K H al (ds ++ es) (vs ++ ws)
  | _, _, _, _, .nil, s => s
  | _, _, _, _, .cons r t, s => .cons r (RVs.append t s)
theorem RVs.take : ∀ {ds : List D} {vs : List V} (n : Nat), RVs K H al ds vs → RVs K H al (ds.take n) (vs.take n)
  | _, _, 0, _ => by simpa using RVs.nil
  | _, _, _ + 1, .nil => .nil
  | _, _, n + 1, .cons r t => .cons r (RVs.take n t)
theorem RVs.drop : ∀ {ds : List D} {vs : List V} (n : Nat), RVs K H al ds vs → RVs K H al (ds.drop n) (vs.drop n)
  | _, _, 0, r => r
  | _, _, _ + 1, .nil => .nil
  | _, _, n + 1, .cons _ t => RVs.drop n t
theorem RVs.set {d : D} {v : V} (r : RV K H al d v) : ∀ {ds : List D} {vs : List V} (i : Nat), RVs K H al ds vs → RVs K H al (ds.set i d) (vs.set i v)
  | _, _, _, .nil => .nil
  | _, _, 0, .cons _ t => .cons r t
  | _, _, i + 1, .cons q t => .cons q (RVs.set r i t)
theorem RVs.snoc {ds : List D} {vs : List V} {d : D} {v : V} (h : RVs K H al ds vs) (r : RV K H al d v) : RVs K H al (ds ++ [d]) (vs ++ [v]) := h.append (.cons r .nil)
theorem RVs.reverse : ∀ {ds : List D} {vs : List V}, RVs K H al ds vs → RVs K H al ds.reverse vs.reverse
  | _, _, .nil => .nil
  | _, _, .cons r t => by simpa using (RVs.reverse t).snoc r
theorem RVs.dropLast {ds : List D} {vs : List V} (h : RVs K H al ds vs) : RVs K H al ds.dropLast vs.dropLast := by
  rw [List.dropLast_eq_take, List.dropLast_eq_take, h.length]
  exact h.take _
theorem RVs.ints : ∀ {ns : List Int} {vs : List V}, RVs K H al (ns.map D.int) vs → vs = ns.map V.int
  | [], _, .nil => rfl
  | _ :: _, _, .cons .int t => by simp [RVs.ints t]
theorem RVs.of_ints : ∀ {ns : List Int}, RVs K H al (ns.map D.int) (ns.map V.int)
  | [] => .nil
  | _ :: _ => .cons .int RVs.of_ints
theorem RVs.strs : ∀ {ns : List Str} {vs : List V}, RVs K H al (ns.map D.str) vs → vs = ns.map V.str
  | [], _, .nil => rfl
  | _ :: _, _, .cons .str t => by simp [RVs.strs t]
theorem RVs.of_strs : ∀ {ns : List Str}, RVs K H al (ns.map D.str) (ns.map V.str)
  | [] => .nil
  | _ :: _ => .cons .str RVs.of_strs
theorem RVs.bls : ∀ {ns : List Bool} {vs : List V}, RVs K H al (ns.map D.bl) vs → vs = ns.map V.bl
  | [], _, .nil => rfl
  | _ :: _, _, .cons .bl t => by simp [RVs.bls t]

/-! ### slots -/
theorem RS.get {ρ : DEnv} {σ : St} (h : RS K H al ρ σ) {i : Nat} {d : D} (e : ρ[i]? = some (some d)) : ∃ v, σ[i]? = some (some v) ∧ RV K H al d v := by
  obtain ⟨b, e', r⟩ := paired_get h e
  cases b with
  | none => exact r.elim
  | some v => exact ⟨v, e', r⟩
theorem Paired.setP {α β : Type} {F : α → β → Prop} {a : α} {b : β} (r : F a b) : ∀ {l₁ : List α} {l₂ : List β} (i : Nat), Paired F l₁ l₂ → Paired F (l₁.set i a) (l₂.set i b)
  | _, _, _, .nil => .nil
  | _, _, 0, .cons _ t => .cons r t
  | _, _, i + 1, .cons q t => .cons q (Paired.setP r i t)
theorem RS.set {ρ : DEnv} {σ : St} (h : RS K H al ρ σ) (i : Nat) {d : D} {v : V} (r : RV K H al d v) : RS K H al (ρ.set i (some d)) (σ.set i (some v)) := Paired.setP (show RSlot K H al (some d) (some v) from r) i h
theorem RS.gone {ρ : DEnv} {σ : St} (h : RS K H al ρ σ) (i : Nat) (o : Option V) : RS K H al (ρ.set i none) (σ.set i o) := Paired.setP (show RSlot K H al none o from trivial) i h

/-! ### the heap: a new object, a change -/
theorem SqT.upd_new {p : Addr} {o : HO} (hp : H p = none) {a : Addr} {vs : List V} (h : SqT K H a vs) : SqT K (upd H p o) a vs := by
  rcases h with (h | ⟨u, h⟩) | h
  · exact .inl (.inl (by rw [upd_ne (ne_of_none h hp)]; exact h))
  · exact .inl (.inr ⟨u, by rw [upd_ne (ne_of_none h hp)]; exact h⟩)
  · exact .inr h
theorem Evo.new {p : Addr} {o : HO} (hp : H p = none) : Evo K H al (upd H p o) (al ++ [p]) := ⟨⟨[p], rfl⟩, fun _ _ h => SqT.upd_new hp h⟩
/-- something untracked by the layer of data is laid -/
theorem Evo.aside {p : Addr} {o : HO} (hp : H p = none) : Evo K H al (upd H p o) al := ⟨⟨[], by simp⟩, fun _ _ h => SqT.upd_new hp h⟩
def MutO : HO → Bool
  | .lst _ => true
  | .dK _ => true
  | .dT _ => true
  | .ins _ _ _ => true
  | _ => false
theorem Evo.write {p : Addr} {u o : HO} (hp : H p = some u) (m : MutO u = true) : Evo K H al (upd H p o) al := by
  refine ⟨⟨[], by simp⟩, fun a vs h => ?_⟩
  have ne : ∀ q, MutO q = false → H a = some q → a ≠ p := fun q hq e z => by
    subst z; rw [hp] at e; cases e; rw [m] at hq; cases hq
  rcases h with (h | ⟨u, h⟩) | h
  · exact .inl (.inl (by rw [upd_ne (ne _ rfl h)]; exact h))
  · exact .inl (.inr ⟨u, by rw [upd_ne (ne _ rfl h)]; exact h⟩)
  · exact .inr h
theorem RO.mut {o : DO} {a : Addr} (h : RO K H al o a) (ns : o.isScr = false) : ∃ u, H a = some u ∧ MutO u = true := by
  cases o with
  | lst ds => obtain ⟨vs, e, _⟩ := h; exact ⟨_, e, rfl⟩
  | dk ds => obtain ⟨vs, e, _⟩ := h; exact ⟨_, e, rfl⟩
  | dt ds => obtain ⟨vs, e, _⟩ := h; exact ⟨_, e, rfl⟩
  | ins C ds => obtain ⟨dx, vs, e, _⟩ := h; exact ⟨_, e, rfl⟩
  | scr ds => cases ns
/-- an object's description is carried on where the object itself stays -/
theorem RO.evo {o : DO} {a : Addr} (h : RO K H al o a) (e : Evo K H al H1 al1) (st : ∀ u, H a = some u → H1 a = some u) : RO K H1 al1 o a := by
  cases o with
  | lst ds => obtain ⟨vs, q, r⟩ := h; exact ⟨vs, st _ q, r.evo e⟩
  | dk ds => obtain ⟨vs, q, r⟩ := h; exact ⟨vs, st _ q, Paired.mapP r fun _ _ z => z.evo e⟩
  | dt ds => obtain ⟨vs, q, r⟩ := h; exact ⟨vs, st _ q, Paired.mapP r fun _ _ z => z.evo e⟩
  | ins C ds => obtain ⟨dx, vs, q, r⟩ := h; exact ⟨dx, vs, st _ q, Paired.mapP r fun _ _ z => z.evo e⟩
  | scr ds =>
    obtain ⟨vs, q, r⟩ := h
    refine ⟨vs, ?_, r.evo e⟩
    rcases q with ⟨o, q⟩ | q
    · exact .inl ⟨o, st _ q⟩
    · exact .inr q
theorem RH.at {hh : DH} (h : RH K H al hh) {n : Nat} {o : DO} (e : hh[n]? = some o) : ∃ a, al[n]? = some a ∧ RO K H al o a := by
  obtain ⟨hn, _⟩ := List.getElem?_eq_some_iff.mp e
  have hn' : n < al.length := by rw [← h.len]; exact hn
  exact ⟨al[n], List.getElem?_eq_getElem hn', h.obj n o _ e (List.getElem?_eq_getElem hn')⟩
/-- a new object -/
theorem RH.new {hh : DH} {p : Addr} {u : HO} {o : DO} (h : RH K H al hh) (hp : H p = none) (r : RO K (upd H p u) (al ++ [p]) o p) : RH K (upd H p u) (al ++ [p]) (hh ++ [o]) := by
  have ev : Evo K H al (upd H p u) (al ++ [p]) := Evo.new hp
  refine ⟨by simp [h.len], fun n o' a e e' => ?_, fun i j a o1 o2 e1 e2 f1 f2 s1 s2 => ?_⟩
  · by_cases hn : n < hh.length
    · rw [List.getElem?_append_left hn] at e
      rw [List.getElem?_append_left (by rw [← h.len]; exact hn)] at e'
      exact (h.obj n o' a e e').evo ev fun u' q => by rw [upd_ne (ne_of_none q hp)]; exact q
    · have hn2 : n = hh.length := by
        have := (List.getElem?_eq_some_iff.mp e).1
        simp at this; omega
      subst hn2
      rw [List.getElem?_append_right (Nat.le_refl _)] at e
      rw [h.len, List.getElem?_append_right (Nat.le_refl _)] at e'
      simp at e e'
      subst e; subst e'; exact r
  · have old : ∀ (k : Nat) (o' : DO), hh[k]? = some o' → al[k]? = some p → o'.isScr = false → False := fun k o' q1 q2 s => by
      obtain ⟨u', q, _⟩ := (h.obj k o' p q1 q2).mut s
      rw [hp] at q; cases q
    have spl : ∀ (k : Nat) (o' : DO), (hh ++ [o])[k]? = some o' → (al ++ [p])[k]? = some a → (hh[k]? = some o' ∧ al[k]? = some a) ∨ (k = hh.length ∧ a = p) := fun k o' q1 q2 => by
      by_cases hk : k < hh.length
      · rw [List.getElem?_append_left hk] at q1
        rw [List.getElem?_append_left (by rw [← h.len]; exact hk)] at q2
        exact .inl ⟨q1, q2⟩
      · have hk2 : k = hh.length := by
          have := (List.getElem?_eq_some_iff.mp q1).1
          simp at this; omega
        subst hk2
        rw [h.len, List.getElem?_append_right (Nat.le_refl _)] at q2
        simp at q2
        exact .inr ⟨rfl, q2.symm⟩
    rcases spl i o1 f1 e1 with ⟨a1, b1⟩ | ⟨a1, b1⟩ <;> rcases spl j o2 f2 e2 with ⟨a2, b2⟩ | ⟨a2, b2⟩
    · exact h.uniq i j a o1 o2 b1 b2 a1 a2 s1 s2
    · subst b2; exact (old i o1 a1 b1 s1).elim
    · subst b1; exact (old j o2 a2 b2 s2).elim
    · rw [a1, a2]
/-- a changed object -/
theorem RH.write {hh : DH} {n : Nat} {p : Addr} {u : HO} {o o' : DO} (h : RH K H al hh) (e : hh[n]? = some o) (ep : al[n]? = some p) (ns : o.isScr = false) (ns' : o'.isScr = false) (r : RO K (upd H p u) al o' p) : RH K (upd H p u) al (hh.set n o') := by
  obtain ⟨w, hw, mw⟩ := (h.obj n o p e ep).mut ns
  have ev : Evo K H al (upd H p u) al := Evo.write hw mw
  have hn := (List.getElem?_eq_some_iff.mp e).1
  refine ⟨by simp [h.len], fun m o1 a q q' => ?_, fun i j a o1 o2 e1 e2 f1 f2 s1 s2 => ?_⟩
  · by_cases hm : m = n
    · subst hm
      rw [List.getElem?_set_self hn] at q
      rw [ep] at q'
      cases q; cases q'; exact r
    · rw [List.getElem?_set_ne (Ne.symm hm)] at q
      have R := h.obj m o1 a q q'
      by_cases ha : a = p
      · subst ha
        cases hs : o1.isScr with
        | false => exact (hm (h.uniq m n a o1 o q' ep q e hs ns)).elim
        | true =>
          cases o1 with
          | scr ds =>
            obtain ⟨vs, q1, r1⟩ := R
            refine ⟨vs, ?_, r1.evo ev⟩
            rcases q1 with ⟨o, q1⟩ | q1
            · rw [hw] at q1; cases q1; cases mw
            · exact .inr q1
          | _ => cases hs
      · exact R.evo ev fun u' z => by rw [upd_ne ha]; exact z
  · have back : ∀ (k : Nat) (ok : DO), (hh.set n o')[k]? = some ok → ok.isScr = false → ∃ ok' : DO, hh[k]? = some ok' ∧ ok'.isScr = false := fun k ok q s => by
      by_cases hk : k = n
      · subst hk; exact ⟨o, e, ns⟩
      · rw [List.getElem?_set_ne (Ne.symm hk)] at q; exact ⟨ok, q, s⟩
    obtain ⟨x1, y1, z1⟩ := back i o1 f1 s1
    obtain ⟨x2, y2, z2⟩ := back j o2 f2 s2
    exact h.uniq i j a x1 x2 e1 e2 y1 y2 z1 z2
end

/-! ### what comes of a run -/
structure DX where
  cls : Value
  fs : List (Str × D)
inductive Out (β : Type) where
  | val (b : β) (h : DH) | exc (x : DX) (h : DH) | bad
def Out.bind {β γ : Type} (o : Out β) (f : β → DH → Out γ) : Out γ := match o with
  | .val b h => f b h
  | .exc x h => .exc x h
  | .bad => .bad
@[simp] theorem Out.bind_val {β γ : Type} {b : β} {h : DH} {f : β → DH → Out γ} : (Out.val b h).bind f = f b h := rfl
@[simp] theorem Out.bind_exc {β γ : Type} {x : DX} {h : DH} {f : β → DH → Out γ} : (Out.exc x h).bind f = .exc x h := rfl
@[simp] theorem Out.bind_bad {β γ : Type} {f : β → DH → Out γ} : (Out.bad).bind f = .bad := rfl

section
variable (K : PySem.W.Frag)
def RX (H : Hp) (al : List Addr) (x : DX) (dd : Option Addr) : Prop :=
  (x.fs = [] ∧ dd = none) ∨ (x.fs ≠ [] ∧ ∃ a fv, dd = some a ∧ H a = some (.xd fv) ∧ Paired (KR K H al) x.fs fv)
def PostG {β γ : Type} (R : Hp → List Addr → β → γ → Prop) (WX' : Value → Option Addr → Hp → Prop) (H : Hp) (al : List Addr) (o : Out β) (Q : γ → Hp → Prop) : Prop := match o with
  | .val b h' => ∀ H' al' c, Evo K H al H' al' → RH K H' al' h' → R H' al' b c → Q c H'
  | .exc x h' => ∀ H' al' dd, Evo K H al H' al' → RH K H' al' h' → RX K H' al' x dd → WX' x.cls dd H'
  | .bad => False
abbrev EM (β : Type) := DEnv → DH → Out β
/-- a reading by the layer of data; W: the wish of exceptions -/
def tG {β γ : Type} (R : Hp → List Addr → β → γ → Prop) (W : WX) (m : EM β) : St → Hp → (γ → Hp → Prop) → Prop := fun σ H Q =>
  ∃ ρ h al, RS K H al ρ σ ∧ RH K H al h ∧ PostG K R (fun c d H' => W c d σ H') H al (m ρ h) Q
abbrev tD (W : WX) (m : EM D) : TE := tG K (RV K) W m
abbrev RB : Hp → List Addr → Bool → Bool → Prop := fun _ _ b c => b = c
abbrev tBl (W : WX) (m : EM Bool) : TT := tG K RB W m
abbrev tAr (W : WX) (m : EM (List D)) : TA := tG K (RVs K) W m
end
section
variable {K : PySem.W.Frag} {β γ δ ε : Type} {R : Hp → List Addr → β → γ → Prop} {R2 : Hp → List Addr → δ → ε → Prop} {Wx : Value → Option Addr → Hp → Prop} {H H1 : Hp} {al al1 : List Addr}
theorem PostG.evo {o : Out β} {Q : γ → Hp → Prop} (e : Evo K H al H1 al1) (p : PostG K R Wx H al o Q) : PostG K R Wx H1 al1 o Q := by
  cases o with
  | val b h => exact fun H' al' c e' rh r => p H' al' c (e.trans e') rh r
  | exc x h => exact fun H' al' c e' rh r => p H' al' c (e.trans e') rh r
  | bad => exact p
theorem PostG.imp {o : Out β} {Q Q' : γ → Hp → Prop} (p : PostG K R Wx H al o Q) (i : ∀ c H', Q c H' → Q' c H') : PostG K R Wx H al o Q' := by
  cases o with
  | val b h => exact fun H' al' c e' rh r => i _ _ (p H' al' c e' rh r)
  | exc x h => exact p
  | bad => exact p
theorem PostG.bind {o : Out β} {f : β → DH → Out δ} {Q : ε → Hp → Prop} (p : PostG K R2 Wx H al (o.bind f) Q) :
    PostG K R Wx H al o (fun c H1 => ∃ b h1 al1, Evo K H al H1 al1 ∧ RH K H1 al1 h1 ∧ R H1 al1 b c ∧ PostG K R2 Wx H1 al1 (f b h1) Q) := by
  cases o with
  | val b h => exact fun H' al' c e rh r => ⟨b, h, al', e, rh, r, PostG.evo (o := f b h) e p⟩
  | exc x h => exact p
  | bad => exact p
/-- a value is told where it stands -/
theorem PostG.val {b : β} {h : DH} {c : γ} {Q : γ → Hp → Prop} (p : PostG K R Wx H al (.val b h) Q) (rh : RH K H al h) (r : R H al b c) : Q c H := p H al c Evo.refl rh r
end
abbrev DE (X : Cx) (W : WX) (e : Expr) (m : EM D) : Prop := PE X e (tD X.K W m)
abbrev DT (X : Cx) (W : WX) (e : Expr) (m : EM Bool) : Prop := PT X e (tBl X.K W m)
abbrev DW (X : Cx) (W : WX) (e : Expr) (m : EM Bool) : Prop := PW X e (tBl X.K W m)
abbrev DA (X : Cx) (W : WX) (es : List Expr) (m : EM (List D)) : Prop := PA X es (tAr X.K W m)
theorem _root_.L2.PE.imp {X : Cx} {e : Expr} {t t' : TE} (h : PE X e t) (i : ∀ σ H Q, t' σ H Q → t σ H Q) : PE X e t' := ⟨fun pins s σ H Q I q => h.run pins s σ H Q I (i σ H Q q)⟩
theorem _root_.L2.PT.imp {X : Cx} {e : Expr} {t t' : TT} (h : PT X e t) (i : ∀ σ H Q, t' σ H Q → t σ H Q) : PT X e t' := ⟨fun pins s σ H Q I q => h.run pins s σ H Q I (i σ H Q q)⟩
theorem _root_.L2.PW.imp {X : Cx} {e : Expr} {t t' : TT} (h : PW X e t) (i : ∀ σ H Q, t' σ H Q → t σ H Q) : PW X e t' := ⟨fun wh pins s σ H Q I q => h.run wh pins s σ H Q I (i σ H Q q)⟩
theorem _root_.L2.PA.imp {X : Cx} {e : List Expr} {t t' : TA} (h : PA X e t) (i : ∀ σ H Q, t' σ H Q → t σ H Q) : PA X e t' := ⟨fun po pins s σ H Q I q => h.run po pins s σ H Q I (i σ H Q q)⟩
theorem _root_.L2.PS.imp {X : Cx} {e : Stmt} {t t' : TS} (h : PS X e t) (i : ∀ D σ H, t' D σ H → t D σ H) : PS X e t' := ⟨fun pins s σ H D I q => h.run pins s σ H D I (i D σ H q)⟩
theorem _root_.L2.PSs.imp {X : Cx} {e : List Stmt} {t t' : TS} (h : PSs X e t) (i : ∀ D σ H, t' D σ H → t D σ H) : PSs X e t' := ⟨fun pins s σ H D I q => h.run pins s σ H D I (i D σ H q)⟩
end DL

namespace DL
open PySem PySem.Spec PyProof.Rows L2

/-! ### names, constants -/
def mVar (i : Nat) : EM D := fun ρ h => match ρ.getD i none with
  | some d => .val d h
  | none => .bad
def mC {β : Type} (d : β) : EM β := fun _ h => .val d h
section
variable {X : Cx} {W : WX} {a b c e : Expr} {es : List Expr} {pos p : Pos}
theorem de_var (i : Nat) {x : Str} (hN : X.N[i]? = some x := by rfl) (hv : Vis X.env.scope x := by first | exact Or.inl rfl | exact Or.inr (Or.inl rfl) | exact Or.inr (Or.inr rfl)) (hd : (x == ("__debug__" : Str)) = false := by decide)
    (hcd : (x == ("__classdict__" : Str)) = false := by decide) : DE X W (.Name x pos) (mVar i) := by
  refine (pe_var hN hv hd hcd).imp fun σ H Q ⟨ρ, h, al, rs, rh, q⟩ => ?_
  unfold mVar at q
  cases e : ρ.getD i none with
  | none => rw [e] at q; exact q.elim
  | some d =>
    rw [e] at q
    have e' : ρ[i]? = some (some d) := by
      rw [List.getD_eq_getElem?_getD] at e
      cases e2 : ρ[i]? with
      | none => rw [e2] at e; cases e
      | some o => rw [e2] at e; simp at e; rw [e]
    obtain ⟨v, e2, r⟩ := rs.get e'
    exact ⟨v, e2, PostG.val q rh r⟩
theorem de_const {d : D} {v : V} (h : PE X e (tC v)) (r : ∀ H al, RV X.K H al d v) : DE X W e (mC d) :=
  h.imp fun σ H Q ⟨ρ, hh, al, rs, rh, q⟩ => PostG.val q rh (r H al)
theorem de_int {i j} : DE X W (.Constant (.int i) j pos) (mC (.int i)) := de_const pe_int fun _ _ => .int
theorem de_bl {i j} : DE X W (.Constant (.bool i) j pos) (mC (.bl i)) := de_const pe_bl fun _ _ => .bl
theorem de_non {j} : DE X W (.Constant .none j pos) (mC .non) := de_const pe_non fun _ _ => .non
theorem de_str {i j} : DE X W (.Constant (.str i) j pos) (mC (.str i)) := de_const pe_str fun _ _ => .str
/-- a module's name as a value; d: the data that it holds -/
theorem de_glob {x : Str} {v : V} {u : Value} {d : D} (hg : Gl X x) (hm : X.mg x = some u) (r : RelV v u) (rd : ∀ H al, RV X.K H al d v) (hd : (x == ("__debug__" : Str)) = false := by decide) : DE X W (.Name x pos) (mC d) :=
  de_const (pe_glob hg hm r hd) rd
theorem de_bltn {x : Str} {v : V} {u : Value} {d : D} (hg : Gl X x) (hm : X.mg x = none) (hv : bootBuiltins x = some u) (r : RelV v u) (rd : ∀ H al, RV X.K H al d v) (hn : x ≠ "__name__" := by decide) (hd : (x == ("__debug__" : Str)) = false := by decide) : DE X W (.Name x pos) (mC d) :=
  de_const (pe_bltn hg hm hv r hn hd) rd

/-! ### operators by values -/
def mOp {β : Type} (g : D → D → DH → Out β) (ma mb : EM D) : EM β := fun ρ h => (ma ρ h).bind fun x h1 => (mb ρ h1).bind fun y h2 => g x y h2
def mUn {β : Type} (g : D → DH → Out β) (ma : EM D) : EM β := fun ρ h => (ma ρ h).bind g
def OpC (K : PySem.W.Frag) (r : R2) (g : D → D → DH → Out D) : Prop :=
  ∀ (Wx : Value → Option Addr → Hp → Prop) (H : Hp) (al : List Addr) (h : DH) (x y : V) (d e : D) (Q : VK), RH K H al h → RV K H al d x → RV K H al e y → PostG K (RV K) Wx H al (g d e h) Q → r x y H Q
def UnC (K : PySem.W.Frag) (r : V → Hp → VK → Prop) (g : D → DH → Out D) : Prop :=
  ∀ (Wx : Value → Option Addr → Hp → Prop) (H : Hp) (al : List Addr) (h : DH) (x : V) (d : D) (Q : VK), RH K H al h → RV K H al d x → PostG K (RV K) Wx H al (g d h) Q → r x H Q
theorem op_imp {r : R2} {g : D → D → DH → Out D} {ma mb : EM D} (hc : OpC X.K r g) (σ : St) (H : Hp) (Q : VK) (q : tD X.K W (mOp g ma mb) σ H Q) : tOp r (tD X.K W ma) (tD X.K W mb) σ H Q := by
  obtain ⟨ρ, h, al, rs, rh, q⟩ := q
  refine ⟨ρ, h, al, rs, rh, (PostG.bind q).imp ?_⟩
  rintro x H1 ⟨d, h1, al1, e1, rh1, r1, q1⟩
  refine ⟨ρ, h1, al1, rs.evo e1, rh1, (PostG.bind q1).imp ?_⟩
  rintro y H2 ⟨e, h2, al2, e2, rh2, r2, q2⟩
  exact hc _ H2 al2 h2 x y d e Q rh2 (r1.evo e2) r2 q2
theorem de_op {op : Operator} {r : R2} {g : D → D → DH → Out D} {ma mb : EM D} (ho : OpR X (binaryOp op) r) (hc : OpC X.K r g) (ha : DE X W a ma) (hb : DE X W b mb) : DE X W (.BinOp a op b pos) (mOp g ma mb) :=
  (pe_op ho ha hb).imp fun σ H Q q => op_imp hc σ H Q q
theorem de_ix {r : R2} {g : D → D → DH → Out D} {ma mb : EM D} (ho : IxR X r) (hc : OpC X.K r g) (ha : DE X W a ma) (hb : DE X W b mb) (hs : PlainIx b) : DE X W (.Subscript a b pos) (mOp g ma mb) :=
  (pe_ix ho ha hb hs).imp fun σ H Q q => op_imp hc σ H Q q
theorem de_cmp {op : CmpOp} {r : R2} {g : D → D → DH → Out D} {ma mb : EM D} (ho : OpR X (compareOp op) r) (hc : OpC X.K r g) (ha : DE X W a ma) (hb : DE X W b mb) (hm : behindInMarks op b = false) : DE X W (.Compare a [op] [b] pos) (mOp g ma mb) :=
  (pe_cmpR ho ha hb hm).imp fun σ H Q q => op_imp hc σ H Q q
theorem de_un {op : UnaryOp} {r : V → Hp → VK → Prop} {g : D → DH → Out D} {ma : EM D} (ho : UnR X (unaryOp op) r) (hc : UnC X.K r g) (ha : DE X W a ma) : DE X W (.UnaryOp op a pos) (mUn g ma) := by
  refine (pe_un ho ha).imp fun σ H Q ⟨ρ, h, al, rs, rh, q⟩ => ?_
  refine ⟨ρ, h, al, rs, rh, (PostG.bind q).imp ?_⟩
  rintro x H1 ⟨d, h1, al1, e1, rh1, r1, q1⟩
  exact hc _ H1 al1 h1 x d Q rh1 r1 q1
/-- what a value is as a truth -/
def asB {β : Type} (k : Bool → DH → Out β) : D → DH → Out β := fun d h => match d with
  | .bl b => k b h
  | _ => .bad
def mB (m : EM D) : EM Bool := fun ρ h => (m ρ h).bind (asB fun b h => .val b h)
theorem test_imp {t : TE} {m : EM D} (hi : ∀ σ H Q, tD X.K W m σ H Q → t σ H Q) (σ : St) (H : Hp) (Q : Bool → Hp → Prop) (q : tBl X.K W (mB m) σ H Q) : tTest t σ H Q := by
  obtain ⟨ρ, h, al, rs, rh, q⟩ := q
  refine hi _ _ _ ⟨ρ, h, al, rs, rh, (PostG.bind q).imp ?_⟩
  rintro x H1 ⟨d, h1, al1, e1, rh1, r1, q1⟩
  cases r1 with
  | bl => exact ⟨_, rfl, PostG.val (R := RB) q1 rh1 rfl⟩
  | _ => exact q1.elim
theorem dt_cmp {op : CmpOp} {r : R2} {g : D → D → DH → Out D} {ma mb : EM D} (ho : OpR X (compareOp op) r) (hc : OpC X.K r g) (ha : DE X W a ma) (hb : DE X W b mb) (hm : behindInMarks op b = false) : DT X W (.Compare a [op] [b] pos) (mB (mOp g ma mb)) :=
  (pt_cmpR ho ha hb hm).imp fun σ H Q q => test_imp (fun σ H Q q => op_imp hc σ H Q q) σ H Q q
theorem dt_val {m : EM D} (h : DE X W e m) (he : ∀ whole, isTrue e X.env whole = (do let v ← whole; standAt e.pos; holding [v] (truthy v)) := by intro _; rfl) : DT X W e (mB m) :=
  (pt_val h he).imp fun σ H Q q => test_imp (t := tD X.K W m) (fun _ _ _ q => q) σ H Q q
/-- a < b < c -/
def mChain (g g' : D → D → DH → Out D) (ma mb mc : EM D) : EM D := fun ρ h => (ma ρ h).bind fun x h1 => (mb ρ h1).bind fun y h2 => (g x y h2).bind (asB fun k h3 => if k = true then (mc ρ h3).bind fun z h4 => g' y z h4 else .bad)

/-! ### and, or, not, if -/
def mAnd (ma mb : EM Bool) : EM Bool := fun ρ h => (ma ρ h).bind fun k h1 => if k = true then mb ρ h1 else .val false h1
def mOr (ma mb : EM Bool) : EM Bool := fun ρ h => (ma ρ h).bind fun k h1 => if k = true then .val true h1 else mb ρ h1
def mNot (ma : EM Bool) : EM Bool := fun ρ h => (ma ρ h).bind fun k h1 => .val (!k) h1
def mIf {β : Type} (mt : EM Bool) (ma mb : EM β) : EM β := fun ρ h => (mt ρ h).bind fun k h1 => if k = true then ma ρ h1 else mb ρ h1
theorem dt_bind {β γ : Type} {R : Hp → List Addr → β → γ → Prop} {mt : EM Bool} {f : DEnv → Bool → DH → Out β} {t : (St → Hp → (γ → Hp → Prop) → Prop)} {σ : St} {H : Hp} {Q : γ → Hp → Prop} (q : tG X.K R W (fun ρ h => (mt ρ h).bind (f ρ)) σ H Q)
    (k : ∀ b H1, tG X.K R W (fun ρ h => f ρ b h) σ H1 Q → Q' b H1) : tBl X.K W mt σ H Q' := by
  obtain ⟨ρ, h, al, rs, rh, q⟩ := q
  refine ⟨ρ, h, al, rs, rh, (PostG.bind q).imp ?_⟩
  rintro c H1 ⟨d, h1, al1, e1, rh1, r1, q1⟩
  have r1 : d = c := r1
  subst r1
  exact k d H1 ⟨ρ, h1, al1, rs.evo e1, rh1, q1⟩
theorem tG.val {β γ : Type} {K : PySem.W.Frag} {R : Hp → List Addr → β → γ → Prop} {b : β} {c : γ} {σ : St} {H : Hp} {Q : γ → Hp → Prop} (q : tG K R W (fun _ h => .val b h) σ H Q) (r : ∀ H al, R H al b c) : Q c H := by
  obtain ⟨ρ, h, al, rs, rh, q⟩ := q
  exact PostG.val q rh (r _ _)
variable {ta tb : EM Bool} {ma mb : EM D} {rest : List Expr}
theorem dw_and1 (ha : DT X W a ta) : DW X W (.BoolOp .And [a] pos) ta := pw_and1 ha
theorem dw_or1 (ha : DT X W a ta) : DW X W (.BoolOp .Or [a] pos) ta := pw_or1 ha
theorem dw_and (ha : DT X W a ta) (hb : DW X W (.BoolOp .And (b :: rest) pos) tb) : DW X W (.BoolOp .And (a :: b :: rest) pos) (mAnd ta tb) := by
  refine (pw_and ha hb).imp fun σ H Q q => ?_
  refine dt_bind (t := fun _ _ _ => True) q fun k H1 q1 => ?_
  cases k with
  | true => exact iteT q1
  | false => exact iteF (tG.val q1 fun _ _ => rfl)
theorem dw_or (ha : DT X W a ta) (hb : DW X W (.BoolOp .Or (b :: rest) pos) tb) : DW X W (.BoolOp .Or (a :: b :: rest) pos) (mOr ta tb) := by
  refine (pw_or ha hb).imp fun σ H Q q => ?_
  refine dt_bind (t := fun _ _ _ => True) q fun k H1 q1 => ?_
  cases k with
  | true => exact iteT (tG.val q1 fun _ _ => rfl)
  | false => exact iteF q1
theorem dt_w (h : DW X W e ta) : DT X W e ta := h.pt
theorem dt_not (ha : DT X W a ta) : DT X W (.UnaryOp .Not a pos) (mNot ta) := by
  refine (pt_not ha).imp fun σ H Q q => ?_
  exact dt_bind (t := fun _ _ _ => True) q fun k H1 q1 => tG.val q1 fun _ _ => rfl
theorem de_if (hc : DT X W c ta) (ha : DE X W a ma) (hb : DE X W b mb) : DE X W (.IfExp c a b pos) (mIf ta ma mb) := by
  refine (pe_ifExp hc ha hb).imp fun σ H Q q => ?_
  refine dt_bind (t := fun _ _ _ => True) q fun k H1 q1 => ?_
  cases k with
  | true => exact iteT q1
  | false => exact iteF q1
/-- and, or as values: all but the last are truths -/
def mAndV (ma mb : EM D) : EM D := fun ρ h => (ma ρ h).bind (asB fun k h1 => if k = true then mb ρ h1 else .val (.bl false) h1)
def mOrV (ma mb : EM D) : EM D := fun ρ h => (ma ρ h).bind (asB fun k h1 => if k = true then .val (.bl true) h1 else mb ρ h1)
def mNotV (ma : EM D) : EM D := fun ρ h => (ma ρ h).bind (asB fun k h1 => .val (.bl (!k)) h1)
theorem de_bindB {f : DEnv → Bool → DH → Out D} {σ : St} {H : Hp} {Q : VK} {Q' : Bool → Hp → Prop} (q : tD X.K W (fun ρ h => (ma ρ h).bind (asB (f ρ))) σ H Q)
    (k : ∀ b H1, tD X.K W (fun ρ h => f ρ b h) σ H1 Q → Q' b H1) : tD X.K W ma σ H (fun x H1 => ∃ c, x = .bl c ∧ Q' c H1) := by
  obtain ⟨ρ, h, al, rs, rh, q⟩ := q
  refine ⟨ρ, h, al, rs, rh, (PostG.bind q).imp ?_⟩
  rintro c H1 ⟨d, h1, al1, e1, rh1, r1, q1⟩
  cases r1 with
  | bl => exact ⟨_, rfl, k _ H1 ⟨ρ, h1, al1, rs.evo e1, rh1, q1⟩⟩
  | _ => exact q1.elim
theorem de_one {op} {m : EM D} (h : DE X W a m) : DE X W (.BoolOp op [a] pos) m := pe_one h
theorem de_and (ha : DE X W a ma) (hb : DE X W (.BoolOp .And (b :: rest) pos) mb) : DE X W (.BoolOp .And (a :: b :: rest) pos) (mAndV ma mb) := by
  refine (pe_and ha hb).imp fun σ H Q q => ?_
  refine de_bindB q fun k H1 q1 => ?_
  cases k with
  | true => exact iteT q1
  | false => exact iteF (tG.val q1 fun _ _ => .bl)
theorem de_or (ha : DE X W a ma) (hb : DE X W (.BoolOp .Or (b :: rest) pos) mb) : DE X W (.BoolOp .Or (a :: b :: rest) pos) (mOrV ma mb) := by
  refine (pe_or ha hb).imp fun σ H Q q => ?_
  refine de_bindB q fun k H1 q1 => ?_
  cases k with
  | true => exact iteT (tG.val q1 fun _ _ => .bl)
  | false => exact iteF q1
theorem de_not (ha : DE X W a ma) : DE X W (.UnaryOp .Not a pos) (mNotV ma) := by
  refine (pe_not ha).imp fun σ H Q q => ?_
  exact de_bindB q fun k H1 q1 => tG.val q1 fun _ _ => .bl

/-! ### argument lists, displays, calls -/
def mNil : EM (List D) := fun _ h => .val [] h
def mCons (ma : EM D) (mr : EM (List D)) : EM (List D) := fun ρ h => (ma ρ h).bind fun x h1 => (mr ρ h1).bind fun xs h2 => .val (x :: xs) h2
variable {mr : EM (List D)}
theorem da_nil : DA X W [] mNil := pa_nil.imp fun σ H Q ⟨ρ, h, al, rs, rh, q⟩ => PostG.val (R := RVs X.K) q rh .nil
theorem da_cons (ha : DE X W e ma) (hr : DA X W es mr) (hs : starEach (e :: es) X.env = (false, eval e X.env) :: starEach es X.env := by rfl) : DA X W (e :: es) (mCons ma mr) := by
  refine (pa_cons ha hr hs).imp fun σ H Q ⟨ρ, h, al, rs, rh, q⟩ => ?_
  refine ⟨ρ, h, al, rs, rh, (PostG.bind q).imp ?_⟩
  rintro x H1 ⟨d, h1, al1, e1, rh1, r1, q1⟩
  refine ⟨ρ, h1, al1, rs.evo e1, rh1, (PostG.bind q1).imp ?_⟩
  rintro xs H2 ⟨ds, h2, al2, e2, rh2, r2, q2⟩
  exact PostG.val (R := RVs X.K) q2 rh2 (.cons (r1.evo e2) r2)
def mTup (mr : EM (List D)) : EM D := fun ρ h => (mr ρ h).bind fun xs h1 => if xs.length ≤ sizeLine then .val (.tup xs) h1 else .bad
def mLst (mr : EM (List D)) : EM D := fun ρ h => (mr ρ h).bind fun xs h1 => if xs.length ≤ sizeLine then .val (.ref h1.length) (h1 ++ [.lst xs]) else .bad
theorem PostG.newTup {K : PySem.W.Frag} {Wx : Value → Option Addr → Hp → Prop} {H : Hp} {al : List Addr} {h : DH} {ds : List D} {vs : List V} {Q : VK} (q : PostG K (RV K) Wx H al (.val (.tup ds) h) Q) (rh : RH K H al h) (r : RVs K H al ds vs) {p : Addr} (hp : H p = none) : Q (.ref p) (upd H p (.tup vs)) := by
  have ev : Evo K H al (upd H p (.tup vs)) al := Evo.aside hp
  refine q _ al _ ev ⟨rh.len, fun n o a e1 e2 => (rh.obj n o a e1 e2).evo ev fun u z => by rw [upd_ne (ne_of_none z hp)]; exact z, rh.uniq⟩ (.tup (.inl (.inl upd_same)) (r.evo ev))
theorem PostG.newLst {K : PySem.W.Frag} {Wx : Value → Option Addr → Hp → Prop} {H : Hp} {al : List Addr} {h : DH} {ds : List D} {vs : List V} {Q : VK} (q : PostG K (RV K) Wx H al (.val (.ref h.length) (h ++ [.lst ds])) Q) (rh : RH K H al h) (r : RVs K H al ds vs) {p : Addr} (hp : H p = none) : Q (.ref p) (upd H p (.lst vs)) := by
  have ev : Evo K H al (upd H p (.lst vs)) (al ++ [p]) := Evo.new hp
  refine q _ (al ++ [p]) _ ev (rh.new hp ⟨vs, upd_same, r.evo ev⟩) (.ref ?_)
  rw [rh.len, List.getElem?_append_right (Nat.le_refl _)]
  simp
theorem de_tup {x1} (ha : DA X W es mr) : DE X W (.Tuple es x1 pos) (mTup mr) := by
  refine (pe_tup ha).imp fun σ H Q ⟨ρ, h, al, rs, rh, q⟩ => ?_
  refine ⟨ρ, h, al, rs, rh, (PostG.bind q).imp ?_⟩
  rintro xs H1 ⟨ds, h1, al1, e1, rh1, r1, q1⟩
  by_cases hz : ds.length ≤ sizeLine
  · rw [if_pos hz] at q1
    exact ⟨by rw [← r1.length]; exact hz, fun p hp => PostG.newTup q1 rh1 r1 hp⟩
  · rw [if_neg hz] at q1; exact q1.elim
theorem de_lst (ha : DA X W es mr) : DE X W (.List es pos) (mLst mr) := by
  refine (pe_lst ha).imp fun σ H Q ⟨ρ, h, al, rs, rh, q⟩ => ?_
  refine ⟨ρ, h, al, rs, rh, (PostG.bind q).imp ?_⟩
  rintro xs H1 ⟨ds, h1, al1, e1, rh1, r1, q1⟩
  by_cases hz : ds.length ≤ sizeLine
  · rw [if_pos hz] at q1
    exact ⟨by rw [← r1.length]; exact hz, fun p hp => PostG.newLst q1 rh1 r1 hp⟩
  · rw [if_neg hz] at q1; exact q1.elim
def mCall {β : Type} (F : List D → DH → Out β) (mr : EM (List D)) : EM β := fun ρ h => (mr ρ h).bind F
def CallC (K : PySem.W.Frag) (r : List V → Hp → VK → Prop) (g : List D → DH → Out D) : Prop :=
  ∀ (Wx : Value → Option Addr → Hp → Prop) (H : Hp) (al : List Addr) (h : DH) (xs : List V) (ds : List D) (Q : VK), RH K H al h → RVs K H al ds xs → PostG K (RV K) Wx H al (g ds h) Q → r xs H Q
theorem call_imp {r : List V → Hp → VK → Prop} {g : List D → DH → Out D} (hc : CallC X.K r g) (σ : St) (H : Hp) (Q : VK) (q : tD X.K W (mCall g mr) σ H Q) : tCB r (tAr X.K W mr) σ H Q := by
  obtain ⟨ρ, h, al, rs, rh, q⟩ := q
  refine ⟨ρ, h, al, rs, rh, (PostG.bind q).imp ?_⟩
  rintro xs H1 ⟨ds, h1, al1, e1, rh1, r1, q1⟩
  exact hc _ H1 al1 h1 xs ds Q rh1 r1 q1
theorem de_callB {id : String} {x : Str} {r : List V → Hp → VK → Prop} {g : List D → DH → Out D} (hr : CallR X (.builtin id) r) (hc : CallC X.K r g) (hg : Gl X x) (hm : X.mg x = none) (hv : bootBuiltins x = some (.builtin id)) (ha : DA X W (e :: es) mr) (hn : x ≠ "__name__" := by decide) (hdb : (x == ("__debug__" : Str)) = false := by decide)
    (he : starEach (e :: es) X.env = (false, eval e X.env) :: starEach es X.env := by rfl) (hpl : (backTo pos (starEach es X.env)).any (·.1) = false := by rfl) : DE X W (.Call (.Name x p) (e :: es) [] pos) (mCall g mr) :=
  (pe_callB hr hg hm hv ha hn hdb he hpl).imp fun σ H Q q => call_imp hc σ H Q q
theorem de_callTy {T : String} {x : Str} {r : List V → Hp → VK → Prop} {g : List D → DH → Out D} (hr : CallR X (.type T) r) (hc : CallC X.K r g) (hg : Gl X x) (hm : X.mg x = none) (hv : bootBuiltins x = some (.type T)) (ha : DA X W (e :: es) mr) (hn : x ≠ "__name__" := by decide) (hdb : (x == ("__debug__" : Str)) = false := by decide)
    (he : starEach (e :: es) X.env = (false, eval e X.env) :: starEach es X.env := by rfl) (hpl : (backTo pos (starEach es X.env)).any (·.1) = false := by rfl) : DE X W (.Call (.Name x p) (e :: es) [] pos) (mCall g mr) :=
  (pe_callTy hr hg hm hv ha hn hdb he hpl).imp fun σ H Q q => call_imp hc σ H Q q

def LenM (mr : EM (List D)) (n : Nat) : Prop := ∀ ρ h ds h', mr ρ h = .val ds h' → ds.length = n
theorem ln_nil : LenM mNil 0 := fun ρ h ds h' e => by cases e; rfl
theorem ln_cons {ma : EM D} {n : Nat} (hr : LenM mr n) : LenM (mCons ma mr) (n + 1) := fun ρ h ds h' e => by
  unfold mCons at e
  cases e1 : ma ρ h with
  | bad => rw [e1] at e; cases e
  | exc x h1 => rw [e1] at e; cases e
  | val d h1 =>
    rw [e1] at e
    simp only [Out.bind_val] at e
    cases e2 : mr ρ h1 with
    | bad => rw [e2] at e; cases e
    | exc x h1 => rw [e2] at e; cases e
    | val ds2 h2 =>
      rw [e2] at e
      simp only [Out.bind_val] at e
      cases e
      rw [List.length_cons, hr _ _ _ _ e2]

/-! ### defs of the text -/
def spD (K : PySem.W.Frag) (n : Nat) (F : List D → DH → Out D) : Sp := fun vs H Q E => ∃ ds h al, vs.length = n ∧ RVs K H al ds vs ∧ RH K H al h ∧ PostG K (RV K) E H al (F ds h) Q
structure FnD (P : Program) (w : World) (K : PySem.W.Frag) (mg : Str → Option Value) (base : Heap) (k : Nat) (x : Str) (ps : List Str) (F : List D → DH → Out D) : Prop where
  ex : ∃ f fd, FnOk P w K mg base (L2.CX P w) k f fd ps (spD K ps.length F) ∧ Binds K fd ps [] ∧ PySem.W.keepIn K (.ref f) = true ∧ mg x = some (.ref f)
theorem FnD.mono {P : Program} {w : World} {K : PySem.W.Frag} {mg : Str → Option Value} {base : Heap} {k j : Nat} {x : Str} {ps : List Str} {F : List D → DH → Out D} (h : FnD P w K mg base k x ps F) (hk : k ≤ j) : FnD P w K mg base j x ps F := by
  obtain ⟨f, fd, h1, h2, h3, h4⟩ := h.ex
  exact ⟨f, fd, h1.mono hk, h2, h3, h4⟩
theorem de_call {k : Nat} {x : Str} {ps : List Str} {F : List D → DH → Out D} (f : FnD X.prog X.w X.K X.mg X.base k x ps F) (hr : Room k X.A) (tk : Takes X W) (hg : Gl X x) (ha : DA X W (e :: es) mr) (hlen : LenM mr ps.length) (hdb : (x == ("__debug__" : Str)) = false := by decide)
    (he : starEach (e :: es) X.env = (false, eval e X.env) :: starEach es X.env := by rfl) (hpl : (backTo pos (starEach es X.env)).any (·.1) = false := by rfl) :
    DE X W (.Call (.Name x p) (e :: es) [] pos) (mCall F mr) := by
  obtain ⟨fa, fd, h1, h2, h3, h4⟩ := f.ex
  refine (pe_callS h1 hr hg h4 h3 h2 (fun σ => passAt tk σ) ha hdb he hpl).imp fun σ H Q ⟨ρ, h, al, rs, rh, q⟩ => ?_
  refine ⟨ρ, h, al, rs, rh, ?_⟩
  cases e0 : mr ρ h with
  | bad => unfold mCall at q; rw [e0] at q; exact q
  | exc x h' => unfold mCall at q; rw [e0] at q; exact q
  | val ds0 h0 =>
    have q' : PostG X.K (RV X.K) (fun c d H' => W c d σ H') H al (F ds0 h0) Q := by
      unfold mCall at q; rw [e0] at q; exact q
    intro H1 al1 xs e1 rh1 r1
    refine ⟨ds0, h0, al1, ?_, r1, rh1, PostG.evo e1 q'⟩
    rw [← r1.length]
    exact hlen ρ h ds0 h0 e0
end
end DL

namespace DL
open PySem PySem.Spec PyProof.Rows L2

/-! ### what comes of a statement -/
inductive SOut where
  | nx (ρ : DEnv) (h : DH) | brk (ρ : DEnv) (h : DH) | cnt (ρ : DEnv) (h : DH) | ret (d : D) (h : DH) | exc (x : DX) (ρ : DEnv) (h : DH) | bad
abbrev SM := DEnv → DH → SOut
def Out.toS {β : Type} (o : Out β) (ρ : DEnv) (f : β → DH → SOut) : SOut := match o with
  | .val b h => f b h
  | .exc x h => .exc x ρ h
  | .bad => .bad
@[simp] theorem Out.toS_val {β : Type} {b : β} {h : DH} {ρ : DEnv} {f : β → DH → SOut} : (Out.val b h).toS ρ f = f b h := rfl
@[simp] theorem Out.toS_exc {β : Type} {x : DX} {h : DH} {ρ : DEnv} {f : β → DH → SOut} : (Out.exc x h).toS ρ f = .exc x ρ h := rfl
@[simp] theorem Out.toS_bad {β : Type} {ρ : DEnv} {f : β → DH → SOut} : (Out.bad).toS ρ f = .bad := rfl
def SOut.thn (o : SOut) (f : SM) : SOut := match o with
  | .nx ρ h => f ρ h
  | o => o
@[simp] theorem SOut.thn_nx {ρ : DEnv} {h : DH} {f : SM} : (SOut.nx ρ h).thn f = f ρ h := rfl
@[simp] theorem SOut.thn_brk {ρ : DEnv} {h : DH} {f : SM} : (SOut.brk ρ h).thn f = .brk ρ h := rfl
@[simp] theorem SOut.thn_cnt {ρ : DEnv} {h : DH} {f : SM} : (SOut.cnt ρ h).thn f = .cnt ρ h := rfl
@[simp] theorem SOut.thn_ret {d : D} {h : DH} {f : SM} : (SOut.ret d h).thn f = .ret d h := rfl
@[simp] theorem SOut.thn_exc {x : DX} {ρ : DEnv} {h : DH} {f : SM} : (SOut.exc x ρ h).thn f = .exc x ρ h := rfl
@[simp] theorem SOut.thn_bad {f : SM} : SOut.bad.thn f = .bad := rfl
section
variable (K : PySem.W.Frag)
def PostS (W : WX) (H : Hp) (al : List Addr) (o : SOut) (D : Ends) : Prop := match o with
  | .nx ρ h => ∀ H' al' σ', Evo K H al H' al' → RH K H' al' h → RS K H' al' ρ σ' → D.nx σ' H'
  | .brk ρ h => ∀ H' al' σ', Evo K H al H' al' → RH K H' al' h → RS K H' al' ρ σ' → D.bk σ' H'
  | .cnt ρ h => ∀ H' al' σ', Evo K H al H' al' → RH K H' al' h → RS K H' al' ρ σ' → D.ct σ' H'
  | .ret d h => ∀ H' al' v, Evo K H al H' al' → RH K H' al' h → RV K H' al' d v → D.rt v H'
  | .exc x ρ h => ∀ H' al' σ' dd, Evo K H al H' al' → RH K H' al' h → RS K H' al' ρ σ' → RX K H' al' x dd → W x.cls dd σ' H'
  | .bad => False
def tS (W : WX) (m : SM) : TS := fun D σ H => ∃ ρ h al, RS K H al ρ σ ∧ RH K H al h ∧ PostS K W H al (m ρ h) D
end
abbrev DS (X : Cx) (W : WX) (st : Stmt) (m : SM) : Prop := PS X st (tS X.K W m)
abbrev DSs (X : Cx) (W : WX) (st : List Stmt) (m : SM) : Prop := PSs X st (tS X.K W m)
section
variable {K : PySem.W.Frag} {W : WX} {H H1 : Hp} {al al1 : List Addr}
theorem PostS.evo {o : SOut} {D : Ends} (e : Evo K H al H1 al1) (p : PostS K W H al o D) : PostS K W H1 al1 o D := by
  cases o with
  | bad => exact p
  | nx ρ h => exact fun H' al' c e' => p H' al' c (e.trans e')
  | brk ρ h => exact fun H' al' c e' => p H' al' c (e.trans e')
  | cnt ρ h => exact fun H' al' c e' => p H' al' c (e.trans e')
  | ret d h => exact fun H' al' c e' => p H' al' c (e.trans e')
  | exc x ρ h => exact fun H' al' c dd e' => p H' al' c dd (e.trans e')
theorem PostS.thn {o : SOut} {f : SM} {D : Ends} (p : PostS K W H al (o.thn f) D) : PostS K W H al o { D with nx := tS K W f D } := by
  cases o with
  | nx ρ h => exact fun H' al' σ' e rh rs => ⟨ρ, h, al', rs, rh, PostS.evo (o := f ρ h) e p⟩
  | bad => exact p
  | brk ρ h => exact p
  | cnt ρ h => exact p
  | ret d h => exact p
  | exc x ρ h => exact p
/-- an expression within a statement -/
theorem PostG.toS {β γ : Type} {R : Hp → List Addr → β → γ → Prop} {o : Out β} {ρ : DEnv} {σ : St} {f : β → DH → SOut} {D : Ends} (rs : RS K H al ρ σ) (p : PostS K W H al (o.toS ρ f) D) :
    PostG K R (fun c d H' => W c d σ H') H al o (fun c H1 => ∃ b h1 al1, Evo K H al H1 al1 ∧ RH K H1 al1 h1 ∧ R H1 al1 b c ∧ PostS K W H1 al1 (f b h1) D) := by
  cases o with
  | val b h => exact fun H' al' c e rh r => ⟨b, h, al', e, rh, r, PostS.evo (o := f b h) e p⟩
  | exc x h => exact fun H' al' dd e rh rx => p H' al' σ dd e rh (rs.evo e) rx
  | bad => exact p
end

/-! ### blocks -/
def sNil : SM := fun ρ h => .nx ρ h
def sSeq (m n : SM) : SM := fun ρ h => (m ρ h).thn n
section
variable {X : Cx} {W : WX} {a b c e : Expr} {es : List Expr} {st : Stmt} {rest sts : List Stmt} {pos p pos' : Pos} {m n : SM} {ma mb : EM D} {mt : EM Bool}
theorem dss_nil : DSs X W [] sNil := pss_nil.imp fun D σ H ⟨ρ, h, al, rs, rh, q⟩ => q H al σ Evo.refl rh rs
theorem dss_cons (h1 : DS X W st m) (h2 : DSs X W rest n) : DSs X W (st :: rest) (sSeq m n) :=
  (pss_cons h1 h2).imp fun D σ H ⟨ρ, h, al, rs, rh, q⟩ => ⟨ρ, h, al, rs, rh, PostS.thn q⟩
theorem dss_one (h1 : DS X W st m) : DSs X W [st] m := pss_one h1
theorem ds_pass : DS X W (.Pass pos) sNil := ps_pass.imp fun D σ H ⟨ρ, h, al, rs, rh, q⟩ => q H al σ Evo.refl rh rs
def sBrk : SM := fun ρ h => .brk ρ h
def sCnt : SM := fun ρ h => .cnt ρ h
theorem ds_break : DS X W (.Break pos) sBrk := ps_break.imp fun D σ H ⟨ρ, h, al, rs, rh, q⟩ => q H al σ Evo.refl rh rs
theorem ds_continue : DS X W (.Continue pos) sCnt := ps_continue.imp fun D σ H ⟨ρ, h, al, rs, rh, q⟩ => q H al σ Evo.refl rh rs
theorem ds_doc {x j} : DS X W (.Expr (.Constant (.str x) j pos) pos') sNil := ps_doc.imp fun D σ H ⟨ρ, h, al, rs, rh, q⟩ => q H al σ Evo.refl rh rs
def sExpr (ma : EM D) : SM := fun ρ h => (ma ρ h).toS ρ fun _ h1 => .nx ρ h1
theorem ds_expr (he : DE X W e ma) (hs : swapsWith e none pos.line X.env = pure false := by rfl) : DS X W (.Expr e pos) (sExpr ma) := by
  refine (ps_expr he hs).imp fun D σ H ⟨ρ, h, al, rs, rh, q⟩ => ⟨ρ, h, al, rs, rh, (PostG.toS rs q).imp ?_⟩
  rintro x H1 ⟨d, h1, al1, e1, rh1, r1, q1⟩
  exact q1 H1 al1 σ Evo.refl rh1 (rs.evo e1)
def sRet (ma : EM D) : SM := fun ρ h => (ma ρ h).toS ρ fun d h1 => .ret d h1
theorem ds_ret (he : DE X W e ma) : DS X W (.Return (some e) pos) (sRet ma) := by
  refine (ps_ret he).imp fun D σ H ⟨ρ, h, al, rs, rh, q⟩ => ⟨ρ, h, al, rs, rh, (PostG.toS rs q).imp ?_⟩
  rintro x H1 ⟨d, h1, al1, e1, rh1, r1, q1⟩
  exact q1 H1 al1 x Evo.refl rh1 r1
def sRetN : SM := fun ρ h => .ret .non h
theorem ds_retN : DS X W (.Return none pos) sRetN := ps_retN.imp fun D σ H ⟨ρ, h, al, rs, rh, q⟩ => q H al .non Evo.refl rh .non
def sIf (mt : EM Bool) (m n : SM) : SM := fun ρ h => (mt ρ h).toS ρ fun k h1 => if k = true then m ρ h1 else n ρ h1
theorem ds_if {A B : List Stmt} (hc : DT X W c mt) (ha : DSs X W A m) (hb : DSs X W B n) : DS X W (.If c A B pos) (sIf mt m n) := by
  refine (ps_if hc ha hb).imp fun D σ H ⟨ρ, h, al, rs, rh, q⟩ => ⟨ρ, h, al, rs, rh, (PostG.toS rs q).imp ?_⟩
  rintro k H1 ⟨d, h1, al1, e1, rh1, r1, q1⟩
  have r1 : d = k := r1
  subst r1
  cases d with
  | true => exact iteT ⟨ρ, h1, al1, rs.evo e1, rh1, by simpa using q1⟩
  | false => exact iteF ⟨ρ, h1, al1, rs.evo e1, rh1, by simpa using q1⟩

/-! ### targets -/
abbrev GM := D → DEnv → DH → SOut
/-- the reading of a target by the layer of data -/
def DG (X : Cx) (W : WX) (tg : Expr) (g : GM) : Prop := ∃ t : TG, PG X tg t ∧ ∀ (H : Hp) (al : List Addr) (ρ : DEnv) (σ : St) (h : DH) (d : D) (v : V) (D' : Ends), RS X.K H al ρ σ → RH X.K H al h → RV X.K H al d v → PostS X.K W H al (g d ρ h) D' →
  t v σ H D'.nx
def gSet (i : Nat) : GM := fun d ρ h => .nx (ρ.set i (some d)) h
theorem dg_name (i : Nat) {x : Str} (hN : X.N.Nodup) (hi : X.N[i]? = some x := by rfl) (hx : Loc X.env.scope x := by first | exact Or.inl rfl | exact Or.inr rfl) (hf : X.fn x = true ∨ X.env.scope.names.lookup x = some .local := by first | exact .inl rfl | exact .inr rfl | assumption) : DG X W (.Name x pos) (gSet i) :=
  ⟨_, pg_name hN hi hx hf, fun H al ρ σ h d v D' rs rh r q => q H al _ Evo.refl rh (rs.set i r)⟩
def DGs (X : Cx) (W : WX) (tgs : List Expr) (g : List D → DEnv → DH → SOut) : Prop := ∃ t : TGs, PGs X tgs t ∧ ∀ (H : Hp) (al : List Addr) (ρ : DEnv) (σ : St) (h : DH) (d : List D) (v : List V) (D' : Ends), RS X.K H al ρ σ → RH X.K H al h → RVs X.K H al d v → PostS X.K W H al (g d ρ h) D' →
  t v σ H D'.nx
def gsNil : List D → DEnv → DH → SOut := fun ds ρ h => match ds with
  | [] => .nx ρ h
  | _ => .bad
/-- simple targets alone: the first is a name (or a tuple of names) -/
def gsCons (g : GM) (gr : List D → DEnv → DH → SOut) : List D → DEnv → DH → SOut := fun ds ρ h => match ds with
  | d :: r => (g d ρ h).thn (gr r)
  | _ => .bad
theorem dgs_nil : DGs X W [] gsNil := ⟨_, pgs_nil, fun H al ρ σ h d v D' rs rh r q => by
  cases r with
  | nil => exact ⟨rfl, q H al σ Evo.refl rh rs⟩
  | cons _ _ => exact q.elim⟩
theorem dgs_cons {g : GM} {gr : List D → DEnv → DH → SOut} (h1 : DG X W e g) (h2 : DGs X W es gr) (hs : (assignEach (e :: es) X.env).map (·.2) = assign e X.env :: (assignEach es X.env).map (·.2) := by rfl) : DGs X W (e :: es) (gsCons g gr) := by
  obtain ⟨t, p1, k1⟩ := h1
  obtain ⟨u, p2, k2⟩ := h2
  refine ⟨_, pgs_cons p1 p2 hs, fun H al ρ σ h d v D' rs rh r q => ?_⟩
  cases r with
  | nil => exact q.elim
  | cons r rr =>
    rename_i d v ds vs
    refine ⟨v, vs, rfl, ?_⟩
    refine k1 H al ρ σ h d v { D' with nx := fun σ' H' => u vs σ' H' D'.nx } rs rh r ?_
    have q : PostS X.K W H al ((g d ρ h).thn (gr ds)) D' := q
    cases e : g d ρ h with
    | nx ρ' h' =>
      rw [e] at q
      exact fun H' al' σ' e' rh' rs' => k2 H' al' ρ' σ' h' ds vs D' rs' rh' (rr.evo e') (PostS.evo e' q)
    | bad => rw [e] at q; exact q
    | brk ρ' h' => rw [e] at q; exact q
    | cnt ρ' h' => rw [e] at q; exact q
    | ret d' h' => rw [e] at q; exact q
    | exc x ρ' h' => rw [e] at q; exact q
def gTupD (n : Nat) (gr : List D → DEnv → DH → SOut) : GM := fun d ρ h => match d with
  | .tup ds => if ds.length = n then gr ds ρ h else .bad
  | _ => .bad
theorem dg_tup {k : Nat} {n : Nat} {gr : List D → DEnv → DH → SOut} (hc : X.calm = true) (h : DGs X W es gr) (hn : (assignEach es X.env).length = n := by rfl) (hst : (assignEach es X.env).findIdx? (·.1) = none := by rfl) : DG X W (.Tuple es k pos) (gTupD n gr) := by
  obtain ⟨t, p1, k1⟩ := h
  refine ⟨_, pg_tup hc p1 hn hst, fun H al ρ σ h d v D' rs rh r q => ?_⟩
  cases r with
  | tup hs hr =>
    rename_i a vs ds
    have q : PostS X.K W H al (if ds.length = n then gr ds ρ h else .bad) D' := q
    by_cases hl : ds.length = n
    · rw [if_pos hl] at q
      exact ⟨a, vs, rfl, hs, by rw [← hr.length]; exact hl, k1 H al ρ σ h ds vs D' rs rh hr q⟩
    · rw [if_neg hl] at q; exact q.elim
  | _ => exact q.elim

/-! ### assignments -/
def sAsg (ma : EM D) (g : GM) : SM := fun ρ h => (ma ρ h).toS ρ fun d h1 => g d ρ h1
theorem ds_asg {tg : Expr} {g : GM} (he : DE X W e ma) (hg : DG X W tg g) (hs : swapsWithSole [tg] e pos.line X.env = pure false := by rfl) (hw : swappedStores [tg] e X.env = pure none := by rfl) (h1 : (assignEach [tg] X.env).map (·.2) = [assign tg X.env] := by rfl) : DS X W (.Assign [tg] e pos) (sAsg ma g) := by
  obtain ⟨t, p1, k1⟩ := hg
  refine (ps_asg he p1 hs hw h1).imp fun D σ H ⟨ρ, h, al, rs, rh, q⟩ => ⟨ρ, h, al, rs, rh, (PostG.toS rs q).imp ?_⟩
  rintro x H1 ⟨d, h1, al1, e1, rh1, r1, q1⟩
  exact k1 H1 al1 ρ σ h1 d x D (rs.evo e1) rh1 r1 q1
theorem ds_set (i : Nat) {x : Str} (hN : X.N.Nodup) (he : DE X W e ma) (hi : X.N[i]? = some x := by rfl) (hx : Loc X.env.scope x := by first | exact Or.inl rfl | exact Or.inr rfl) (hs : swapsWith e (some (.Name x pos')) pos.line X.env = pure false := by rfl) (hf : X.fn x = true ∨ X.env.scope.names.lookup x = some .local := by first | exact .inl rfl | exact .inr rfl | assumption) :
    DS X W (.Assign [.Name x pos'] e pos) (sAsg ma (gSet i)) := by
  refine (ps_set hN hi hx he hs hf).imp fun D σ H ⟨ρ, h, al, rs, rh, q⟩ => ⟨ρ, h, al, rs, rh, (PostG.toS rs q).imp ?_⟩
  rintro y H1 ⟨d, h1, al1, e1, rh1, r1, q1⟩
  exact q1 H1 al1 _ Evo.refl rh1 ((rs.evo e1).set i r1)
/-- a, b = e1, e2 of two local names -/
def sPar (i j : Nat) (mr : EM (List D)) : SM := fun ρ h => (mr ρ h).toS ρ fun ds h1 => match ds with
  | [d, e] => .nx ((ρ.set i (some d)).set j (some e)) h1
  | _ => .bad
theorem ds_par {i j : Nat} {mr : EM (List D)} (hp : PS X st (tPar i j (tAr X.K W mr))) : DS X W st (sPar i j mr) := by
  refine hp.imp fun D σ H ⟨ρ, h, al, rs, rh, q⟩ => ⟨ρ, h, al, rs, rh, (PostG.toS rs q).imp ?_⟩
  rintro vs H1 ⟨ds, h1, al1, e1, rh1, r1, q1⟩
  cases r1 with
  | nil => exact q1.elim
  | cons r1 t =>
    cases t with
    | nil => exact q1.elim
    | cons r2 t =>
      cases t with
      | cons _ _ => exact q1.elim
      | nil => exact ⟨_, _, rfl, q1 H1 al1 _ Evo.refl rh1 (((rs.evo e1).set i r1).set j r2)⟩
/-- x += e of a local name -/
def IpC (K : PySem.W.Frag) (r : TIp) (g : D → D → DH → Out D) : Prop := OpC K r g
def sAug (i : Nat) (g : D → D → DH → Out D) (ma : EM D) : SM := fun ρ h => match ρ.getD i none with
  | some d => (ma ρ h).toS ρ fun e h1 => (g d e h1).toS ρ fun z h2 => .nx (ρ.set i (some z)) h2
  | none => .bad
theorem getD_some {ρ : DEnv} {i : Nat} {d : D} (e : ρ.getD i none = some d) : ρ[i]? = some (some d) := by
  rw [List.getD_eq_getElem?_getD] at e
  cases e2 : ρ[i]? with
  | none => rw [e2] at e; cases e
  | some o => rw [e2] at e; simp at e; rw [e]
theorem ds_aug (i : Nat) {x : Str} {op : Operator} {ti : TIp} {g : D → D → DH → Out D} (hN : X.N.Nodup) (he : DE X W e ma) (ho : PIp X op ti) (hc : IpC X.K ti g) (hi : X.N[i]? = some x := by rfl) (hx : Loc X.env.scope x := by first | exact Or.inl rfl | exact Or.inr rfl) (hf : X.fn x = true ∨ X.env.scope.names.lookup x = some .local := by first | exact .inl rfl | exact .inr rfl | assumption) :
    DS X W (.AugAssign (.Name x pos') op e pos) (sAug i g ma) := by
  refine (ps_aug hN hi hx he ho hf).imp fun D σ H ⟨ρ, h, al, rs, rh, q⟩ => ?_
  unfold sAug at q
  cases e0 : ρ.getD i none with
  | none => rw [e0] at q; exact q.elim
  | some d =>
    rw [e0] at q
    obtain ⟨v, e2, r⟩ := rs.get (getD_some e0)
    refine ⟨v, e2, ρ, h, al, rs, rh, (PostG.toS rs q).imp ?_⟩
    rintro y H1 ⟨e, h1, al1, e1, rh1, r1, q1⟩
    refine hc (fun c d H' => W c d σ H') H1 al1 h1 v y d e _ rh1 (r.evo e1) r1 ((PostG.toS (rs.evo e1) q1).imp ?_)
    rintro z H2 ⟨f, h2, al2, e3, rh2, r2, q2⟩
    exact q2 H2 al2 _ Evo.refl rh2 (((rs.evo e1).evo e3).set i r2)

/-! ### while -/
def whileN (mt : EM Bool) (m : SM) : Nat → SM
  | 0 => fun _ _ => .bad
  | n + 1 => fun ρ h => (mt ρ h).toS ρ fun k h1 => if k = true then
      (match m ρ h1 with
        | .nx ρ2 h2 => whileN mt m n ρ2 h2
        | .cnt ρ2 h2 => whileN mt m n ρ2 h2
        | .brk ρ2 h2 => .nx ρ2 h2
        | o => o)
    else .nx ρ h1
open Classical in
/-- the run of a while, whatever its turns are -/
noncomputable def sWhile (mt : EM Bool) (m : SM) : SM := fun ρ h => if x : ∃ n, whileN mt m n ρ h ≠ .bad then whileN mt m x.choose ρ h else .bad
theorem whileN_mono {mt : EM Bool} {m : SM} : ∀ (n k : Nat) (ρ : DEnv) (h : DH), whileN mt m n ρ h ≠ .bad → whileN mt m (n + k) ρ h = whileN mt m n ρ h
  | 0, _, _, _, x => (x rfl).elim
  | n + 1, k, ρ, h, x => by
    rw [Nat.add_right_comm]
    unfold whileN at x ⊢
    cases e : mt ρ h with
    | bad => rfl
    | exc _ _ => rfl
    | val b h1 =>
      rw [e] at x
      simp only [Out.toS_val] at x ⊢
      cases b with
      | false => rfl
      | true =>
        simp only [if_pos] at x ⊢
        cases e2 : m ρ h1 with
        | nx ρ2 h2 => rw [e2] at x; exact whileN_mono n k ρ2 h2 x
        | cnt ρ2 h2 => rw [e2] at x; exact whileN_mono n k ρ2 h2 x
        | _ => rfl
theorem sWhile_of {mt : EM Bool} {m : SM} {n : Nat} {ρ : DEnv} {h : DH} (x : whileN mt m n ρ h ≠ .bad) : sWhile mt m ρ h = whileN mt m n ρ h := by
  have z : ∃ n, whileN mt m n ρ h ≠ .bad := ⟨n, x⟩
  unfold sWhile
  rw [dif_pos z]
  have y := z.choose_spec
  rcases Nat.le_total n z.choose with l | l
  · obtain ⟨k, e⟩ := Nat.exists_eq_add_of_le l
    rw [e]; exact whileN_mono n k ρ h x
  · obtain ⟨k, e⟩ := Nat.exists_eq_add_of_le l
    have := whileN_mono z.choose k ρ h y
    rw [← e] at this
    exact this.symm
theorem sWhile_eq {mt : EM Bool} {m : SM} {n : Nat} {ρ : DEnv} {h : DH} {o : SOut} (e : whileN mt m n ρ h = o) (x : o ≠ .bad) : sWhile mt m ρ h = o := by
  rw [← e] at x ⊢
  exact sWhile_of x
theorem ds_while {body : List Stmt} (hp : PassesOwn (model X.prog X.w) X.A X.env X.xe) (hc : DT X W c mt) (hb : DSs X W body m) : DS X W (.While c body [] pos) (sWhile mt m) := by
  refine (ps_while hp hc hb).imp fun D σ H ⟨ρ, h, al, rs, rh, q⟩ => ?_
  unfold sWhile at q
  by_cases z : ∃ n, whileN mt m n ρ h ≠ .bad
  · rw [dif_pos z] at q
    generalize z.choose = n at q
    refine ⟨fun n σ H => ∃ ρ h al, RS X.K H al ρ σ ∧ RH X.K H al h ∧ PostS X.K W H al (whileN mt m n ρ h) D, ⟨n, ρ, h, al, rs, rh, q⟩, ?_⟩
    rintro n σ H ⟨ρ, h, al, rs, rh, q⟩
    cases n with
    | zero => exact q.elim
    | succ n =>
      unfold whileN at q
      refine ⟨ρ, h, al, rs, rh, (PostG.toS rs q).imp ?_⟩
      rintro k H1 ⟨d, h1, al1, e1, rh1, r1, q1⟩
      have r1 : d = k := r1
      subst r1
      cases d with
      | false => exact iteF (q1 H1 al1 σ Evo.refl rh1 (rs.evo e1))
      | true =>
        refine iteT ⟨fun σ H => ∃ ρ h al, RS X.K H al ρ σ ∧ RH X.K H al h ∧ PostS X.K W H al (whileN mt m n ρ h) D, fun σ' H' z => ⟨n, Nat.lt_succ_self _, z⟩, ρ, h1, al1, rs.evo e1, rh1, ?_⟩
        simp only [if_pos] at q1
        cases e2 : m ρ h1 with
        | nx ρ2 h2 => rw [e2] at q1; exact fun H' al' σ' e' rh' rs' => ⟨ρ2, h2, al', rs', rh', PostS.evo e' q1⟩
        | cnt ρ2 h2 => rw [e2] at q1; exact fun H' al' σ' e' rh' rs' => ⟨ρ2, h2, al', rs', rh', PostS.evo e' q1⟩
        | brk ρ2 h2 => rw [e2] at q1; exact q1
        | ret d' h' => rw [e2] at q1; exact q1
        | exc x ρ' h' => rw [e2] at q1; exact q1
        | bad => rw [e2] at q1; exact q1
  · rw [dif_neg z] at q; exact q.elim
end
end DL

namespace DL
open PySem PySem.Spec PyProof.Rows L2

/-! ### what is walked -/
abbrev ItD := DH → Option (List D)
def RI (K : PySem.W.Frag) (H : Hp) (al : List Addr) (it : ItD) (J : It) : Prop :=
  ∀ (H1 : Hp) (al1 : List Addr) (h1 : DH) (ds : List D), Evo K H al H1 al1 → RH K H1 al1 h1 → it h1 = some ds → ∀ i : Nat,
    (i < ds.length → J.go i H1) ∧ (ds.length ≤ i → J.stop i H1) ∧ ∀ x H2, J.yld i H1 x H2 → ∀ d, ds[i]? = some d → Evo K H1 al1 H2 al1 ∧ RH K H2 al1 h1 ∧ RV K H2 al1 d x
def DI (X : Cx) (W : WX) (tg iter : Expr) (mi : EM ItD) : Prop := ∃ wi : TI, PI X tg iter wi ∧ ∀ σ H R, tG X.K (RI X.K) W mi σ H R → wi σ H R
/-- the list at a place -/
def listAt (h : DH) (n : Nat) : Option (List D) := match h[n]? with
  | some (.lst ds) => some ds
  | some (.scr ds) => some ds
  | _ => none
theorem RH.list {K : PySem.W.Frag} {H : Hp} {al : List Addr} {h : DH} (rh : RH K H al h) {n : Nat} {ds : List D} (e : listAt h n = some ds) : ∃ a vs, al[n]? = some a ∧ SqL K H a vs ∧ RVs K H al ds vs := by
  unfold listAt at e
  cases q : h[n]? with
  | none => rw [q] at e; cases e
  | some o =>
    rw [q] at e
    obtain ⟨a, ha, r⟩ := rh.at q
    cases o with
    | lst xs => cases e; obtain ⟨vs, h1, h2⟩ := r; exact ⟨a, vs, ha, .of h1, h2⟩
    | scr xs =>
      cases e; obtain ⟨vs, h1, h2⟩ := r
      refine ⟨a, vs, ha, ?_, h2⟩
      rcases h1 with ⟨o, h1⟩ | h1
      · exact .inl (.inr ⟨o, h1⟩)
      · exact h1 H
    | _ => cases e
section
variable {X : Cx} {W : WX} {a b c e tg : Expr} {es : List Expr} {pos p pos' : Pos} {ma mb : EM D} {mr : EM (List D)}
/-- a list: as it stands at each turn -/
def seqIt (d : D) : Option ItD := match d with
  | .ref n => some fun h => listAt h n
  | _ => none
def iSeqL (ma : EM D) : EM ItD := fun ρ h => (ma ρ h).bind fun d h1 => match d with
  | .ref n => if (listAt h1 n).isSome then .val (fun h => listAt h n) h1 else .bad
  | _ => .bad
theorem rv_inj {K : PySem.W.Frag} {H : Hp} {al : List Addr} {n : Nat} {a b : Addr} (h : al[n]? = some a) (h' : al[n]? = some b) : a = b := Option.some.inj (h.symm.trans h')
/-- two lists read at one address are one: by the heap that stands behind (the reading's facts give it) -/
theorem di_list (h : DE X W e ma) : DI X W tg e (iSeqL ma) := by
  refine ⟨_, pi_list h, fun σ H R ⟨ρ, hh, al, rs, rh, q⟩ => ⟨ρ, hh, al, rs, rh, (PostG.bind q).imp ?_⟩⟩
  rintro x H1 ⟨d, h1, al1, e1, rh1, r1, q1⟩
  cases r1 with
  | ref ha =>
    rename_i n a
    cases ez : listAt h1 n with
    | none => simp only [ez] at q1; exact q1.elim
    | some ds =>
      simp only [ez] at q1
      obtain ⟨a', vs, ha', hs, _⟩ := rh1.list ez
      obtain rfl := rv_inj (K := X.K) (H := H1) ha ha'
      refine ⟨a, rfl, ⟨vs, hs⟩, PostG.val (R := RI X.K) q1 rh1 ?_⟩
      intro H2 al2 h2 ds2 e2 rh2 q2 i
      obtain ⟨a2, vs2, ha2, hs2, hr2⟩ := rh2.list q2
      obtain rfl := rv_inj (K := X.K) (H := H1) (e2.at ha) ha2
      refine ⟨fun hi => ?_, fun hi => ⟨vs2, hs2, by rw [← hr2.length]; exact hi⟩, fun x H3 hy d hd => ?_⟩
      · obtain ⟨v, hv, _⟩ := hr2.get (List.getElem?_eq_getElem hi)
        exact ⟨vs2, v, hs2, hv⟩
      · obtain ⟨rfl, hx⟩ := hy
        obtain ⟨v, hv, rv⟩ := hr2.get hd
        have := hx vs2 hs2
        rw [hv] at this; cases this
        exact ⟨Evo.refl, rh2, rv⟩
  | _ => exact q1.elim
/-- a tuple -/
def iTupD (ma : EM D) : EM ItD := fun ρ h => (ma ρ h).bind fun d h1 => match d with
  | .tup ds => .val (fun _ => some ds) h1
  | _ => .bad
theorem di_tup (h : DE X W e ma) : DI X W tg e (iTupD ma) := by
  refine ⟨_, pi_tup h, fun σ H R ⟨ρ, hh, al, rs, rh, q⟩ => ⟨ρ, hh, al, rs, rh, (PostG.bind q).imp ?_⟩⟩
  rintro x H1 ⟨d, h1, al1, e1, rh1, r1, q1⟩
  cases r1 with
  | tup hs hr =>
    rename_i a vs ds
    refine ⟨a, rfl, ⟨vs, hs⟩, PostG.val (R := RI X.K) q1 rh1 ?_⟩
    intro H2 al2 h2 ds2 e2 rh2 q2 i
    cases q2
    have hs2 := e2.tup _ _ hs
    have hr2 := hr.evo e2
    refine ⟨fun hi => ?_, fun hi => ⟨vs, hs2, by rw [← hr2.length]; exact hi⟩, fun x H3 hy d hd => ?_⟩
    · obtain ⟨v, hv, _⟩ := hr2.get (List.getElem?_eq_getElem hi)
      exact ⟨vs, v, hs2, hv⟩
    · obtain ⟨rfl, hx⟩ := hy
      obtain ⟨v, hv, rv⟩ := hr2.get hd
      have := hx vs hs2
      rw [hv] at this; cases this
      exact ⟨Evo.refl, rh2, rv⟩
  | _ => exact q1.elim
/-- a text, sign by sign -/
def signsD (x : Str) : List D := x.cps.toList.map fun c => D.str ⟨#[c]⟩
def iStrD (ma : EM D) : EM ItD := fun ρ h => (ma ρ h).bind fun d h1 => match d with
  | .str x => .val (fun _ => some (signsD x)) h1
  | _ => .bad
theorem di_str (h : DE X W e ma) : DI X W tg e (iStrD ma) := by
  refine ⟨_, pi_str h, fun σ H R ⟨ρ, hh, al, rs, rh, q⟩ => ⟨ρ, hh, al, rs, rh, (PostG.bind q).imp ?_⟩⟩
  rintro x H1 ⟨d, h1, al1, e1, rh1, r1, q1⟩
  cases r1 with
  | str =>
    rename_i x
    refine ⟨x, rfl, PostG.val (R := RI X.K) q1 rh1 ?_⟩
    intro H2 al2 h2 ds2 e2 rh2 q2 i
    cases q2
    have hl : (signsD x).length = x.cps.size := by simp [signsD]
    refine ⟨fun hi => by rw [hl] at hi; exact hi, fun hi => by rw [hl] at hi; exact hi, fun v H3 hy d hd => ?_⟩
    obtain ⟨rfl, c, hc, rfl⟩ := hy
    unfold signsD at hd
    rw [List.getElem?_map, Array.getElem?_toList, hc] at hd
    cases hd
    exact ⟨Evo.refl, rh2, .str⟩
  | _ => exact q1.elim
/-- range(n), range(a, b) -/
def rangeD (lo : Int) (n : Nat) : List D := (List.range n).map fun i : Nat => D.int (lo + (i : Int))
def gR62 (i : Int) : Prop := -(2 ^ 62) ≤ i ∧ i < 2 ^ 62
instance (i : Int) : Decidable (gR62 i) := by unfold gR62; infer_instance
def iRng1D (mr : EM (List D)) : EM ItD := fun ρ h => (mr ρ h).bind fun ds h1 => match ds with
  | [.int j] => if gR62 j then .val (fun _ => some (rangeD 0 j.toNat)) h1 else .bad
  | _ => .bad
def iRng2D (mr : EM (List D)) : EM ItD := fun ρ h => (mr ρ h).bind fun ds h1 => match ds with
  | [.int i, .int j] => if gR62 i ∧ gR62 j then .val (fun _ => some (rangeD i (j - i).toNat)) h1 else .bad
  | _ => .bad
theorem ri_range {K : PySem.W.Frag} {H : Hp} {al : List Addr} (lo : Int) (n : Nat) : RI K H al (fun _ => some (rangeD lo n)) (Itr lo n) := by
  intro H2 al2 h2 ds2 e2 rh2 q2 i
  cases q2
  have hl : (rangeD lo n).length = n := by simp [rangeD]
  refine ⟨fun hi => by rw [hl] at hi; exact hi, fun hi => by rw [hl] at hi; exact hi, fun v H3 hy d hd => ?_⟩
  obtain ⟨rfl, rfl⟩ := hy
  have hi : i < n := by
    have := (List.getElem?_eq_some_iff.mp hd).1
    rw [hl] at this; exact this
  unfold rangeD at hd
  rw [List.getElem?_map, List.getElem?_range hi] at hd
  cases hd
  exact ⟨Evo.refl, rh2, .int⟩
theorem di_range1 (hg : Gl X "range") (hm : X.mg "range" = none) (ha : DA X W [a] mr) (hs : starEach [a] X.env = [(false, eval a X.env)] := by rfl) : DI X W tg (.Call (.Name "range" p) [a] [] pos) (iRng1D mr) := by
  refine ⟨_, pi_range1 hg hm ha hs, fun σ H R ⟨ρ, hh, al, rs, rh, q⟩ => ⟨ρ, hh, al, rs, rh, (PostG.bind q).imp ?_⟩⟩
  rintro xs H1 ⟨ds, h1, al1, e1, rh1, r1, q1⟩
  cases r1 with
  | nil => exact q1.elim
  | cons r t =>
    cases t with
    | cons _ _ => cases r <;> exact q1.elim
    | nil =>
      cases r with
      | int =>
        rename_i j
        by_cases hz : gR62 j
        · simp only [if_pos hz] at q1
          exact ⟨j, rfl, hz.1, hz.2, PostG.val (R := RI X.K) q1 rh1 (ri_range 0 _)⟩
        · simp only [if_neg hz] at q1; exact q1.elim
      | _ => exact q1.elim
theorem di_range2 (hg : Gl X "range") (hm : X.mg "range" = none) (ha : DA X W [a, b] mr) (hs : starEach [a, b] X.env = [(false, eval a X.env), (false, eval b X.env)] := by rfl) (hs2 : starEach [b] X.env = [(false, eval b X.env)] := by rfl) : DI X W tg (.Call (.Name "range" p) [a, b] [] pos) (iRng2D mr) := by
  refine ⟨_, pi_range2 hg hm ha hs hs2, fun σ H R ⟨ρ, hh, al, rs, rh, q⟩ => ⟨ρ, hh, al, rs, rh, (PostG.bind q).imp ?_⟩⟩
  rintro xs H1 ⟨ds, h1, al1, e1, rh1, r1, q1⟩
  cases r1 with
  | nil => exact q1.elim
  | cons r t =>
    cases t with
    | nil => cases r <;> exact q1.elim
    | cons r2 t2 =>
      cases t2 with
      | cons _ _ => cases r <;> cases r2 <;> exact q1.elim
      | nil =>
        cases r with
        | int =>
          cases r2 with
          | int =>
            rename_i i j
            by_cases hz : gR62 i ∧ gR62 j
            · simp only [if_pos hz] at q1
              exact ⟨i, j, rfl, ⟨hz.1.1, hz.1.2, hz.2.1, hz.2.2⟩, PostG.val (R := RI X.K) q1 rh1 (ri_range i _)⟩
            · simp only [if_neg hz] at q1; exact q1.elim
          | _ => exact q1.elim
        | _ => cases r2 <;> exact q1.elim
/-- reversed(x), x a list or a tuple -/
def iRevD (ma : EM D) : EM ItD := fun ρ h => (ma ρ h).bind fun d h1 => match d with
  | .tup ds => .val (fun _ => some ds.reverse) h1
  | .ref n => match listAt h1 n with
    | some ds => .val (fun h => if (listAt h n).map List.length = some ds.length then (listAt h n).map List.reverse else none) h1
    | none => .bad
  | _ => .bad
theorem rev_get {α : Type} {l : List α} {i : Nat} (hi : i < l.length) : l.reverse[i]? = l[l.length - 1 - i]? := by
  rw [List.getElem?_reverse hi]
theorem di_rev (hg : Gl X "reversed") (hm : X.mg "reversed" = none) (h : DE X W e ma) (hs : starEach [e] X.env = (false, eval e X.env) :: starEach [] X.env := by rfl) : DI X W tg (.Call (.Name "reversed" p) [e] [] pos) (iRevD ma) := by
  refine ⟨_, RT.pi_revA hg hm h hs, fun σ H R ⟨ρ, hh, al, rs, rh, q⟩ => ⟨ρ, hh, al, rs, rh, (PostG.bind q).imp ?_⟩⟩
  rintro x H1 ⟨d, h1, al1, e1, rh1, r1, q1⟩
  cases r1 with
  | tup hs hr =>
    rename_i a vs ds
    refine ⟨a, vs, rfl, .inr ⟨hs, PostG.val (R := RI X.K) q1 rh1 ?_⟩⟩
    intro H2 al2 h2 ds2 e2 rh2 q2 i
    cases q2
    have hs2 := e2.tup _ _ hs
    have hr2 := hr.evo e2
    have hl : ds.reverse.length = vs.length := by rw [List.length_reverse, hr2.length]
    refine ⟨fun hi => ?_, fun hi => by rw [hl] at hi; exact hi, fun x H3 hy d hd => ?_⟩
    · rw [hl] at hi
      refine ⟨hi, vs, vs[vs.length - 1 - i]'(by omega), hs2, List.getElem?_eq_getElem _⟩
    · obtain ⟨rfl, hx⟩ := hy
      have hi : i < ds.length := by
        have := (List.getElem?_eq_some_iff.mp hd).1
        rwa [List.length_reverse] at this
      rw [rev_get hi] at hd
      obtain ⟨v, hv, rv⟩ := hr2.get hd
      have := hx vs hs2
      rw [← hr2.length, hv] at this; cases this
      exact ⟨Evo.refl, rh2, rv⟩
  | ref ha =>
    rename_i n a
    cases ez : listAt h1 n with
    | none => simp only [ez] at q1; exact q1.elim
    | some ds =>
      simp only [ez] at q1
      obtain ⟨a', vs, ha', hs, hr⟩ := rh1.list ez
      obtain rfl := rv_inj (K := X.K) (H := H1) ha ha'
      refine ⟨a, vs, rfl, .inl ⟨hs, PostG.val (R := RI X.K) q1 rh1 ?_⟩⟩
      intro H2 al2 h2 ds2 e2 rh2 q2 i
      dsimp only at q2
      cases ew : listAt h2 n with
      | none => rw [ew] at q2; simp at q2
      | some ds3 =>
        rw [ew] at q2
        simp only [Option.map_some, Option.some.injEq] at q2
        by_cases hl3 : ds3.length = ds.length
        · rw [if_pos hl3] at q2
          cases q2
          obtain ⟨a2, vs2, ha2, hs2, hr2⟩ := rh2.list ew
          obtain rfl := rv_inj (K := X.K) (H := H1) (e2.at ha) ha2
          have hl : ds3.reverse.length = vs.length := by rw [List.length_reverse, hl3, hr.length]
          have hl2 : vs2.length = vs.length := by rw [← hr2.length, hl3, hr.length]
          refine ⟨fun hi => ?_, fun hi => by rw [hl] at hi; exact hi, fun x H3 hy d hd => ?_⟩
          · rw [hl] at hi
            refine ⟨hi, vs2, vs2[vs.length - 1 - i]'(by omega), hs2, List.getElem?_eq_getElem _⟩
          · obtain ⟨rfl, hx⟩ := hy
            have hi : i < ds3.length := by
              have := (List.getElem?_eq_some_iff.mp hd).1
              rwa [List.length_reverse] at this
            rw [rev_get hi] at hd
            obtain ⟨v, hv, rv⟩ := hr2.get hd
            have := hx vs2 hs2
            rw [← hl2, ← hr2.length, hv] at this; cases this
            exact ⟨Evo.refl, rh2, rv⟩
        · rw [if_neg hl3] at q2; cases q2
  | _ => exact q1.elim

/-! ### for -/
open Classical in
noncomputable def loopL (it : ItD) (all : List D) (g : GM) (m : SM) : List D → SM
  | [] => fun ρ h => if it h = some all then .nx ρ h else .bad
  | d :: r => fun ρ h => if it h = some all then ((g d ρ h).thn fun ρ1 h1 => match m ρ1 h1 with
      | .nx ρ2 h2 => loopL it all g m r ρ2 h2
      | .cnt ρ2 h2 => loopL it all g m r ρ2 h2
      | .brk ρ2 h2 => .nx ρ2 h2
      | o => o) else .bad
noncomputable def sFor (mi : EM ItD) (g : GM) (m : SM) : SM := fun ρ h => (mi ρ h).toS ρ fun it h1 => match it h1 with
  | some ds => loopL it ds g m ds ρ h1
  | none => .bad
theorem ds_for {iter : Expr} {body : List Stmt} {mi : EM ItD} {g : GM} {m : SM} (hp : PassesOwn (model X.prog X.w) X.A X.env X.xe) (hc : X.calm = true) (hi : DI X W tg iter mi) (hg : DG X W tg g) (hb : DSs X W body m)
    (hs : ∀ x, foldedSetIterable iter X.env x = pure x := by intro _; rfl) : DS X W (.For tg iter body [] pos) (sFor mi g m) := by
  obtain ⟨wi, p1, k1⟩ := hi
  obtain ⟨t, p2, k2⟩ := hg
  refine (ps_for hp hc p1 p2 hb hs).imp fun D σ H ⟨ρ, h, al, rs, rh, q⟩ => k1 _ _ _ ⟨ρ, h, al, rs, rh, (PostG.toS rs q).imp ?_⟩
  rintro J H1 ⟨it, h1, al1, e1, rh1, ri, q1⟩
  cases ez : it h1 with
  | none => simp only [ez] at q1; exact q1.elim
  | some ds =>
    simp only [ez] at q1
    refine ⟨fun i n σ H => n = ds.length - i ∧ i ≤ ds.length ∧ ∃ ρ h al, Evo X.K H1 al1 H al ∧ RS X.K H al ρ σ ∧ RH X.K H al h ∧ PostS X.K W H al (loopL it ds g m (ds.drop i) ρ h) D, ⟨ds.length, by simp, by simp, ρ, h1, al1, Evo.refl, rs.evo e1, rh1, by simpa using q1⟩, ?_⟩
    rintro i n σ2 H2 ⟨rfl, hi, ρ2, h2, al2, e2, rs2, rh2, q2⟩
    by_cases hlt : i < ds.length
    · right
      rw [List.drop_eq_getElem_cons hlt] at q2
      unfold loopL at q2
      by_cases hit : it h2 = some ds
      · rw [if_pos hit] at q2
        obtain ⟨g1, g2, g3⟩ := ri H2 al2 h2 ds e2 rh2 hit i
        refine ⟨g1 hlt, fun σ H => ∃ ρ h al, Evo X.K H1 al1 H al ∧ RS X.K H al ρ σ ∧ RH X.K H al h ∧ PostS X.K W H al (loopL it ds g m (ds.drop (i + 1)) ρ h) D, ?_, ?_⟩
        · rintro σ' H' ⟨ρ', h', al', a1, a2, a3, a4⟩
          exact ⟨ds.length - (i + 1), by omega, rfl, by omega, ρ', h', al', a1, a2, a3, a4⟩
        · intro x H3 hy
          obtain ⟨e3, rh3, rv⟩ := g3 x H3 hy ds[i] (List.getElem?_eq_getElem hlt)
          have q3 := PostS.thn (PostS.evo e3 q2)
          refine k2 H3 al2 ρ2 σ2 h2 ds[i] x { D with nx := fun σ H => tS X.K W m { D with nx := fun σ H => ∃ ρ h al, Evo X.K H1 al1 H al ∧ RS X.K H al ρ σ ∧ RH X.K H al h ∧ PostS X.K W H al (loopL it ds g m (ds.drop (i + 1)) ρ h) D, ct := fun σ H => ∃ ρ h al, Evo X.K H1 al1 H al ∧ RS X.K H al ρ σ ∧ RH X.K H al h ∧ PostS X.K W H al (loopL it ds g m (ds.drop (i + 1)) ρ h) D, bk := D.nx } σ H } (rs2.evo e3) rh3 rv ?_
          cases eg : g ds[i] ρ2 h2 with
          | nx ρ3 h3 =>
            rw [eg] at q3
            intro H4 al4 σ4 e4 rh4 rs4
            obtain ⟨ρ5, h5, al5, rs5, rh5, q5⟩ := q3 H4 al4 σ4 e4 rh4 rs4
            -- the state as it stands
            have q6 : PostS X.K W H4 al4 (match m ρ3 h3 with
              | .nx ρ2 h2 => loopL it ds g m (ds.drop (i + 1)) ρ2 h2
              | .cnt ρ2 h2 => loopL it ds g m (ds.drop (i + 1)) ρ2 h2
              | .brk ρ2 h2 => .nx ρ2 h2
              | o => o) D := by
              have z := PostS.evo (e3.trans e4) q2
              rw [eg] at z
              exact z
            refine ⟨ρ3, h3, al4, rs4, rh4, ?_⟩
            cases em : m ρ3 h3 with
            | nx ρ6 h6 => rw [em] at q6; exact fun H7 al7 σ7 e7 rh7 rs7 => ⟨ρ6, h6, al7, ((e2.trans e3).trans e4).trans e7, rs7, rh7, PostS.evo e7 q6⟩
            | cnt ρ6 h6 => rw [em] at q6; exact fun H7 al7 σ7 e7 rh7 rs7 => ⟨ρ6, h6, al7, ((e2.trans e3).trans e4).trans e7, rs7, rh7, PostS.evo e7 q6⟩
            | brk ρ6 h6 => rw [em] at q6; exact q6
            | ret d6 h6 => rw [em] at q6; exact q6
            | exc x6 ρ6 h6 => rw [em] at q6; exact q6
            | bad => rw [em] at q6; exact q6
          | bad => rw [eg] at q3; exact q3
          | brk ρ' h' => rw [eg] at q3; exact q3
          | cnt ρ' h' => rw [eg] at q3; exact q3
          | ret d' h' => rw [eg] at q3; exact q3
          | exc x ρ' h' => rw [eg] at q3; exact q3
      · rw [if_neg hit] at q2; exact q2.elim
    · left
      have hd : ds.drop i = [] := List.drop_eq_nil_of_le (by omega)
      rw [hd] at q2
      unfold loopL at q2
      by_cases hit : it h2 = some ds
      · rw [if_pos hit] at q2
        exact ⟨(ri H2 al2 h2 ds e2 rh2 hit i).2.1 (by omega), q2 H2 al2 σ2 Evo.refl rh2 rs2⟩
      · rw [if_neg hit] at q2; exact q2.elim
end
end DL

namespace DL
open PySem PySem.Spec PyProof.Rows L2

/-! ### list comprehensions -/
def wipeD (ρ : DEnv) : List Nat → DEnv
  | [] => ρ
  | v :: vs => (wipeD ρ vs).set v none
theorem RS.wipe {K : PySem.W.Frag} {H : Hp} {al : List Addr} {ρ : DEnv} {σ : St} (h : RS K H al ρ σ) : ∀ vs : List Nat, RS K H al (wipeD ρ vs) (wipe σ vs)
  | [] => h
  | v :: vs => RS.gone (RS.wipe h vs) v none
theorem wipe_set {σ : St} {i : Nat} {o : Option V} : ∀ {vs : List Nat}, i ∈ vs → L2.wipe (σ.set i o) vs = L2.wipe σ vs
  | v :: vs, h => by
    show (L2.wipe (σ.set i o) vs).set v none = (L2.wipe σ vs).set v none
    by_cases hi : i ∈ vs
    · rw [wipe_set hi]
    · have e : i = v := by
        rcases List.mem_cons.mp h with e | e
        · exact e
        · exact (hi e).elim
      subst e
      have gen : ∀ (ws : List Nat), i ∉ ws → L2.wipe (σ.set i o) ws = (L2.wipe σ ws).set i o := by
        intro ws
        induction ws with
        | nil => intro _; rfl
        | cons w ws ih =>
          intro hn
          have h1 : ¬ i = w := fun e => hn (by simp [e])
          show (L2.wipe (σ.set i o) ws).set w none = ((L2.wipe σ ws).set w none).set i o
          rw [ih fun z => hn (List.mem_cons_of_mem _ z), List.set_comm _ _ (Ne.symm (fun e => h1 e.symm) )]
      rw [gen vs hi, List.set_set]
theorem wipe_wipe {σ : St} : ∀ {us vs : List Nat}, (∀ i ∈ us, i ∈ vs) → L2.wipe (L2.wipe σ us) vs = L2.wipe σ vs
  | [], _, _ => rfl
  | u :: us, vs, h => by
    show L2.wipe ((L2.wipe σ us).set u none) vs = _
    rw [wipe_set (h u List.mem_cons_self), wipe_wipe fun i hi => h i (List.mem_cons_of_mem _ hi)]
/-- the targets of a comprehension: a name, a tuple of names -/
inductive CT where
  | nm (i : Nat) | tp (is : List Nat)
def CT.slots : CT → List Nat
  | .nm i => [i]
  | .tp is => is
def setsD : List Nat → List D → DEnv → Option DEnv
  | [], [], ρ => some ρ
  | i :: is, d :: ds, ρ => setsD is ds (ρ.set i (some d))
  | _, _, _ => none
def CT.put : CT → D → DEnv → Option DEnv
  | .nm i, d, ρ => some (ρ.set i (some d))
  | .tp is, .tup ds, ρ => setsD is ds ρ
  | _, _, _ => none
def gNames : List Nat → TGs
  | [] => gNil
  | i :: is => gCons (gName i) (gNames is)
def CT.read (K : PySem.W.Frag) : CT → TG
  | .nm i => gName i
  | .tp is => gTup K is.length (gNames is)
theorem gNames_of {K : PySem.W.Frag} {H : Hp} {al : List Addr} {vs0 : List Nat} : ∀ {is : List Nat} {ds : List D} {vs : List V} {ρ ρ' : DEnv} {σ : St} {Q : St → Hp → Prop}, (∀ i ∈ is, i ∈ vs0) → RS K H al ρ σ → RVs K H al ds vs → setsD is ds ρ = some ρ' →
    (∀ σ', L2.wipe σ' vs0 = L2.wipe σ vs0 → RS K H al ρ' σ' → Q σ' H) → gNames is vs σ H Q
  | [], [], _, ρ, ρ', σ, Q, _, rs, .nil, e, q => by cases e; exact ⟨rfl, q σ rfl rs⟩
  | i :: is, d :: ds, _, ρ, ρ', σ, Q, hi, rs, .cons r rr, e, q => by
    refine ⟨_, _, rfl, ?_⟩
    exact gNames_of (σ := σ.set i _) (fun j hj => hi j (List.mem_cons_of_mem _ hj)) (rs.set i r) rr e fun σ' h1 h2 => q σ' (by rw [h1, wipe_set (hi i List.mem_cons_self)]) h2
  | [], _ :: _, _, _, _, _, _, _, _, _, e, _ => by cases e
  | _ :: _, [], _, _, _, _, _, _, _, _, e, _ => by cases e
theorem setsD_len : ∀ {is : List Nat} {ds : List D} {ρ ρ' : DEnv}, setsD is ds ρ = some ρ' → ds.length = is.length
  | [], [], _, _, _ => rfl
  | _ :: _, _ :: _, _, _, e => congrArg (· + 1) (setsD_len e)
  | [], _ :: _, _, _, e => by cases e
  | _ :: _, [], _, _, e => by cases e
theorem CT.of {K : PySem.W.Frag} {H : Hp} {al : List Addr} {vs0 : List Nat} {c : CT} {d : D} {v : V} {ρ ρ' : DEnv} {σ : St} {Q : St → Hp → Prop} (hi : ∀ i ∈ c.slots, i ∈ vs0) (rs : RS K H al ρ σ) (r : RV K H al d v) (e : c.put d ρ = some ρ')
    (q : ∀ σ', L2.wipe σ' vs0 = L2.wipe σ vs0 → RS K H al ρ' σ' → Q σ' H) : c.read K v σ H Q := by
  cases c with
  | nm i => cases e; exact q _ (wipe_set (hi i List.mem_cons_self)) (rs.set i r)
  | tp is =>
    cases r with
    | tup hs hr => exact ⟨_, _, rfl, hs, by rw [← hr.length]; exact setsD_len e, gNames_of hi rs hr e q⟩
    | _ => cases e
open Classical in
noncomputable def lcLoop (it : ItD) (all : List D) (c : CT) (mt : EM Bool) (me : EM D) (n : Nat) (ρ : DEnv) : List D → DH → Out D
  | [], h => if it h = some all then .val (.ref n) h else .bad
  | d :: r, h => if it h = some all then (match c.put d ρ with
      | some ρ2 => match mt ρ2 h with
        | .val true h3 => match me ρ2 h3 with
          | .val y h4 => match h4[n]? with
            | some (.lst acc) => if acc.length < sizeLine then lcLoop it all c mt me n ρ r (h4.set n (.lst (acc ++ [y]))) else .bad
            | _ => .bad
          | _ => .bad
        | .val false h3 => lcLoop it all c mt me n ρ r h3
        | _ => .bad
      | none => .bad) else .bad
noncomputable def mLc (mi : EM ItD) (c : CT) (mt : EM Bool) (me : EM D) (vs : List Nat) : EM D := fun ρ h => (mi ρ h).bind fun it h1 => match it h1 with
  | some ds => lcLoop it ds c mt me h1.length (wipeD ρ vs) ds (h1 ++ [.lst []])
  | none => .bad
def W0 : WX := fun _ _ _ _ => False
theorem it_ext {K : PySem.W.Frag} : True := trivial
section
variable {X : Cx} {W : WX} {a b e tg iter elt : Expr} {es ifs : List Expr} {pos p pos' spos : Pos} {ma mb me : EM D} {mt : EM Bool} {mi : EM ItD} {c : CT} {scope : Scope} {own : List (Str × Nat)}
theorem lc_imp {wi : TI} {vs : List Nat} (ki : ∀ σ H R, tG X.K (RI X.K) W mi σ H R → wi σ H R) (hs : ∀ i ∈ c.slots, i ∈ vs) (σ : St) (H : Hp) (Q : VK) (q : tD X.K W (mLc mi c mt me vs) σ H Q) :
    tLc wi (c.read X.K) (tBl X.K W0 mt) (tD X.K W0 me) vs σ H Q := by
  obtain ⟨ρ, h, al, rs, rh, q⟩ := q
  refine ki _ _ _ ⟨ρ, h, al, rs, rh, (PostG.bind q).imp ?_⟩
  rintro J H1 ⟨it, h1, al1, e1, rh1, ri, q1⟩
  cases ez : it h1 with
  | none => simp only [ez] at q1; exact q1.elim
  | some ds =>
    simp only [ez] at q1
    intro L hL
    have ev : Evo X.K H1 al1 (upd H1 L (.lst [])) (al1 ++ [L]) := Evo.new hL
    have rhL : RH X.K (upd H1 L (.lst [])) (al1 ++ [L]) (h1 ++ [.lst []]) := rh1.new hL ⟨[], upd_same, .nil⟩
    have aL : (al1 ++ [L])[h1.length]? = some L := by
      rw [rh1.len, List.getElem?_append_right (Nat.le_refl _)]; simp
    refine ⟨fun i n H => n = ds.length - i ∧ i ≤ ds.length ∧ ∃ h al, Evo X.K (upd H1 L (.lst [])) (al1 ++ [L]) H al ∧ RH X.K H al h ∧ PostG X.K (RV X.K) (fun c d H' => W c d σ H') H al (lcLoop it ds c mt me h1.length (wipeD ρ vs) (ds.drop i) h) Q, ⟨ds.length, by simp, by simp, h1 ++ [.lst []], al1 ++ [L], Evo.refl, rhL, by simpa using PostG.evo ev q1⟩, ?_⟩
    rintro i n H2 ⟨rfl, hi, h2, al2, e2, rh2, q2⟩
    by_cases hlt : i < ds.length
    · right
      rw [List.drop_eq_getElem_cons hlt] at q2
      unfold lcLoop at q2
      by_cases hit : it h2 = some ds
      · rw [if_pos hit] at q2
        obtain ⟨g1, g2, g3⟩ := ri H2 al2 h2 ds (ev.trans e2) rh2 hit i
        refine ⟨g1 hlt, fun H => ∃ h al, Evo X.K (upd H1 L (.lst [])) (al1 ++ [L]) H al ∧ RH X.K H al h ∧ PostG X.K (RV X.K) (fun c d H' => W c d σ H') H al (lcLoop it ds c mt me h1.length (wipeD ρ vs) (ds.drop (i + 1)) h) Q, ?_, ?_⟩
        · rintro H' ⟨h', al', a1, a3, a4⟩
          exact ⟨ds.length - (i + 1), by omega, rfl, by omega, h', al', a1, a3, a4⟩
        · intro x H3 hy
          obtain ⟨e3, rh3, rv⟩ := g3 x H3 hy ds[i] (List.getElem?_eq_getElem hlt)
          have q3 := PostG.evo e3 q2
          have rsw : RS X.K H3 al2 (wipeD ρ vs) (L2.wipe σ vs) := ((rs.evo e1).evo ((ev.trans e2).trans e3)).wipe vs
          cases eg : c.put ds[i] (wipeD ρ vs) with
          | none => simp only [eg] at q3; exact q3.elim
          | some ρ2 =>
            simp only [eg] at q3
            refine CT.of (σ := L2.wipe σ vs) (vs0 := vs) hs rsw rv eg fun σ2 hw2 rs2 => ⟨by rw [hw2, wipe_wipe fun _ h => h], ?_⟩
            refine ⟨ρ2, h2, al2, rs2, rh3, ?_⟩
            cases et : mt ρ2 h2 with
            | bad => simp only [et] at q3; exact q3.elim
            | exc x h => simp only [et] at q3; exact q3.elim
            | val bb h3 =>
              rw [et] at q3
              intro H4 al4 b4 e4 rh4 hb
              have hb : bb = b4 := hb
              subst hb
              cases bb with
              | false =>
                refine iteF ⟨h3, al4, (e2.trans e3).trans e4, rh4, PostG.evo e4 q3⟩
              | true =>
                refine iteT ⟨ρ2, h3, al4, rs2.evo e4, rh4, ?_⟩
                dsimp only at q3
                cases ee : me ρ2 h3 with
                | bad => simp only [ee] at q3; exact q3.elim
                | exc x h => simp only [ee] at q3; exact q3.elim
                | val y h4 =>
                  simp only [ee] at q3
                  intro H5 al5 v5 e5 rh5 rv5
                  cases eh : h4[h1.length]? with
                  | none => simp only [eh] at q3; exact q3.elim
                  | some o =>
                    have ev5 := ((e2.trans e3).trans e4).trans e5
                    have aL5 := ev5.at aL
                    cases o with
                    | lst acc =>
                      simp only [eh] at q3
                      by_cases hz : acc.length < sizeLine
                      · rw [if_pos hz] at q3
                        obtain ⟨vacc, hv, rvs⟩ := rh5.obj _ _ _ eh aL5
                        have ew : Evo X.K H5 al5 (upd H5 L (.lst (vacc ++ [v5]))) al5 := Evo.write hv rfl
                        refine ⟨vacc, hv, by rw [← rvs.length]; exact hz, h4.set h1.length (.lst (acc ++ [y])), al5, ev5.trans ew, ?_, PostG.evo ((e4.trans e5).trans ew) q3⟩
                        exact rh5.write eh aL5 rfl rfl ⟨_, upd_same, (rvs.snoc rv5).evo ew⟩
                      · rw [if_neg hz] at q3; exact q3.elim
                    | _ => simp only [eh] at q3; exact q3.elim
      · rw [if_neg hit] at q2; exact q2.elim
    · left
      have hd : ds.drop i = [] := List.drop_eq_nil_of_le (by omega)
      rw [hd] at q2
      unfold lcLoop at q2
      by_cases hit : it h2 = some ds
      · rw [if_pos hit] at q2
        exact ⟨(ri H2 al2 h2 ds (ev.trans e2) rh2 hit i).2.1 (by omega), PostG.val q2 rh2 (.ref (e2.at aL))⟩
      · rw [if_neg hit] at q2; exact q2.elim
/-- the targets in a block -/
def DC (X : Cx) (scope : Scope) (tg : Expr) (c : CT) : Prop := ∀ (s : Shared) (H : Hp) (C : Addr) (cl : List (Str × Addr)) (fp : List Addr), PG (X.blk s H scope (compEnvC scope cl C X.env) fp) tg (c.read X.K)
theorem dc_name (i : Nat) {x : Str} (hN : X.N.Nodup) (hi : X.N[i]? = some x := by rfl) (hx : ∀ (s : Shared) (H : Hp) (C : Addr) (cl : List (Str × Addr)) (fp : List Addr), Loc (X.blk s H scope (compEnvC scope cl C X.env) fp).env.scope x := by intros; first | exact Or.inl rfl | exact Or.inr rfl) (hf : ∀ (s : Shared) (H : Hp) (C : Addr) (cl : List (Str × Addr)) (fp : List Addr), (X.blk s H scope (compEnvC scope cl C X.env) fp).fn x = true ∨ (X.blk s H scope (compEnvC scope cl C X.env) fp).env.scope.names.lookup x = some .local := by intros; first | exact .inl rfl | exact .inr rfl) : DC X scope (.Name x pos) (.nm i) :=
  fun s H C cl fp => pg_name (X := X.blk s H scope (compEnvC scope cl C X.env) fp) (i := i) hN hi (hx s H C cl fp) (hf s H C cl fp)
def DCs (X : Cx) (scope : Scope) (tgs : List Expr) (is : List Nat) : Prop := ∀ (s : Shared) (H : Hp) (C : Addr) (cl : List (Str × Addr)) (fp : List Addr), PGs (X.blk s H scope (compEnvC scope cl C X.env) fp) tgs (gNames is)
theorem dcs_nil : DCs X scope [] [] := fun _ _ _ _ _ => pgs_nil
theorem dcs_cons (i : Nat) {x : Str} {is : List Nat} (hN : X.N.Nodup) (h2 : DCs X scope es is) (hs : ∀ (s : Shared) (H : Hp) (C : Addr) (cl : List (Str × Addr)) (fp : List Addr), (assignEach (.Name x pos :: es) (X.blk s H scope (compEnvC scope cl C X.env) fp).env).map (·.2) = assign (.Name x pos) (X.blk s H scope (compEnvC scope cl C X.env) fp).env :: (assignEach es (X.blk s H scope (compEnvC scope cl C X.env) fp).env).map (·.2) := by intros; rfl)
    (hi : X.N[i]? = some x := by rfl) (hx : ∀ (s : Shared) (H : Hp) (C : Addr) (cl : List (Str × Addr)) (fp : List Addr), Loc (X.blk s H scope (compEnvC scope cl C X.env) fp).env.scope x := by intros; first | exact Or.inl rfl | exact Or.inr rfl) (hf : ∀ (s : Shared) (H : Hp) (C : Addr) (cl : List (Str × Addr)) (fp : List Addr), (X.blk s H scope (compEnvC scope cl C X.env) fp).fn x = true ∨ (X.blk s H scope (compEnvC scope cl C X.env) fp).env.scope.names.lookup x = some .local := by intros; first | exact .inl rfl | exact .inr rfl) : DCs X scope (.Name x pos :: es) (i :: is) :=
  fun s H C cl fp => pgs_cons (pg_name (X := X.blk s H scope (compEnvC scope cl C X.env) fp) (i := i) hN hi (hx s H C cl fp) (hf s H C cl fp)) (h2 s H C cl fp) (hs s H C cl fp)
theorem dc_tup {k : Nat} {is : List Nat} (hc : X.calm = true) (h : DCs X scope es is) (hn : ∀ (s : Shared) (H : Hp) (C : Addr) (cl : List (Str × Addr)) (fp : List Addr), (assignEach es (X.blk s H scope (compEnvC scope cl C X.env) fp).env).length = is.length := by intros; rfl) (hst : ∀ (s : Shared) (H : Hp) (C : Addr) (cl : List (Str × Addr)) (fp : List Addr), (assignEach es (X.blk s H scope (compEnvC scope cl C X.env) fp).env).findIdx? (·.1) = none := by intros; rfl) : DC X scope (.Tuple es k pos) (.tp is) :=
  fun s H C cl fp => pg_tup hc (h s H C cl fp) (hn s H C cl fp) (hst s H C cl fp)
/-- tests of a comprehension -/
def DTs (X : Cx) (ifs : List Expr) (mt : EM Bool) : Prop := PTs X ifs (tBl X.K W0 mt)
theorem _root_.L2.PTs.imp {X : Cx} {e : List Expr} {t t' : TT} (h : PTs X e t) (i : ∀ σ H Q, t' σ H Q → t σ H Q) : PTs X e t' := ⟨fun pins s σ H Q I q => h.run pins s σ H Q I (i σ H Q q)⟩
theorem dts_nil : DTs X [] (mC true) := pts_nil.imp fun σ H Q ⟨ρ, h, al, rs, rh, q⟩ => PostG.val (R := RB) q rh rfl
theorem dts_one (h : DT X W0 e mt) : DTs X [e] mt := pts_one h
theorem de_lc (hc : X.calm = true) (hN : X.N.Nodup) (hi : DI X W tg iter mi) (ok : BlkOk X.N X.env.scope scope own) (hg : DC X scope tg c)
    (ht : ∀ (s : Shared) (H : Hp) (C : Addr) (cl : List (Str × Addr)) (fp : List Addr), DTs (X.blk s H scope (compEnvC scope cl C X.env) fp) ifs mt)
    (he : ∀ (s : Shared) (H : Hp) (C : Addr) (cl : List (Str × Addr)) (fp : List Addr), DE (X.blk s H scope (compEnvC scope cl C X.env) fp) W0 elt me) (hsl : ∀ i ∈ c.slots, i ∈ own.map (·.2)) (hs : ∀ x, foldedSetIterable iter X.env x = pure x := by intro _; rfl) :
    DE X W (.ListComp elt [⟨tg, iter, ifs, 0⟩] scope pos) (mLc mi c mt me (own.map (·.2))) := by
  obtain ⟨wi, p1, k1⟩ := hi
  exact (pe_lc (tt := tBl X.K W0 mt) (te := tD X.K W0 me) hc hN p1 ok hg (fun s H C cl fp => ht s H C cl fp) (fun s H C cl fp => he s H C cl fp) hs).imp fun σ H Q q => lc_imp k1 hsl σ H Q q
theorem ds_setLc (i : Nat) {y : Str} {py : Pos} (hc : X.calm = true) (hN : X.N.Nodup) (hi : DI X W tg iter mi) (ok : BlkOk X.N X.env.scope scope own) (hg : DC X scope tg c)
    (ht : ∀ (s : Shared) (H : Hp) (C : Addr) (cl : List (Str × Addr)) (fp : List Addr), DTs (X.blk s H scope (compEnvC scope cl C X.env) fp) ifs mt)
    (he : ∀ (s : Shared) (H : Hp) (C : Addr) (cl : List (Str × Addr)) (fp : List Addr), DE (X.blk s H scope (compEnvC scope cl C X.env) fp) W0 elt me) (hsl : ∀ i ∈ c.slots, i ∈ own.map (·.2))
    (hsw : swapsWith (.ListComp elt [⟨tg, iter, ifs, 0⟩] scope pos) (some (.Name y py)) spos.line X.env = pure true) (hy : X.N[i]? = some y := by rfl) (hyl : X.env.scope.names.lookup y = some .local := by rfl) (hs : ∀ x, foldedSetIterable iter X.env x = pure x := by intro _; rfl) :
    DS X W (.Assign [.Name y py] (.ListComp elt [⟨tg, iter, ifs, 0⟩] scope pos) spos) (sAsg (mLc mi c mt me (own.map (·.2))) (gSet i)) := by
  obtain ⟨wi, p1, k1⟩ := hi
  refine (ps_setLc (tt := tBl X.K W0 mt) (te := tD X.K W0 me) hc hN hy hyl hsw p1 ok hg (fun s H C cl fp => ht s H C cl fp) (fun s H C cl fp => he s H C cl fp) hs).imp fun D σ H ⟨ρ, h, al, rs, rh, q⟩ => lc_imp (W := W) k1 hsl σ H (fun x H1 => gName i x σ H1 D.nx) ⟨ρ, h, al, rs, rh, (PostG.toS rs q).imp ?_⟩
  rintro y H1 ⟨d, h1, al1, e1, rh1, r1, q1⟩
  exact q1 H1 al1 _ Evo.refl rh1 ((rs.evo e1).set i r1)
end

/-! ### defs -/
def startD (N : List Str) (ds : List D) : DEnv := ds.map some ++ List.replicate (N.length - ds.length) none
theorem RVs.somes {K : PySem.W.Frag} {H : Hp} {al : List Addr} : ∀ {ds : List D} {vs : List V}, RVs K H al ds vs → RS K H al (ds.map some) (vs.map some)
  | _, _, .nil => .nil
  | _, _, .cons r t => .cons r (RVs.somes t)
theorem RS.start {K : PySem.W.Frag} {H : Hp} {al : List Addr} {N : List Str} {ds : List D} {vs : List V} (r : RVs K H al ds vs) : RS K H al (startD N ds) (start N vs) := by
  have h2 : ∀ n, RS K H al (List.replicate n none) (List.replicate n none) := fun n => by
    induction n with
    | zero => exact .nil
    | succ n ih => exact .cons trivial ih
  have app : ∀ {l1 l3 : DEnv} {l2 l4 : St}, RS K H al l1 l2 → RS K H al l3 l4 → RS K H al (l1 ++ l3) (l2 ++ l4) := fun {l1 l3 l2 l4} a b => by
    induction a with
    | nil => exact b
    | cons h _ ih => exact .cons h ih
  unfold startD L2.start
  rw [r.length]
  exact app (RVs.somes r) (h2 _)
/-- what a body's end is for the caller -/
def SOut.fin : SOut → Out D
  | .nx _ h => .val .non h
  | .ret d h => .val d h
  | .exc x _ h => .exc x h
  | _ => .bad
/-- one outcome serves for another: garbage may be dropped, places renamed -/
def Serves (o o' : Out D) : Prop := ∀ (K : PySem.W.Frag) (Wx : Value → Option Addr → Hp → Prop) (H : Hp) (al : List Addr) (Q : VK), PostG K (RV K) Wx H al o Q → PostG K (RV K) Wx H al o' Q
theorem Serves.refl {o : Out D} : Serves o o := fun _ _ _ _ _ q => q
theorem Serves.bad {o : Out D} : Serves .bad o := fun _ _ _ _ _ q => q.elim
theorem Serves.of_eq {o o' : Out D} (e : o' = o) : Serves o o' := by subst e; exact .refl
section
variable {P : Program} {w : World} {K : PySem.W.Frag} {mg : Str → Option Value} {base : Heap}
theorem fnok_of {x qual : Str} {st : Stmt} {f : Addr} {fd : FuncData} {N ps : List Str} {k : Nat} {m : SM} {F : List D → DH → Out D} (Fu : Fun K x qual st f fd) (S : FnScope N ps (defScope st))
    (hbody : ∀ (cdv : Value) (A : Around) (outer : List Env) (s : Shared) (H : Hp) (E : XK), Room k (A.deeper (envOfC qual (defScope st) s.heap.objs.size f cdv)) →
      Takes (cxOf (L2.CX P w) P w K mg base N qual (defScope st) f cdv A outer s H E) (fun c d _ H' => E c d H') →
      PassesOwn (model P w) (cxOf (L2.CX P w) P w K mg base N qual (defScope st) f cdv A outer s H E).A (cxOf (L2.CX P w) P w K mg base N qual (defScope st) f cdv A outer s H E).env (cxOf (L2.CX P w) P w K mg base N qual (defScope st) f cdv A outer s H E).xe →
      DSs (cxOf (L2.CX P w) P w K mg base N qual (defScope st) f cdv A outer s H E) (fun c d _ H' => E c d H') (defBody st) m)
    (hF : ∀ ds h, ds.length = ps.length → Serves (F ds h) (m (startD N ds) h).fin) : FnOk P w K mg base (L2.CX P w) (k + 1) f fd ps (spD K ps.length F) := by
  refine Fu.okX S (fun vs H Q E h => h.choose_spec.choose_spec.choose_spec.1) (fun cdv A outer s H vs Q E hr h => ?_)
  obtain ⟨ds, hh, al, hl, r, rh, q⟩ := h
  have hl' : ds.length = ps.length := by rw [r.length]; exact hl
  refine ⟨_, hbody cdv A outer s H E hr (takes_of rfl rfl rfl rfl) (passes_of rfl), startD N ds, hh, al, RS.start r, rh, ?_⟩
  have q2 := hF ds hh hl' K _ H al Q q
  cases e : m (startD N ds) hh with
  | nx ρ h' => rw [e] at q2; exact fun H' al' σ' e' rh' _ => q2 H' al' .non e' rh' .non
  | ret d h' => rw [e] at q2; exact q2
  | exc x ρ h' => rw [e] at q2; exact fun H' al' σ' dd e' rh' _ rx => q2 H' al' dd e' rh' rx
  | bad => rw [e] at q2; exact q2.elim
  | brk ρ h' => rw [e] at q2; exact q2.elim
  | cnt ρ h' => rw [e] at q2; exact q2.elim
theorem fnd_of {y : Str} {f : Addr} {fd : FuncData} {ps : List Str} {k : Nat} {F : List D → DH → Out D} (hm : mg y = some (.ref f)) (hb : Binds K fd ps []) (kp : PySem.W.keepIn K (.ref f) = true) (h : FnOk P w K mg base (L2.CX P w) k f fd ps (spD K ps.length F)) : FnD P w K mg base k y ps F :=
  ⟨⟨f, fd, h, hb, kp, hm⟩⟩
/-- the law's own promise -/
def spLaw (K : PySem.W.Frag) : Sp := fun vs H Q _ => ∃ (a : Addr) (ns : List Int), vs = [.ref a] ∧ SqL K H a (ns.map V.int) ∧ Only H ∧ ns.length ≤ 63 ∧ ∀ H', Q (.bl true) H'
theorem law_of {f : Addr} {fd : FuncData} {x : Str} {k : Nat} {F : List D → DH → Out D} (h : FnOk P w K mg base (L2.CX P w) k f fd [x] (spD K 1 F)) (hl : ∀ ns : List Int, ns.length ≤ 63 → ∃ h', F [.ref 0] [.scr (ns.map D.int)] = .val (.bl true) h') : FnOk P w K mg base (L2.CX P w) k f fd [x] (spLaw K) := by
  refine h.imp fun vs H Q E q => ?_
  obtain ⟨a, ns, rfl, hS, ho, hn, q⟩ := q
  obtain ⟨h', e⟩ := hl ns hn
  have r : RO K H [a] (.scr (ns.map D.int)) a := by
    refine ⟨ns.map V.int, ?_, RVs.of_ints⟩
    rcases hS with (hS | ⟨o, hS⟩) | hS
    · rcases ho a with z | ⟨o, xs, z⟩
      · rw [z] at hS; cases hS
      · rw [z] at hS; cases hS
    · exact .inl ⟨o, hS⟩
    · exact .inr fun H' => .inr hS
  refine ⟨[.ref 0], [.scr (ns.map D.int)], [a], rfl, .cons (.ref rfl) .nil, ⟨rfl, fun n o b e1 e2 => ?_, fun i j b o o' e1 e2 e3 e4 s1 s2 => ?_⟩, ?_⟩
  · cases n with
    | zero => cases e1; cases e2; exact r
    | succ n => cases e2
  · cases i with
    | zero => cases e3; cases s1
    | succ i => cases e1
  · rw [e]
    intro H' al' v _ _ rv
    cases rv
    exact q H'
end
/-- at the end of a call: what was made there and is not handed on is let go -/
theorem Serves.drop {d : D} {h j : DH} (hd : ∀ (K : PySem.W.Frag) (H : Hp) (al al' : List Addr) (v : V), al.length = h.length → RV K H (al ++ al') d v → RV K H al d v) (hj : ∀ (K : PySem.W.Frag) (H : Hp) (al al' : List Addr) (n : Nat) (o : DO) (a : Addr), al.length = h.length → h[n]? = some o → RO K H (al ++ al') o a → RO K H al o a) : True := trivial
end DL

namespace DL
open PySem PySem.Spec PyProof.Rows L2

section
variable {X : Cx} {K : PySem.W.Frag}
theorem ite_post {β γ : Type} {R : Hp → List Addr → β → γ → Prop} {Wx : Value → Option Addr → Hp → Prop} {H : Hp} {al : List Addr} {c : Prop} {inst : Decidable c} {o : Out β} {Q : γ → Hp → Prop} (q : PostG K R Wx H al (if c then o else .bad) Q) : c ∧ PostG K R Wx H al o Q := by
  by_cases h : c
  · rw [if_pos h] at q; exact ⟨h, q⟩
  · rw [if_neg h] at q; exact q.elim
theorem lst_of {H : Hp} {al : List Addr} {h : DH} (rh : RH K H al h) {n : Nat} {a : Addr} {xs : List D} (e : h[n]? = some (.lst xs)) (ha : al[n]? = some a) : ∃ vs, H a = some (.lst vs) ∧ RVs K H al xs vs := rh.obj _ _ _ e ha
theorem list_of {H : Hp} {al : List Addr} {h : DH} (rh : RH K H al h) {n : Nat} {a : Addr} {xs : List D} (e : listAt h n = some xs) (ha : al[n]? = some a) : ∃ vs, SqL K H a vs ∧ RVs K H al xs vs := by
  obtain ⟨a', vs, h1, h2, h3⟩ := rh.list e
  obtain rfl := rv_inj (K := K) (H := H) ha h1
  exact ⟨vs, h2, h3⟩
theorem RVs.nil_of {H : Hp} {al : List Addr} {xs : List D} {vs : List V} (r : RVs K H al xs vs) : xs = [] ↔ vs = [] := by
  cases r with
  | nil => simp
  | cons _ _ => simp

/-! ### + - * // % ** -/
def gAdd (d e : D) (h : DH) : Out D := match d, e with
  | .int i, .int j => .val (.int (i + j)) h
  | .str a, .str b => if a.length + b.length ≤ sizeLine then .val (.str (a ++ b)) h else .bad
  | .tup xs, .tup ys => if xs.length + ys.length ≤ sizeLine then .val (.tup (xs ++ ys)) h else .bad
  | .ref n, .ref m => match h[n]?, h[m]? with
    | some (.lst xs), some (.lst ys) => if xs.length + ys.length ≤ sizeLine then .val (.ref h.length) (h ++ [.lst (xs ++ ys)]) else .bad
    | _, _ => .bad
  | _, _ => .bad
def rAddU (K : PySem.W.Frag) : R2 := fun x y H Q => (rI0 (fun i j => .int (i + j)) x y H Q ∨ ∃ i j, x = .str i ∧ y = .str j ∧ i.length + j.length ≤ sizeLine ∧ Q (.str (i ++ j)) H) ∨ (rCat x y H Q ∨ rCatA K x y H Q)
theorem or_add : OpR X (binaryOp .Add) (rAddU X.K) := (op_add.or op_add_str).or (op_cat.or op_catA)
theorem oc_add : OpC K (rAddU K) gAdd := by
  intro Wx H al h x y d e Q rh r1 r2 q
  unfold gAdd at q
  split at q
  · cases r1; cases r2; exact .inl (.inl ⟨_, _, rfl, rfl, PostG.val q rh .int⟩)
  · cases r1; cases r2; obtain ⟨hz, q⟩ := ite_post q; exact .inl (.inr ⟨_, _, rfl, rfl, hz, PostG.val q rh .str⟩)
  · cases r1 with | tup hs hr => cases r2 with | tup hs2 hr2 =>
    obtain ⟨hz, q⟩ := ite_post q
    refine .inr (.inr ⟨_, _, _, _, rfl, rfl, hs, hs2, by rw [← hr.length, ← hr2.length]; exact hz, fun e => ?_, fun _ e => ?_, fun _ _ p hp => PostG.newTup q rh (hr.append hr2) hp⟩)
    · have e' := hr.nil_of.mpr e; subst e'; exact PostG.val q rh (.tup hs2 (by simpa using hr2))
    · have e' := hr2.nil_of.mpr e; subst e'; exact PostG.val q rh (.tup hs (by simpa using hr))
  · cases r1 with | ref ha => cases r2 with | ref hb =>
    split at q
    · rename_i e1 e2
      obtain ⟨hz, q⟩ := ite_post q
      obtain ⟨vs, h1, r1⟩ := lst_of rh e1 ha
      obtain ⟨ws, h2, r2⟩ := lst_of rh e2 hb
      exact .inr (.inl ⟨_, _, vs, ws, rfl, rfl, h1, h2, by rw [← r1.length, ← r2.length]; exact hz, fun p hp => PostG.newLst q rh (r1.append r2) hp⟩)
    · exact q.elim
  · exact q.elim
open Classical in
/-- an operator of two whole numbers -/
noncomputable def gII (C : Int → Int → Prop) (f : Int → Int → D) (d e : D) (h : DH) : Out D := match d, e with
  | .int i, .int j => if C i j then .val (f i j) h else .bad
  | _, _ => .bad
theorem oc_II {C C' : Int → Int → Prop} {f : Int → Int → D} {g : Int → Int → V} (hf : ∀ i j H al, RV K H al (f i j) (g i j)) (hC : ∀ i j, C i j → C' i j) : OpC K (rI C' g) (gII C f) := by
  intro Wx H al h x y d e Q rh r1 r2 q
  unfold gII at q
  split at q
  · cases r1; cases r2; obtain ⟨hz, q⟩ := ite_post q; exact ⟨_, _, rfl, rfl, hC _ _ hz, PostG.val q rh (hf _ _ _ _)⟩
  · exact q.elim
def gI0 (f : Int → Int → D) (d e : D) (h : DH) : Out D := match d, e with
  | .int i, .int j => .val (f i j) h
  | _, _ => .bad
theorem oc_I0 {f : Int → Int → D} {g : Int → Int → V} (hf : ∀ i j H al, RV K H al (f i j) (g i j)) : OpC K (rI0 g) (gI0 f) := by
  intro Wx H al h x y d e Q rh r1 r2 q
  unfold gI0 at q
  split at q
  · cases r1; cases r2; exact ⟨_, _, rfl, rfl, PostG.val q rh (hf _ _ _ _)⟩
  · exact q.elim
abbrev gSub := gI0 fun i j => .int (i - j)
theorem oc_sub : OpC K (rI0 fun i j => .int (i - j)) gSub := oc_I0 fun _ _ _ _ => .int
/-- one factor is small, or both together are below a million bits -/
def CMulU (i j : Int) : Prop := CMul i j ∨ CMulW i j
theorem op_mulU : OpR X (binaryOp .Mult) (rI CMulU fun i j => .int (i * j)) := opI fun _ _ _ _ _ _ _ hc q => mul_int q (hc.elim (fun z => z.ok) fun z => z.ok)
noncomputable abbrev gMul := gII CMulU fun i j => .int (i * j)
theorem oc_mul : OpC K (rI CMulU fun i j => .int (i * j)) gMul := oc_II (fun _ _ _ _ => .int) fun _ _ h => h
/-- // by any number but 0, below 2 ^ 9000 -/
def CDivG (_ j : Int) : Prop := j ≠ 0 ∧ j.natAbs.log2 < 9000
theorem op_fdivG : OpR X (binaryOp .FloorDiv) (rI CDivG fun i j => .int (i.fdiv j)) := opI fun _ _ _ _ _ _ _ hc q => floordiv_int hc.1 q (.inl (PyProof.noPylong_of_log2 hc.2))
noncomputable abbrev gFdiv := gII CDivG fun i j => .int (i.fdiv j)
theorem oc_fdiv : OpC K (rI CDivG fun i j => .int (i.fdiv j)) gFdiv := oc_II (fun _ _ _ _ => .int) fun _ _ h => h
noncomputable abbrev gMod := gII (fun _ j => 0 < j) fun i j => .int (i % j)
theorem oc_mod : OpC K (rI (fun _ j => 0 < j) fun i j => .int (i % j)) gMod := oc_II (fun _ _ _ _ => .int) fun _ _ h => h
noncomputable abbrev gPow := gII CPow fun i j => .int (i ^ j.toNat)
theorem oc_pow : OpC K (rI CPow fun i j => .int (i ^ j.toNat)) gPow := oc_II (fun _ _ _ _ => .int) fun _ _ h => h
/-- lists times a number, numbers times numbers: * -/
def gNeg (d : D) (h : DH) : Out D := match d with
  | .int i => .val (.int (-i)) h
  | _ => .bad
theorem uc_neg : UnC K (rU fun i => .int (-i)) gNeg := by
  intro Wx H al h x d Q rh r1 q
  unfold gNeg at q
  split at q
  · cases r1; exact ⟨_, rfl, PostG.val q rh .int⟩
  · exact q.elim

/-! ### comparisons -/
/-- < of whole numbers and of texts -/
def gLt (d e : D) (h : DH) : Out D := match d, e with
  | .int i, .int j => .val (.bl (decide (i < j))) h
  | .str a, .str b => .val (.bl (decide (a.cps.toList < b.cps.toList))) h
  | _, _ => .bad
def rLtU : R2 := fun x y H Q => rI0 (fun i j => .bl (decide (i < j))) x y H Q ∨ ∃ i j, x = .str i ∧ y = .str j ∧ Q (.bl (decide (i.cps.toList < j.cps.toList))) H
theorem or_lt : OpR X (compareOp .Lt) rLtU := op_lt.or op_lt_str
theorem oc_lt : OpC K rLtU gLt := by
  intro Wx H al h x y d e Q rh r1 r2 q
  unfold gLt at q
  split at q
  · cases r1; cases r2; exact .inl ⟨_, _, rfl, rfl, PostG.val q rh .bl⟩
  · cases r1; cases r2; exact .inr ⟨_, _, rfl, rfl, PostG.val q rh .bl⟩
  · exact q.elim
abbrev gLe := gI0 fun i j => .bl (decide (i ≤ j))
theorem oc_le : OpC K (rI0 fun i j => .bl (decide (i ≤ j))) gLe := oc_I0 fun _ _ _ _ => .bl
abbrev gGt := gI0 fun i j => .bl (decide (j < i))
theorem oc_gt : OpC K (rI0 fun i j => .bl (decide (j < i))) gGt := oc_I0 fun _ _ _ _ => .bl
abbrev gGe := gI0 fun i j => .bl (decide (j ≤ i))
theorem oc_ge : OpC K (rI0 fun i j => .bl (decide (j ≤ i))) gGe := oc_I0 fun _ _ _ _ => .bl
/-- data as the library's rules of == see them -/
def pdAll (f : D → Option PyData) : List D → Option (List PyData)
  | [] => some []
  | d :: r => match f d, pdAll f r with
    | some p, some ps => some (p :: ps)
    | _, _ => none
def pd (h : DH) : Nat → D → Option PyData
  | _, .non => some .none
  | _, .bl b => some (.bool b)
  | _, .int i => some (.int i)
  | _, .str x => some (.str x)
  | n + 1, .tup ds => (pdAll (pd h n) ds).map .tuple
  | n + 1, .ref m => match listAt h m with
    | some ds => (pdAll (pd h n) ds).map .list
    | none => none
  | _, _ => none
theorem dp_all {H : Hp} {al : List Addr} {f : D → Option PyData} (hf : ∀ d v p, RV K H al d v → f d = some p → Dp K H v p) : ∀ {ds : List D} {vs : List V} {ps : List PyData}, RVs K H al ds vs → pdAll f ds = some ps → DpAll K H vs ps
  | _, _, _, .nil, e => by cases e; exact .nil
  | d :: ds, v :: vs, ps, .cons r t, e => by
    unfold pdAll at e
    split at e
    · rename_i p ps' e1 e2
      cases e
      exact .cons (hf d v p r e1) (dp_all hf t e2)
    · cases e
theorem dp_of {H : Hp} {al : List Addr} {h : DH} (rh : RH K H al h) : ∀ (n : Nat) (d : D) (v : V) (p : PyData), RV K H al d v → pd h n d = some p → Dp K H v p
  | n, .non, _, _, .non, e => by cases n <;> (cases e; exact .non)
  | n, .bl b, _, _, .bl, e => by cases n <;> (cases e; exact .bl b)
  | n, .int b, _, _, .int, e => by cases n <;> (cases e; exact .int b)
  | n, .str b, _, _, .str, e => by cases n <;> (cases e; exact .str b)
  | 0, .tup ds, _, _, _, e => by cases e
  | n + 1, .tup ds, _, p, .tup hs hr, e => by
    have e : (pdAll (pd h n) ds).map PyData.tuple = some p := e
    cases e2 : pdAll (pd h n) ds with
    | none => rw [e2] at e; cases e
    | some ps => rw [e2] at e; cases e; exact .tup hs (dp_all (fun d v p r e => dp_of rh n d v p r e) hr e2)
  | 0, .ref m, _, _, _, e => by cases e
  | n + 1, .ref m, _, p, .ref ha, e => by
    unfold pd at e
    split at e
    · rename_i ds e1
      obtain ⟨vs, hs, hr⟩ := list_of rh e1 ha
      cases e2 : pdAll (pd h n) ds with
      | none => rw [e2] at e; cases e
      | some ps => rw [e2] at e; cases e; exact .lst hs (dp_all (fun d v p r e => dp_of rh n d v p r e) hr e2)
    · cases e
  | 0, .raw _, _, _, _, e => by cases e
  | n + 1, .raw _, _, _, _, e => by cases e
def scalD : D → D → Bool
  | .non, .non => true | .non, .int _ => true | .int _, .non => true | .non, .bl _ => true | .bl _, .non => true | .non, .str _ => true | .str _, .non => true
  | .int _, .int _ => true | .bl _, .bl _ => true | .str _, .str _ => true
  | .int _, .str _ => true | .str _, .int _ => true | .bl _, .str _ => true | .str _, .bl _ => true
  | _, _ => false
/-- == of flat things -/
def eqD : D → D → Bool
  | .non, .non => true
  | .bl a, .bl b => a == b
  | .bl a, .int b => (if a then 1 else 0) == b
  | .int a, .bl b => a == (if b then 1 else 0)
  | .int a, .int b => a == b
  | .str a, .str b => a == b
  | _, _ => false
theorem scal_of {H : Hp} {al : List Addr} {d e : D} {x y : V} (r : RV K H al d x) (r2 : RV K H al e y) (f : scalD d e = true) : scal x y = true ∧ decide (x = y) = eqD d e := by
  cases r <;> cases r2 <;> first | (cases (show false = true from f)) | exact ⟨rfl, dec_int⟩ | exact ⟨rfl, dec_bl⟩ | exact ⟨rfl, dec_str⟩ | exact ⟨rfl, rfl⟩
def gEq (d e : D) (h : DH) : Out D := if scalD d e = true then .val (.bl (eqD d e)) h else match pd h 16 d, pd h 16 e with
  | some p, some r => if SeqAt.shaped p = true ∧ SeqAt.shaped r = true then .val (.bl (PyData.eqv p r)) h else .bad
  | _, _ => .bad
def gNe (d e : D) (h : DH) : Out D := if scalD d e = true then .val (.bl (!eqD d e)) h else match pd h 16 d, pd h 16 e with
  | some p, some r => if SeqAt.shaped p = true ∧ SeqAt.shaped r = true then .val (.bl (!PyData.eqv p r)) h else .bad
  | _, _ => .bad
def rEqU (K : PySem.W.Frag) : R2 := fun x y H Q => rEq x y H Q ∨ rEqD K x y H Q
def rNeU (K : PySem.W.Frag) : R2 := fun x y H Q => rNe x y H Q ∨ rNeD K x y H Q
theorem or_eq (hu : X.A.units + 64 < cLine) : OpR X (compareOp .Eq) (rEqU X.K) := op_eq.or (op_eqD hu)
theorem or_ne (hu : X.A.units + 64 < cLine) : OpR X (compareOp .NotEq) (rNeU X.K) := op_ne.or (op_neD hu)
theorem oc_eq : OpC K (rEqU K) gEq := by
  intro Wx H al h x y d e Q rh r1 r2 q
  unfold gEq at q
  split at q
  · rename_i z
    obtain ⟨z1, z2⟩ := scal_of r1 r2 z
    refine .inl ⟨z1, ?_⟩
    rw [z2]; exact PostG.val q rh .bl
  · split at q
    · rename_i p r e1 e2
      obtain ⟨⟨z1, z2⟩, q⟩ := ite_post q
      exact .inr ⟨p, r, dp_of rh _ _ _ _ r1 e1, dp_of rh _ _ _ _ r2 e2, z1, z2, PostG.val q rh .bl⟩
    · exact q.elim
theorem oc_ne : OpC K (rNeU K) gNe := by
  intro Wx H al h x y d e Q rh r1 r2 q
  unfold gNe at q
  split at q
  · rename_i z
    obtain ⟨z1, z2⟩ := scal_of r1 r2 z
    refine .inl ⟨z1, ?_⟩
    rw [z2]; exact PostG.val q rh .bl
  · split at q
    · rename_i p r e1 e2
      obtain ⟨⟨z1, z2⟩, q⟩ := ite_post q
      exact .inr ⟨p, r, dp_of rh _ _ _ _ r1 e1, dp_of rh _ _ _ _ r2 e2, z1, z2, PostG.val q rh .bl⟩
    · exact q.elim
/-- is None, is True, is False -/
def isNon : D → Bool
  | .non => true
  | _ => false
def gIs (d e : D) (h : DH) : Out D := match d, e with
  | .bl a, .bl b => .val (.bl (decide (a = b))) h
  | .raw _, _ => .bad
  | d, .non => .val (.bl (isNon d)) h
  | _, _ => .bad
def gIsNot (d e : D) (h : DH) : Out D := match d, e with
  | .bl a, .bl b => .val (.bl (!decide (a = b))) h
  | .raw _, _ => .bad
  | d, .non => .val (.bl (!isNon d)) h
  | _, _ => .bad
theorem isNon_of {H : Hp} {al : List Addr} {d : D} {x : V} (r : RV K H al d x) (h : ∀ v, d ≠ .raw v) : isNon d = decide (x = .non) := by
  cases r with
  | raw => exact (h _ rfl).elim
  | _ => simp [isNon]
theorem or_is : OpR X (compareOp .Is) (fun x y H Q => rIsB x y H Q ∨ (y = .non ∧ Q (.bl (decide (x = .non))) H)) := op_isBl.or op_isN
theorem oc_is : OpC K (fun x y H Q => rIsB x y H Q ∨ (y = .non ∧ Q (.bl (decide (x = .non))) H)) gIs := by
  intro Wx H al h x y d e Q rh r1 r2 q
  unfold gIs at q
  split at q
  · cases r1; cases r2; exact .inl ⟨_, _, rfl, rfl, PostG.val q rh .bl⟩
  · exact q.elim
  · rename_i n1 n2
    cases r2
    refine .inr ⟨rfl, ?_⟩
    rw [← isNon_of r1 (by intro v z; subst z; exact n2 _ rfl)]
    exact PostG.val q rh .bl
  · exact q.elim
theorem or_isnot : OpR X (compareOp .IsNot) (fun x y H Q => rNotB x y H Q ∨ (y = .non ∧ Q (.bl (!decide (x = .non))) H)) := op_notBl.or op_notN
theorem oc_isnot : OpC K (fun x y H Q => rNotB x y H Q ∨ (y = .non ∧ Q (.bl (!decide (x = .non))) H)) gIsNot := by
  intro Wx H al h x y d e Q rh r1 r2 q
  unfold gIsNot at q
  split at q
  · cases r1; cases r2; exact .inl ⟨_, _, rfl, rfl, PostG.val q rh .bl⟩
  · exact q.elim
  · rename_i n1 n2
    cases r2
    refine .inr ⟨rfl, ?_⟩
    rw [← isNon_of r1 (by intro v z; subst z; exact n2 _ rfl)]
    exact PostG.val q rh .bl
  · exact q.elim

/-! ### in, not in -/
def flatD : D → Bool
  | .non => true | .bl _ => true | .int _ => true | .str _ => true | _ => false
def inD (x : D) (xs : List D) : Bool := xs.any fun y => eqD y x
theorem flat_of {H : Hp} {al : List Addr} {d : D} {x : V} (r : RV K H al d x) (f : flatD d = true) : flatV x = true := by
  cases r <;> first | rfl | cases f
theorem eqD_of {H : Hp} {al : List Addr} {d e : D} {x y : V} (r : RV K H al d x) (r2 : RV K H al e y) (f : flatD d = true) (f2 : flatD e = true) : eqV x y = eqD d e := by
  cases r <;> cases r2 <;> first | rfl | (cases (show false = true from f)) | (cases (show false = true from f2))
theorem flats_of {H : Hp} {al : List Addr} : ∀ {ds : List D} {xs : List V}, RVs K H al ds xs → ds.all flatD = true → xs.all flatV = true
  | _, _, .nil, _ => rfl
  | _, _, .cons r t, f => by
    rw [List.all_cons, Bool.and_eq_true] at f
    rw [List.all_cons, Bool.and_eq_true]
    exact ⟨flat_of r f.1, flats_of t f.2⟩
theorem inD_of {H : Hp} {al : List Addr} {d : D} {x : V} (r : RV K H al d x) (f : flatD d = true) : ∀ {ds : List D} {xs : List V}, RVs K H al ds xs → ds.all flatD = true → inV x xs = inD d ds
  | _, _, .nil, _ => rfl
  | _, _, .cons r1 t, f1 => by
    rw [List.all_cons, Bool.and_eq_true] at f1
    unfold inV inD
    rw [List.any_cons, List.any_cons, eqD_of r1 r f1.1 f]
    have ih := inD_of r f t f1.2
    unfold inV inD at ih
    rw [ih]
def gInG (neg : Bool) (d e : D) (h : DH) : Out D := match d, e with
  | .str a, .str b => .val (.bl (if neg then !(!(Builtin.Str.occurrences b a 0 b.length 1).isEmpty) else !(Builtin.Str.occurrences b a 0 b.length 1).isEmpty)) h
  | d, .tup ds => if flatD d = true ∧ ds.all flatD = true then .val (.bl (if neg then !inD d ds else inD d ds)) h else .bad
  | d, .ref n => match listAt h n with
    | some ds => if flatD d = true ∧ ds.all flatD = true then .val (.bl (if neg then !inD d ds else inD d ds)) h else .bad
    | none => .bad
  | _, _ => .bad
abbrev gIn := gInG false
abbrev gNotIn := gInG true
def rInStr (neg : Bool) : R2 := fun x y H Q => ∃ i j, x = .str i ∧ y = .str j ∧ Q (.bl (if neg then !(!(Builtin.Str.occurrences j i 0 j.length 1).isEmpty) else !(Builtin.Str.occurrences j i 0 j.length 1).isEmpty)) H
theorem or_in : OpR X (compareOp .In) (fun x y H Q => rInStr false x y H Q ∨ rIn X.K false x y H Q) := (show OpR X (compareOp .In) (rInStr false) from op_in_str).or op_in_seq
theorem or_notin : OpR X (compareOp .NotIn) (fun x y H Q => rInStr true x y H Q ∨ rIn X.K true x y H Q) := (show OpR X (compareOp .NotIn) (rInStr true) from op_notIn_str).or op_notIn_seq
theorem oc_in (neg : Bool) : OpC K (fun x y H Q => rInStr neg x y H Q ∨ rIn K neg x y H Q) (gInG neg) := by
  intro Wx H al h x y d e Q rh r1 r2 q
  unfold gInG at q
  split at q
  · cases r1; cases r2; exact .inl ⟨_, _, rfl, rfl, PostG.val q rh .bl⟩
  · cases r2 with | tup hs hr =>
    obtain ⟨⟨f1, f2⟩, q⟩ := ite_post q
    refine .inr ⟨_, _, rfl, .inr hs, flat_of r1 f1, flats_of hr f2, ?_⟩
    rw [inD_of r1 f1 hr f2]
    exact PostG.val q rh .bl
  · cases r2 with | ref ha =>
    split at q
    · rename_i e1
      obtain ⟨vs, hs, hr⟩ := list_of rh e1 ha
      obtain ⟨⟨f1, f2⟩, q⟩ := ite_post q
      refine .inr ⟨_, _, rfl, .inl hs, flat_of r1 f1, flats_of hr f2, ?_⟩
      rw [inD_of r1 f1 hr f2]
      exact PostG.val q rh .bl
    · exact q.elim
  · exact q.elim

/-! ### items -/
def gIx (d e : D) (h : DH) : Out D := match d, e with
  | .tup ds, .int i => match atI ds i with
    | some x => .val x h
    | none => .bad
  | .str z, .int i => if z.length ≤ sizeLine then (match atI z.cps.toList i with
    | some c => .val (.str ⟨#[c]⟩) h
    | none => .bad) else .bad
  | .ref n, .int i => match listAt h n with
    | some ds => match atI ds i with
      | some x => .val x h
      | none => .bad
    | none => .bad
  | _, _ => .bad
theorem RVs.atI {H : Hp} {al : List Addr} {ds : List D} {vs : List V} (r : RVs K H al ds vs) {i : Int} {d : D} (e : L2.atI ds i = some d) : ∃ v, L2.atI vs i = some v ∧ RV K H al d v := by
  unfold L2.atI at e ⊢
  rw [← r.length]
  cases q : ixN ds.length i with
  | none => rw [q] at e; cases e
  | some j => rw [q] at e; exact r.get (show ds[j]? = some d from e)
theorem oc_ix : OpC K (rIx K) gIx := by
  intro Wx H al h x y d e Q rh r1 r2 q
  unfold gIx at q
  split at q
  · cases r1 with | tup hs hr => cases r2 with | int =>
    split at q
    · rename_i e1
      obtain ⟨v, h1, h2⟩ := hr.atI e1
      exact .inr (.inl ⟨_, _, _, v, rfl, rfl, hs, h1, PostG.val q rh h2⟩)
    · exact q.elim
  · cases r1; cases r2
    obtain ⟨hz, q⟩ := ite_post q
    split at q
    · rename_i e1
      exact .inr (.inr ⟨_, _, _, rfl, rfl, hz, e1, PostG.val q rh .str⟩)
    · exact q.elim
  · cases r1 with | ref ha => cases r2 with | int =>
    split at q
    · rename_i e1
      obtain ⟨vs, hs, hr⟩ := list_of rh e1 ha
      split at q
      · rename_i e2
        obtain ⟨v, h1, h2⟩ := hr.atI e2
        exact .inl ⟨_, _, _, v, rfl, rfl, hs, h1, PostG.val q rh h2⟩
      · exact q.elim
    · exact q.elim
  · exact q.elim

/-! ### slices -/
def cutD (xs : List D) (lo hi : Option Int) : List D := (xs.drop (HT.sIx xs.length 0 lo)).take (HT.sIx xs.length xs.length hi - HT.sIx xs.length 0 lo)
def gSl (d : D) (lo hi : Option Int) (h : DH) : Out D := match d with
  | .tup ds => .val (.tup (cutD ds lo hi)) h
  | .str z => if z.length ≤ sizeLine then .val (.str (cutS z lo hi)) h else .bad
  | .ref n => match listAt h n with
    | some ds => .val (.ref h.length) (h ++ [.lst (cutD ds lo hi)])
    | none => .bad
  | _ => .bad
theorem cutD_of {H : Hp} {al : List Addr} {ds : List D} {vs : List V} (r : RVs K H al ds vs) (lo hi : Option Int) : RVs K H al (cutD ds lo hi) (cutV vs lo hi) := by
  unfold cutD cutV
  rw [r.length]
  exact (r.drop _).take _
def mPN : EM (Option Int) := fun _ h => .val none h
def mPS (ma : EM D) : EM (Option Int) := fun ρ h => (ma ρ h).bind fun d h1 => match d with
  | .int i => .val (some i) h1
  | _ => .bad
def mSl (ma : EM D) (ml mh : EM (Option Int)) : EM D := fun ρ h => (ma ρ h).bind fun d h1 => (ml ρ h1).bind fun lo h2 => (mh ρ h2).bind fun hi h3 => gSl d lo hi h3
abbrev RI' : Hp → List Addr → Option Int → Option Int → Prop := fun _ _ a b => a = b
def DP (X : Cx) (W : WX) (e : Option Expr) (m : EM (Option Int)) : Prop := PO X e (tG X.K RI' W m)
theorem _root_.L2.PO.imp {X : Cx} {e : Option Expr} {t t' : TO} (h : PO X e t) (i : ∀ σ H Q, t' σ H Q → t σ H Q) : PO X e t' := ⟨fun pins s σ H Q I q => h.run pins s σ H Q I (i σ H Q q)⟩
variable {W : WX} {a e : Expr} {lo hi : Option Expr} {ma : EM D} {ml mh : EM (Option Int)} {pos p2 : Pos}
theorem dp_none : DP X W none mPN := po_none.imp fun σ H Q ⟨ρ, h, al, rs, rh, q⟩ => PostG.val (R := RI') q rh rfl
theorem dp_some (h : DE X W e ma) : DP X W (some e) (mPS ma) := by
  refine (po_some h).imp fun σ H Q ⟨ρ, h, al, rs, rh, q⟩ => ⟨ρ, h, al, rs, rh, (PostG.bind q).imp ?_⟩
  rintro x H1 ⟨d, h1, al1, e1, rh1, r1, q1⟩
  cases r1 with
  | int => exact ⟨_, rfl, PostG.val (R := RI') q1 rh1 rfl⟩
  | _ => exact q1.elim
theorem de_slice (he : DE X W a ma) (hl : DP X W lo ml) (hu : DP X W hi mh) : DE X W (.Subscript a (.Slice lo hi none p2) pos) (mSl ma ml mh) := by
  refine (pe_slice (sl_list.or (sl_tupA.or sl_str)) he hl hu).imp fun σ H Q ⟨ρ, h, al, rs, rh, q⟩ => ⟨ρ, h, al, rs, rh, (PostG.bind q).imp ?_⟩
  rintro x H1 ⟨d, h1, al1, e1, rh1, r1, q1⟩
  refine ⟨ρ, h1, al1, rs.evo e1, rh1, (PostG.bind q1).imp ?_⟩
  rintro l H2 ⟨l', h2, al2, e2, rh2, rl, q2⟩
  have rl : l' = l := rl
  subst rl
  refine ⟨ρ, h2, al2, (rs.evo e1).evo e2, rh2, (PostG.bind q2).imp ?_⟩
  rintro u H3 ⟨u', h3, al3, e3, rh3, ru, q3⟩
  have ru : u' = u := ru
  subst ru
  have r3 := r1.evo (e2.trans e3)
  unfold gSl at q3
  split at q3
  · cases r3 with | @tup aa vs ds hs hr =>
    refine .inr (.inl ⟨_, _, rfl, hs, fun w => ?_, fun _ p hp => PostG.newTup q3 rh3 (cutD_of hr _ _) hp⟩)
    refine PostG.val q3 rh3 (.tup hs ?_)
    unfold cutD
    rw [hr.length, w.1, w.2, ← hr.length]
    simpa using hr
  · cases r3
    obtain ⟨hz, q3⟩ := ite_post q3
    exact .inr (.inr ⟨_, rfl, hz, PostG.val q3 rh3 .str⟩)
  · cases r3 with | ref ha =>
    split at q3
    · rename_i e5
      obtain ⟨vs, hs, hr⟩ := list_of rh3 e5 ha
      exact .inl ⟨_, _, rfl, hs, fun p hp => PostG.newLst q3 rh3 (cutD_of hr _ _) hp⟩
    · exact q3.elim
  · exact q3.elim
end
end DL

namespace DL
open PySem PySem.Spec PyProof.Rows L2

section
variable {X : Cx} {K : PySem.W.Frag} {W : WX}
theorem ite_postI {c : Prop} {inst : Decidable c} {H : Hp} {al : List Addr} {Wx : Value → Option Addr → Hp → Prop} {o : Out D} {Q : VK} (q : PostG K (RV K) Wx H al (if c then o else .bad) Q) : c ∧ PostG K (RV K) Wx H al o Q := ite_post q
/-! ### built-in functions -/
def gLen (ds : List D) (h : DH) : Out D := match ds with
  | [.tup xs] => .val (.int xs.length) h
  | [.str z] => if z.length ≤ sizeLine then .val (.int z.length) h else .bad
  | [.ref n] => match h[n]? with
    | some (.lst xs) => .val (.int xs.length) h
    | some (.scr xs) => .val (.int xs.length) h
    | _ => .bad
  | _ => .bad
theorem cc_len : CallC K (fun xs H Q => ∃ x n, xs = [x] ∧ LenV K x H n ∧ Q (.int n) H) gLen := by
  intro Wx H al h xs ds Q rh r q
  unfold gLen at q
  split at q
  · cases r with | cons r t => cases t; cases r with | tup hs hr =>
    exact ⟨_, _, rfl, .inr ⟨_, hs, hr.length⟩, PostG.val q rh .int⟩
  · cases r with | cons r t =>
    cases t; cases r
    obtain ⟨hz, q⟩ := ite_post q
    exact ⟨_, _, rfl, ⟨hz, rfl⟩, PostG.val q rh .int⟩
  · cases r with | cons r t => cases t; cases r with | ref ha =>
    split at q
    · rename_i e
      obtain ⟨vs, hs, hr⟩ := list_of rh (show listAt h _ = some _ by unfold listAt; rw [e]) ha
      exact ⟨_, _, rfl, .inl ⟨_, hs, hr.length⟩, PostG.val q rh .int⟩
    · rename_i e
      obtain ⟨vs, hs, hr⟩ := list_of rh (show listAt h _ = some _ by unfold listAt; rw [e]) ha
      exact ⟨_, _, rfl, .inl ⟨_, hs, hr.length⟩, PostG.val q rh .int⟩
    · exact q.elim
  · exact q.elim
def gAbs (ds : List D) (h : DH) : Out D := match ds with
  | [.int i] => .val (.int (if i < 0 then -i else i)) h
  | _ => .bad
theorem cc_abs : CallC K (fun xs H Q => ∃ i, xs = [.int i] ∧ Q (.int (if i < 0 then -i else i)) H) gAbs := by
  intro Wx H al h xs ds Q rh r q
  unfold gAbs at q
  split at q
  · cases r with | cons r t => cases t; cases r; exact ⟨_, rfl, PostG.val q rh .int⟩
  · exact q.elim
def gMax2 (ds : List D) (h : DH) : Out D := match ds with
  | [.int i, .int j] => .val (.int (if j > i then j else i)) h
  | _ => .bad
theorem cc_max2 : CallC K (fun xs H Q => ∃ i j, xs = [.int i, .int j] ∧ Q (.int (if j > i then j else i)) H) gMax2 := by
  intro Wx H al h xs ds Q rh r q
  unfold gMax2 at q
  split at q
  · cases r with | cons r t => cases t with | cons r2 t => cases t; cases r; cases r2; exact ⟨_, _, rfl, PostG.val q rh .int⟩
  · exact q.elim
def gMin2 (ds : List D) (h : DH) : Out D := match ds with
  | [.int i, .int j] => .val (.int (if j < i then j else i)) h
  | _ => .bad
theorem cc_min2 : CallC K (fun xs H Q => ∃ i j, xs = [.int i, .int j] ∧ Q (.int (if j < i then j else i)) H) gMin2 := by
  intro Wx H al h xs ds Q rh r q
  unfold gMin2 at q
  split at q
  · cases r with | cons r t => cases t with | cons r2 t => cases t; cases r; cases r2; exact ⟨_, _, rfl, PostG.val q rh .int⟩
  · exact q.elim
/-- int(n), int(flag) -/
def gInt1 (ds : List D) (h : DH) : Out D := match ds with
  | [.int i] => .val (.int i) h
  | [.bl k] => .val (.int (if k then 1 else 0)) h
  | _ => .bad
theorem cc_int1 : CallC K (fun xs H Q => (∃ i, xs = [.int i] ∧ Q (.int i) H) ∨ ∃ k, xs = [.bl k] ∧ Q (.int (if k then 1 else 0)) H) gInt1 := by
  intro Wx H al h xs ds Q rh r q
  unfold gInt1 at q
  split at q
  · cases r with | cons r t => cases t; cases r; exact .inl ⟨_, rfl, PostG.val q rh .int⟩
  · cases r with | cons r t => cases t; cases r; exact .inr ⟨_, rfl, PostG.val q rh .int⟩
  · exact q.elim
def gListOf (ds : List D) (h : DH) : Out D := match ds with
  | [.tup xs] => .val (.ref h.length) (h ++ [.lst xs])
  | [.ref n] => match listAt h n with
    | some xs => .val (.ref h.length) (h ++ [.lst xs])
    | none => .bad
  | _ => .bad
theorem cc_listOf : CallC K (fun xs H Q => ∃ p ys, xs = [.ref p] ∧ (SqL K H p ys ∨ SqT K H p ys) ∧ ∀ l, H l = none → Q (.ref l) (upd H l (.lst ys))) gListOf := by
  intro Wx H al h xs ds Q rh r q
  unfold gListOf at q
  split at q
  · cases r with | cons r t => cases t; cases r with | tup hs hr =>
    exact ⟨_, _, rfl, .inr hs, fun l hl => PostG.newLst q rh hr hl⟩
  · cases r with | cons r t => cases t; cases r with | ref ha =>
    split at q
    · rename_i e
      obtain ⟨vs, hs, hr⟩ := list_of rh e ha
      exact ⟨_, _, rfl, .inl hs, fun l hl => PostG.newLst q rh hr hl⟩
    · exact q.elim
  · exact q.elim
def gTupOf (ds : List D) (h : DH) : Out D := match ds with
  | [.tup xs] => .val (.tup xs) h
  | [.ref n] => match listAt h n with
    | some xs => .val (.tup xs) h
    | none => .bad
  | _ => .bad
theorem cc_tupOf : CallC K (fun xs H Q => ∃ p ys, xs = [.ref p] ∧ ((SqL K H p ys ∧ ∀ l, H l = none → Q (.ref l) (upd H l (.tup ys))) ∨ (SqT K H p ys ∧ Q (.ref p) H))) gTupOf := by
  intro Wx H al h xs ds Q rh r q
  unfold gTupOf at q
  split at q
  · cases r with | cons r t => cases t; cases r with | tup hs hr =>
    exact ⟨_, _, rfl, .inr ⟨hs, PostG.val q rh (.tup hs hr)⟩⟩
  · cases r with | cons r t => cases t; cases r with | ref ha =>
    split at q
    · rename_i e
      obtain ⟨vs, hs, hr⟩ := list_of rh e ha
      exact ⟨_, _, rfl, .inl ⟨hs, fun l hl => PostG.newTup q rh hr hl⟩⟩
    · exact q.elim
  · exact q.elim
/-- isinstance against a built-in type -/
def tyR : Option DO → Option String
  | some (.lst _) => some "list"
  | some (.dk _) => some "dict"
  | some (.dt _) => some "dict"
  | some (.scr _) => some "list"
  | _ => none
def tyD (h : DH) : D → Option String
  | .non => some "NoneType"
  | .bl _ => some "bool"
  | .int _ => some "int"
  | .str _ => some "str"
  | .tup _ => some "tuple"
  | .ref n => tyR h[n]?
  | .raw _ => none
def gIsTy (ds : List D) (h : DH) : Out D := match ds with
  | [d, .raw (.ty T)] => match tyD h d with
    | some t => match kitB t T with
      | some b => .val (.bl b) h
      | none => .bad
    | none => .bad
  | _ => .bad
theorem ty_of {H : Hp} {al : List Addr} {h : DH} (rh : RH K H al h) {d : D} {x : V} (r : RV K H al d x) {t : String} (e : tyD h d = some t) : TyX K H x (.type t) := by
  cases r with
  | non => cases e; exact .base .non
  | bl => cases e; exact .base (.bl _)
  | int => cases e; exact .base (.int _)
  | str => cases e; exact .base (.str _)
  | raw => cases e
  | tup hs hr =>
    cases e
    rcases hs with (hs | ⟨o, hs⟩) | ⟨o, its, n, h1, h2, _⟩
    · exact .base (.tup hs)
    · exact .fTuple hs
    · exact .kTuple h1 h2
  | ref ha =>
    rename_i n a
    have e : tyR h[n]? = some t := e
    cases e1 : h[n]? with
    | none => rw [e1] at e; cases e
    | some o =>
      rw [e1] at e
      cases o with
      | lst ds => cases e; obtain ⟨vs, h1, _⟩ := rh.obj _ _ _ e1 ha; exact .base (.lst h1)
      | dk ds => cases e; obtain ⟨vs, h1, _⟩ := rh.obj _ _ _ e1 ha; exact .base (.dK h1)
      | dt ds => cases e; obtain ⟨vs, h1, _⟩ := rh.obj _ _ _ e1 ha; exact .base (.dT h1)
      | ins C fs => cases e
      | scr ds =>
        cases e
        obtain ⟨vs, h1, _⟩ := rh.obj _ _ _ e1 ha
        rcases h1 with ⟨o, h1⟩ | h1
        · exact .base (.frz h1)
        · rcases h1 (fun _ => none) with (h1 | ⟨o, h1⟩) | ⟨o, its, n, h1, h2, _⟩
          · cases h1
          · cases h1
          · exact .kList h1 h2
theorem cc_isTy : CallC K (rIsi K) gIsTy := by
  intro Wx H al h xs ds Q rh r q
  unfold gIsTy at q
  split at q
  · cases r with | cons r t => cases t with | cons r2 t =>
    cases t; cases r2
    split at q
    · rename_i e1
      split at q
      · rename_i e2
        exact ⟨_, _, _, _, _, rfl, .ty _, ty_of rh r e1, kit_ty e2, PostG.val q rh .bl⟩
      · exact q.elim
    · exact q.elim
  · exact q.elim
/-- str of a whole number -/
def gStr1 (ds : List D) (h : DH) : Out D := match ds with
  | [.int i] => if i.natAbs.log2 < 1920 then .val (.str (toString i)) h else .bad
  | _ => .bad
theorem cc_str1 : CallC K (fun xs H Q => ∃ i, xs = [.int i] ∧ i.natAbs.log2 < 1920 ∧ Q (.str (toString i)) H) gStr1 := by
  intro Wx H al h xs ds Q rh r q
  unfold gStr1 at q
  split at q
  · cases r with | cons r t =>
    cases t; cases r
    obtain ⟨hz, q⟩ := ite_post q
    exact ⟨_, rfl, hz, PostG.val q rh .str⟩
  · exact q.elim

/-! ### methods of texts -/
def MtC (K : PySem.W.Frag) (r : V → List V → Hp → VK → Prop) (g : D → List D → DH → Out D) : Prop :=
  ∀ (Wx : Value → Option Addr → Hp → Prop) (H : Hp) (al : List Addr) (h : DH) (x : V) (d : D) (xs : List V) (ds : List D) (Q : VK), RH K H al h → RV K H al d x → RVs K H al ds xs → PostG K (RV K) Wx H al (g d ds h) Q → r x xs H Q
variable {a e o : Expr} {es : List Expr} {ma mb : EM D} {mr : EM (List D)} {pos apos : Pos}
def isStrD : D → Bool
  | .str _ => true
  | _ => false
def mM0 (g : D → List D → DH → Out D) (ma : EM D) : EM D := fun ρ h => (ma ρ h).bind fun d h1 => if isStrD d = true then g d [] h1 else .bad
def mM1 (g : D → List D → DH → Out D) (ma mb : EM D) : EM D := fun ρ h => (ma ρ h).bind fun d h1 => if isStrD d = true then (mb ρ h1).bind fun e h2 => g d [e] h2 else .bad
theorem de_m0 {id : String} {name : Str} {r : V → List V → Hp → VK → Prop} {g : D → List D → DH → Out D} (slot : Slot "str" name id) (ty : typeOf (.builtin id) = pure (.type "method_descriptor")) (rule : MtR X id r) (hc : MtC X.K r g) (ho : DE X W o ma)
    (hbase : attributeBase o name X.env (eval o X.env) = eval o X.env := by rfl) (hline : (apos.endLine == pos.line) = true := by rfl) : DE X W (.Call (.Attribute o name apos) [] [] pos) (mM0 g ma) := by
  refine (pe_m0 slot ty rule ho hbase hline).imp fun σ H Q ⟨ρ, h, al, rs, rh, q⟩ => ⟨ρ, h, al, rs, rh, (PostG.bind q).imp ?_⟩
  rintro x H1 ⟨d, h1, al1, e1, rh1, r1, q1⟩
  obtain ⟨z, q1⟩ := ite_post q1
  refine ⟨?_, hc _ H1 al1 h1 x d [] [] Q rh1 r1 .nil q1⟩
  cases r1 <;> first | exact ⟨_, rfl⟩ | cases z
theorem de_m1 {id : String} {name : Str} {r : V → List V → Hp → VK → Prop} {g : D → List D → DH → Out D} (slot : Slot "str" name id) (ty : typeOf (.builtin id) = pure (.type "method_descriptor")) (rule : MtR X id r) (hc : MtC X.K r g) (ho : DE X W o ma) (he : DE X W e mb)
    (hs : starEach [e] X.env = [(false, eval e X.env)] := by rfl) (hbase : attributeBase o name X.env (eval o X.env) = eval o X.env := by rfl) (hline : (apos.endLine == pos.line) = true := by rfl) : DE X W (.Call (.Attribute o name apos) [e] [] pos) (mM1 g ma mb) := by
  refine (pe_m1 slot ty rule ho he hs hbase hline).imp fun σ H Q ⟨ρ, h, al, rs, rh, q⟩ => ⟨ρ, h, al, rs, rh, (PostG.bind q).imp ?_⟩
  rintro x H1 ⟨d, h1, al1, e1, rh1, r1, q1⟩
  obtain ⟨z, q1⟩ := ite_post q1
  refine ⟨?_, ρ, h1, al1, rs.evo e1, rh1, (PostG.bind q1).imp ?_⟩
  · cases r1 <;> first | exact ⟨_, rfl⟩ | cases z
  · rintro y H2 ⟨e, h2, al2, e2, rh2, r2, q2⟩
    exact hc _ H2 al2 h2 x d [y] [e] Q rh2 (r1.evo e2) (.cons r2 .nil) q2
def strsOf : List D → Option (List Str)
  | [] => some []
  | .str x :: r => (strsOf r).map (x :: ·)
  | _ => none
theorem strsOf_map : ∀ ys : List Str, strsOf (ys.map D.str) = some ys
  | [] => rfl
  | y :: r => by
    show (strsOf (r.map D.str)).map (y :: ·) = _
    rw [strsOf_map r]; rfl
theorem strsOf_of {H : Hp} {al : List Addr} : ∀ {ds : List D} {vs : List V} {ys : List Str}, RVs K H al ds vs → strsOf ds = some ys → vs = ys.map V.str
  | _, _, _, .nil, e => by cases e; rfl
  | d :: ds, v :: vs, ys, .cons r t, e => by
    cases r with
    | str =>
      rename_i x
      have e : (strsOf ds).map (x :: ·) = some ys := e
      cases e2 : strsOf ds with
      | none => rw [e2] at e; cases e
      | some zs => rw [e2] at e; cases e; rw [strsOf_of t e2]; rfl
    | _ => cases e
def gJoin (d : D) (es : List D) (h : DH) : Out D := match d, es with
  | .str a, [.tup ds] => match strsOf ds with
    | some ys => if (ys.map (·.length)).sum + ys.length * a.length ≤ 16777216 then .val (.str (Txt.join a ys)) h else .bad
    | none => .bad
  | .str a, [.ref n] => match (listAt h n).bind strsOf with
    | some ys => if (ys.map (·.length)).sum + ys.length * a.length ≤ 16777216 then .val (.str (Txt.join a ys)) h else .bad
    | none => .bad
  | _, _ => .bad
theorem tc_join : MtC K (fun x xs H Q => ∃ a p, ∃ ys : List Str, x = .str a ∧ xs = [.ref p] ∧ (SqL K H p (ys.map V.str) ∨ SqT K H p (ys.map V.str)) ∧
    (ys.map (·.length)).sum + ys.length * a.length ≤ 16777216 ∧ Q (.str (Txt.join a ys)) H) gJoin := by
  intro Wx H al h x d xs ds Q rh r rs q
  unfold gJoin at q
  split at q
  · cases r; cases rs with | cons r t => cases t; cases r with | tup hs hr =>
    split at q
    · rename_i e
      obtain ⟨hz, q⟩ := ite_post q
      have := strsOf_of hr e
      subst this
      exact ⟨_, _, _, rfl, rfl, .inr hs, hz, PostG.val q rh .str⟩
    · exact q.elim
  · cases r; cases rs with | cons r t => cases t; cases r with | ref ha =>
    split at q
    · rename_i e
      obtain ⟨hz, q⟩ := ite_post q
      obtain ⟨zs, e1, e2⟩ := Option.bind_eq_some_iff.mp e
      obtain ⟨vs, hs, hr⟩ := list_of rh e1 ha
      have := strsOf_of hr e2
      subst this
      exact ⟨_, _, _, rfl, rfl, .inl hs, hz, PostG.val q rh .str⟩
    · exact q.elim
  · exact q.elim
def gSplit (d : D) (es : List D) (h : DH) : Out D := match d, es with
  | .str a, [.str b] => if (b.length == 0) = false ∧ a.length + 2 ≤ sizeLine then .val (.ref h.length) (h ++ [.lst ((Txt.split a b).map D.str)]) else .bad
  | _, _ => .bad
theorem tc_split : MtC K (fun x xs H Q => ∃ a b, x = .str a ∧ xs = [.str b] ∧ (b.length == 0) = false ∧ a.length + 2 ≤ sizeLine ∧ rNewStrs (Txt.split a b) H Q) gSplit := by
  intro Wx H al h x d xs ds Q rh r rs q
  unfold gSplit at q
  split at q
  · cases r; cases rs with | cons r t =>
    cases t; cases r
    obtain ⟨⟨h1, h2⟩, q⟩ := ite_post q
    exact ⟨_, _, rfl, rfl, h1, h2, fun p hp => PostG.newLst q rh RVs.of_strs hp⟩
  · exact q.elim
def gLower (d : D) (es : List D) (h : DH) : Out D := match d, es with
  | .str a, [] => if a.length ≤ 5592405 then .val (.str (Txt.lower a)) h else .bad
  | _, _ => .bad
theorem tc_lower : MtC K (fun x xs H Q => ∃ a, x = .str a ∧ xs = [] ∧ a.length ≤ 5592405 ∧ Q (.str (Txt.lower a)) H) gLower := by
  intro Wx H al h x d xs ds Q rh r rs q
  unfold gLower at q
  split at q
  · cases r; cases rs; obtain ⟨hz, q⟩ := ite_post q; exact ⟨_, rfl, rfl, hz, PostG.val q rh .str⟩
  · exact q.elim
def gUpper (d : D) (es : List D) (h : DH) : Out D := match d, es with
  | .str a, [] => if a.length ≤ 5592405 then .val (.str (Txt.upper a)) h else .bad
  | _, _ => .bad
theorem tc_upper : MtC K (fun x xs H Q => ∃ a, x = .str a ∧ xs = [] ∧ a.length ≤ 5592405 ∧ Q (.str (Txt.upper a)) H) gUpper := by
  intro Wx H al h x d xs ds Q rh r rs q
  unfold gUpper at q
  split at q
  · cases r; cases rs; obtain ⟨hz, q⟩ := ite_post q; exact ⟨_, rfl, rfl, hz, PostG.val q rh .str⟩
  · exact q.elim
def gStarts (d : D) (es : List D) (h : DH) : Out D := match d, es with
  | .str a, [.str b] => .val (.bl (Txt.startswith a b)) h
  | _, _ => .bad
theorem tc_starts : MtC K (fun x xs H Q => ∃ a b, x = .str a ∧ xs = [.str b] ∧ Q (.bl (Txt.startswith a b)) H) gStarts := by
  intro Wx H al h x d xs ds Q rh r rs q
  unfold gStarts at q
  split at q
  · cases r; cases rs with | cons r t => cases t; cases r; exact ⟨_, _, rfl, rfl, PostG.val q rh .bl⟩
  · exact q.elim
def gPartition (d : D) (es : List D) (h : DH) : Out D := match d, es with
  | .str a, [.str b] => if (b.length == 0) = false ∧ a.length ≤ sizeLine then .val (.tup [.str (Txt.partition a b).1, .str (Txt.partition a b).2.1, .str (Txt.partition a b).2.2]) h else .bad
  | _, _ => .bad
theorem tc_partition : MtC K (fun x xs H Q => ∃ a b, x = .str a ∧ xs = [.str b] ∧ (b.length == 0) = false ∧ a.length ≤ sizeLine ∧
    ∀ p, H p = none → Q (.ref p) (upd H p (.tup [.str (Txt.partition a b).1, .str (Txt.partition a b).2.1, .str (Txt.partition a b).2.2]))) gPartition := by
  intro Wx H al h x d xs ds Q rh r rs q
  unfold gPartition at q
  split at q
  · cases r; cases rs with | cons r t =>
    cases t; cases r
    obtain ⟨⟨h1, h2⟩, q⟩ := ite_post q
    exact ⟨_, _, rfl, rfl, h1, h2, fun p hp => PostG.newTup q rh (.cons .str (.cons .str (.cons .str .nil))) hp⟩
  · exact q.elim

/-! ### methods of lists -/
def mBM (g : D → List D → DH → Out D) (ma : EM D) (mr : EM (List D)) : EM D := fun ρ h => (ma ρ h).bind fun d h1 => match d with
  | .ref n => match h1[n]? with
    | some (.lst _) => (mr ρ h1).bind fun es h2 => g d es h2
    | _ => .bad
  | _ => .bad
def mBM0 (g : D → List D → DH → Out D) (ma : EM D) : EM D := fun ρ h => (ma ρ h).bind fun d h1 => match d with
  | .ref n => match h1[n]? with
    | some (.lst _) => g d [] h1
    | _ => .bad
  | _ => .bad
theorem de_bm {id : String} {name : Str} {r : V → List V → Hp → VK → Prop} {g : D → List D → DH → Out D} (slot : Slot "list" name id) (ty : typeOf (.builtin id) = pure (.type "method_descriptor")) (rule : MtR X id r) (hc : MtC X.K r g)
    (hp : ∀ {t : TA} {to : TE}, PE X o to → PA X (e :: es) t → PE X a (tBM X.K "list" r to t)) (ho : DE X W o ma) (ha : DA X W (e :: es) mr) : DE X W a (mBM g ma mr) := by
  refine (hp ho ha).imp fun σ H Q ⟨ρ, h, al, rs, rh, q⟩ => ⟨ρ, h, al, rs, rh, (PostG.bind q).imp ?_⟩
  rintro x H1 ⟨d, h1, al1, e1, rh1, r1, q1⟩
  cases r1 with
  | ref ha =>
    dsimp only at q1
    split at q1
    · rename_i e0
      obtain ⟨vs, hv, hr⟩ := lst_of rh1 e0 ha
      refine ⟨.inl ⟨rfl, _, SqL.of hv⟩, ρ, h1, al1, rs.evo e1, rh1, (PostG.bind q1).imp ?_⟩
      rintro ys H2 ⟨es, h2, al2, e2, rh2, r2, q2⟩
      exact hc _ H2 al2 h2 _ _ ys es Q rh2 (.ref (e2.at ha)) r2 q2
    · exact q1.elim
  | _ => exact q1.elim
theorem de_bm0 {id : String} {name : Str} {r : V → List V → Hp → VK → Prop} {g : D → List D → DH → Out D} (slot : Slot "list" name id) (ty : typeOf (.builtin id) = pure (.type "method_descriptor")) (rule : MtR X id r) (hc : MtC X.K r g)
    (hp : ∀ {to : TE}, PE X o to → PE X a (tBM0 X.K "list" r to)) (ho : DE X W o ma) : DE X W a (mBM0 g ma) := by
  refine (hp ho).imp fun σ H Q ⟨ρ, h, al, rs, rh, q⟩ => ⟨ρ, h, al, rs, rh, (PostG.bind q).imp ?_⟩
  rintro x H1 ⟨d, h1, al1, e1, rh1, r1, q1⟩
  cases r1 with
  | ref ha =>
    dsimp only at q1
    split at q1
    · rename_i e0
      obtain ⟨vs, hv, hr⟩ := lst_of rh1 e0 ha
      exact ⟨.inl ⟨rfl, _, SqL.of hv⟩, hc _ H1 al1 h1 _ _ [] [] Q rh1 (.ref ha) .nil q1⟩
    · exact q1.elim
  | _ => exact q1.elim
/-- a list is changed -/
theorem PostG.putLst {Wx : Value → Option Addr → Hp → Prop} {H : Hp} {al : List Addr} {h : DH} {n : Nat} {a : Addr} {o : DO} {ds : List D} {vs : List V} {d : D} {v : V} {Q : VK} (q : PostG K (RV K) Wx H al (.val d (h.set n (.lst ds))) Q) (rh : RH K H al h) (e : h[n]? = some o) (ns : o.isScr = false) (ha : al[n]? = some a) (r : RVs K H al ds vs) (rv : RV K H al d v) : Q v (upd H a (.lst vs)) := by
  obtain ⟨w, hw, mw⟩ := (rh.obj n o a e ha).mut ns
  have ev : Evo K H al (upd H a (.lst vs)) al := Evo.write hw mw
  exact q _ al _ ev (rh.write e ha ns rfl ⟨vs, upd_same, r.evo ev⟩) (rv.evo ev)
def gAppend (d : D) (es : List D) (h : DH) : Out D := match d, es with
  | .ref n, [y] => match h[n]? with
    | some (.lst xs) => if xs.length < sizeLine then .val .non (h.set n (.lst (xs ++ [y]))) else .bad
    | _ => .bad
  | _, _ => .bad
theorem tc_append : MtC K rAppend gAppend := by
  intro Wx H al h x d xs ds Q rh r rs q
  unfold gAppend at q
  split at q
  · cases r with | ref ha => cases rs with | cons r t =>
    cases t
    split at q
    · rename_i e
      obtain ⟨hz, q⟩ := ite_post q
      obtain ⟨vs, hv, hr⟩ := lst_of rh e ha
      exact ⟨_, vs, _, rfl, rfl, hv, by rw [← hr.length]; exact hz, PostG.putLst q rh e rfl ha (hr.snoc r) .non⟩
    · exact q.elim
  · exact q.elim
def gPop (d : D) (es : List D) (h : DH) : Out D := match d, es with
  | .ref n, [] => match h[n]? with
    | some (.lst xs) => match xs[xs.length - 1]? with
      | some y => .val y (h.set n (.lst xs.dropLast))
      | none => .bad
    | _ => .bad
  | _, _ => .bad
theorem tc_pop : MtC K rPop gPop := by
  intro Wx H al h x d xs ds Q rh r rs q
  unfold gPop at q
  split at q
  · cases r with | ref ha =>
    cases rs
    split at q
    · rename_i e
      obtain ⟨vs, hv, hr⟩ := lst_of rh e ha
      split at q
      · rename_i e2
        obtain ⟨v, h1, h2⟩ := hr.get e2
        exact ⟨_, vs, v, rfl, rfl, hv, by rw [← hr.length]; exact h1, PostG.putLst q rh e rfl ha hr.dropLast h2⟩
      · exact q.elim
    · exact q.elim
  · exact q.elim
def gClear (d : D) (es : List D) (h : DH) : Out D := match d, es with
  | .ref n, [] => match h[n]? with
    | some (.lst xs) => .val .non (h.set n (.lst []))
    | _ => .bad
  | _, _ => .bad
theorem tc_clear : MtC K rClear gClear := by
  intro Wx H al h x d xs ds Q rh r rs q
  unfold gClear at q
  split at q
  · cases r with | ref ha =>
    cases rs
    split at q
    · rename_i e
      obtain ⟨vs, hv, hr⟩ := lst_of rh e ha
      exact ⟨_, vs, rfl, rfl, hv, PostG.putLst q rh e rfl ha .nil .non⟩
    · exact q.elim
  · exact q.elim
/-! ### a dict of the module, its keys texts -/
open Classical in
noncomputable def gKD (a : Addr) (f : Str → Option D) (d e : D) (h : DH) : Out D := match d, e with
  | .raw v, .str z => if v = .ref a then (match f z with
    | some y => .val y h
    | none => .bad) else .bad
  | _, _ => .bad
theorem oc_kd {w : World} {ad : Addr} {f : Str → Option D} (hf : ∀ z y, f z = some y → ∃ v, KDct K w ad z v ∧ ∀ H al, RV K H al y v) : OpC K (rIxD K w) (gKD ad f) := by
  intro Wx H al h x y d e Q rh r1 r2 q
  unfold gKD at q
  split at q
  · cases r1; cases r2
    obtain ⟨hz, q⟩ := ite_post q
    split at q
    · rename_i e1
      obtain ⟨v, h1, h2⟩ := hf _ _ e1
      exact ⟨ad, _, v, hz, rfl, h1, PostG.val q rh (h2 H al)⟩
    · exact q.elim
  · exact q.elim
end
end DL

namespace DL
open PySem PySem.Spec PyProof.Rows L2

section
variable {X : Cx} {K : PySem.W.Frag} {W : WX} {a e o : Expr} {es : List Expr} {ma mb : EM D} {mr : EM (List D)} {pos apos : Pos}
/-- raise C('..') of a class without fields -/
def sRaise (cls : Value) : SM := fun ρ h => .exc ⟨cls, []⟩ ρ h
theorem ds_raise {C : Addr} (hp : PS X (.Raise (some e) none pos) (fun _ σ H => W (.ref C) none σ H)) : DS X W (.Raise (some e) none pos) (sRaise (.ref C)) :=
  hp.imp fun D σ H ⟨ρ, h, al, rs, rh, q⟩ => q H al σ none Evo.refl rh rs (.inl ⟨rfl, rfl⟩)
/-- behind a suite: the caught one's name is gone -/
def sufx (i : Nat) : SOut → SOut
  | .nx ρ h => .nx (ρ.set i none) h
  | .brk ρ h => .brk (ρ.set i none) h
  | .cnt ρ h => .cnt (ρ.set i none) h
  | o => o
open Classical in
/-- of exceptions without fields -/
noncomputable def sTryAs (em : Value → Option Bool) (m : SM) (i : Nat) (ms : Addr → Value → SM) : SM := fun ρ h => match m ρ h with
  | .exc x ρ1 h1 => match em x.cls with
    | some true => if z : x.fs = [] ∧ ∃ o, ∀ a, sufx i (ms a x.cls (ρ1.set i (some (.raw (.ref a)))) h1) = o ∧ (∀ y ρ' h', o ≠ .exc y ρ' h') then z.2.choose else .bad
    | some false => .exc x ρ1 h1
    | none => .bad
  | o => o
theorem sTryAs_yes {em : Value → Option Bool} {m : SM} {i : Nat} {ms : Addr → Value → SM} {ρ ρ1 : DEnv} {h h1 : DH} {c : Value} {o : SOut} (e : m ρ h = .exc ⟨c, []⟩ ρ1 h1) (e2 : em c = some true) (eo : ∀ a, sufx i (ms a c (ρ1.set i (some (.raw (.ref a)))) h1) = o) (ne : ∀ y ρ' h', o ≠ .exc y ρ' h') : sTryAs em m i ms ρ h = o := by
  unfold sTryAs
  rw [e]; dsimp only; rw [e2]; dsimp only
  have z : (([] : List (Str × D)) = []) ∧ ∃ o, ∀ a, sufx i (ms a c (ρ1.set i (some (.raw (.ref a)))) h1) = o ∧ (∀ y ρ' h', o ≠ .exc y ρ' h') := ⟨rfl, o, fun a => ⟨eo a, ne⟩⟩
  rw [dif_pos z]
  exact ((z.2.choose_spec 0).1.symm.trans (eo 0))
theorem sTryAs_nx {em : Value → Option Bool} {m : SM} {i : Nat} {ms : Addr → Value → SM} {ρ ρ1 : DEnv} {h h1 : DH} (e : m ρ h = .nx ρ1 h1) : sTryAs em m i ms ρ h = .nx ρ1 h1 := by
  unfold sTryAs; rw [e]
theorem sTryAs_ret {em : Value → Option Bool} {m : SM} {i : Nat} {ms : Addr → Value → SM} {ρ : DEnv} {h h1 : DH} {d : D} (e : m ρ h = .ret d h1) : sTryAs em m i ms ρ h = .ret d h1 := by
  unfold sTryAs; rw [e]
theorem sTryAs_no {em : Value → Option Bool} {m : SM} {i : Nat} {ms : Addr → Value → SM} {ρ ρ1 : DEnv} {h h1 : DH} {x : DX} (e : m ρ h = .exc x ρ1 h1) (e2 : em x.cls = some false) : sTryAs em m i ms ρ h = .exc x ρ1 h1 := by
  unfold sTryAs; rw [e]; dsimp only; rw [e2]
theorem ds_tryAs {x n : Str} {c : Value} (i : Nat) {body suite : List Stmt} {b₀ : Stmt} {np pos pos' : Pos} {m : SM} {ms : Addr → Value → SM} {em : Value → Option Bool} (hs : X.stack = X.env :: X.outer) (hf : X.env.frame = some X.env.locals) (hN : X.N.Nodup) (hc : Names X x c) (tk : Takes X W)
    (hem : ∀ cls b, em cls = some b → PySem.W.exmOne X.K cls c = some b)
    (hb : ∀ (W : WX) (pn : List (Addr × Obj)) (xe : Value → Shared → Prop), Takes (X.tr pn xe) W → PassesOwn (model X.prog X.w) X.A X.env xe → DSs (X.tr pn xe) W body m)
    (hsu : ∀ (a : Addr) (oe : Obj) (cls : Value) (pn : List (Addr × Obj)), Zc cls none oe → (∃ vs, oe.data = .fields vs) → (em cls = some true) → DSs (X.suite a ((a, oe) :: pn)) W0 (b₀ :: suite) (ms a cls))
    (hi : X.N[i]? = some n := by rfl) (hln : X.env.kindOf n = some .local := by rfl) :
    DS X W (.Try body [.ExceptHandler (some (.Name x np)) (some n) (b₀ :: suite) pos'] [] [] pos) (sTryAs em m i ms) := by
  refine (ps_try_as (ts := fun a cls d D σ H => d = none ∧ em cls = some true ∧ tS X.K W0 (ms a cls) D σ H) (tb := fun W' => tS X.K W' m) hs hf hN hi hln hc tk (fun W pn xe t p => hb W pn xe t p) ?_).imp ?_
  · intro a oe cls d pn hz hv
    refine ⟨fun pins s σ H D I q => ?_⟩
    obtain ⟨hd, ee, q⟩ := q
    subst hd
    exact (hsu a oe cls pn hz hv ee).run pins s σ H D I q
  · rintro D σ H ⟨ρ, h, al, rs, rh, q⟩
    refine ⟨ρ, h, al, rs, rh, ?_⟩
    unfold sTryAs at q
    cases e : m ρ h with
    | exc y ρ1 h1 =>
      rw [e] at q
      intro H' al' σ' dd ev rh' rs' rx
      have q := PostS.evo ev q
      dsimp only at q
      cases e2 : em y.cls with
      | none => rw [e2] at q; exact q.elim
      | some bb =>
        rw [e2] at q
        refine ⟨bb, hem _ _ e2, fun hb1 a na => ?_, fun hb1 => ?_⟩
        · subst hb1
          dsimp only at q
          by_cases z : y.fs = [] ∧ ∃ o, ∀ a, sufx i (ms a y.cls (ρ1.set i (some (.raw (.ref a)))) h1) = o ∧ (∀ y ρ' h', o ≠ .exc y ρ' h')
          · rw [dif_pos z] at q
            have hd : dd = none := by
              rcases rx with ⟨_, r1⟩ | ⟨r1, _⟩
              · exact r1
              · exact (r1 z.1).elim
            have sp := z.2.choose_spec a
            generalize z.2.choose = oo at q sp
            obtain ⟨sp1, sp2⟩ := sp
            refine ⟨hd, e2, ρ1.set i (some (.raw (.ref a))), h1, al', rs'.set i .raw, rh', ?_⟩
            cases em2 : ms a y.cls (ρ1.set i (some (.raw (.ref a)))) h1 with
            | nx ρ2 h2 => rw [em2] at sp1; subst sp1; exact fun H3 al3 σ3 e3 rh3 rs3 => q H3 al3 _ e3 rh3 (rs3.gone i none)
            | brk ρ2 h2 => rw [em2] at sp1; subst sp1; exact fun H3 al3 σ3 e3 rh3 rs3 => q H3 al3 _ e3 rh3 (rs3.gone i none)
            | cnt ρ2 h2 => rw [em2] at sp1; subst sp1; exact fun H3 al3 σ3 e3 rh3 rs3 => q H3 al3 _ e3 rh3 (rs3.gone i none)
            | ret d2 h2 => rw [em2] at sp1; subst sp1; exact q
            | bad => rw [em2] at sp1; subst sp1; exact q
            | exc x2 ρ2 h2 => rw [em2] at sp1; exact (sp2 _ _ _ sp1.symm).elim
          · rw [dif_neg z] at q; exact q.elim
        · subst hb1
          exact q H' al' σ' dd Evo.refl rh' rs' rx
    | nx ρ1 h1 => rw [e] at q; exact q
    | brk ρ1 h1 => rw [e] at q; exact q
    | cnt ρ1 h1 => rw [e] at q; exact q
    | ret d1 h1 => rw [e] at q; exact q
    | bad => rw [e] at q; exact q
/-- isinstance(e, (C1, C2, ..)), e the exception that the suite holds -/
def rIsET (K : PySem.W.Frag) (D a : Addr) : List V → Hp → VK → Prop := fun xs H Q => ∃ (tp : Addr) (cs : List V) (us : List Value) (b : Bool), xs = [.ref a, .ref tp] ∧ SqT K H tp cs ∧ Paired ClsV cs us ∧ PySem.W.kitAny K (.ref D) us = some b ∧ Q (.bl b) H
theorem call_isET {X : Cx} {a D : Addr} {oe : Obj} {pn : List (Addr × Obj)} (C : ExcC X.K D) (hz : Zc (.ref D) none oe) (hf : ∃ vs, oe.data = .fields vs) : CallR (X.suite a ((a, oe) :: pn)) (.builtin "isinstance") (rIsET X.K D a) := by
  intro pins s σ H xs us Q I r h
  obtain ⟨tp, cs, ws, b, rfl, hT, k, e, q⟩ := h
  obtain ⟨u1, u2, rfl, r1, r2⟩ := vals2 r
  cases (show u2 = Value.ref tp from r2)
  cases (show u1 = Value.ref a from r1)
  obtain ⟨hget, _⟩ := I.pin (a, oe) (List.mem_append.mpr (.inl List.mem_cons_self))
  obtain ⟨vs, hv⟩ := hf
  have J : PySem.W.InstAt s.heap a oe D none := by
    obtain ⟨oc, od, oda, osl⟩ := oe
    obtain ⟨h1, h2⟩ := hz
    dsimp only at h1 h2 hv
    subst h1 h2 hv
    exact ⟨hget, rfl, rfl, trivial⟩
  obtain ⟨its, rv, ⟨o, h1, h2, n, h3⟩, _⟩ := I.tuple hT
  have e3 := ClsV.all k rv
  subst e3
  obtain ⟨oc, od, dt, sl⟩ := o
  simp only at h2 h3
  subst h2 h3
  exact PySem.W.kia_tup (PySem.W.handS_kitx_exc C.hg C.hk C.hs C.hd C.ha C.hn C.ht C.hm) I.kIn J h1 e (fun z => nomatch z) fun tk => ⟨.bl b, H, I.kept (t' := tk) fun _ _ z => z, rfl, q⟩
theorem ite_or {α : Type} {P : Prop} [Decidable P] {a b : α} {r : Option α} (e : (if P then some a else r) = some b) : (P ∧ a = b) ∨ r = some b := by
  by_cases h : P
  · rw [if_pos h] at e; exact .inl ⟨h, Option.some.inj e⟩
  · rw [if_neg h] at e; exact .inr e
/-- what a class is, as a value -/
def clsD : D → Option Value
  | .raw (.ref C) => some (.ref C)
  | .raw (.ty T) => some (.type T)
  | _ => none
/-- the answers of one after the other -/
def kitAnyD (kit : Value → Option Bool) : List D → Option Bool
  | [] => some false
  | d :: r => match (clsD d).bind kit, kitAnyD kit r with
    | some b, some c => some (b || c)
    | _, _ => none
theorem clsD_of {K : PySem.W.Frag} {H : Hp} {al : List Addr} {d : D} {v : V} {c : Value} (r : RV K H al d v) (e : clsD d = some c) : ClsV v c := by
  unfold clsD at e
  split at e
  · cases r; cases e; exact .own _
  · cases r; cases e; exact .ty _
  · cases e
theorem kitAnyD_of {K : PySem.W.Frag} {Dc : Addr} {kit : Value → Option Bool} (hk : ∀ c b, kit c = some b → PySem.W.kitOne K (.ref Dc) c = some b) {H : Hp} {al : List Addr} : ∀ {ds : List D} {vs : List V} {b : Bool}, RVs K H al ds vs → kitAnyD kit ds = some b → ∃ us, Paired ClsV vs us ∧ PySem.W.kitAny K (.ref Dc) us = some b
  | [], _, b, r, e => by
    cases r
    cases e
    exact ⟨[], .nil, rfl⟩
  | d :: ds, _, b, r, e => by
    cases r with | cons r t =>
    unfold kitAnyD at e
    split at e
    · rename_i b1 b2 e1 e2
      cases e
      obtain ⟨c, hc, hkc⟩ := Option.bind_eq_some_iff.mp e1
      obtain ⟨us, h1, h2⟩ := kitAnyD_of hk t e2
      refine ⟨_, .cons (clsD_of r hc) h1, kitAny_cons (hk _ _ hkc) (fun z => by subst z; simpa using h2) (fun z => by subst z; rfl)⟩
    · cases e
open Classical in
/-- isinstance(e, C) of the caught one -/
noncomputable def gIsE (a : Addr) (kit : Value → Option Bool) (ds : List D) (h : DH) : Out D := match ds with
  | [.raw v, .raw (.ref C)] => if v = .ref a then (match kit (.ref C) with
    | some b => .val (.bl b) h
    | none => .bad) else .bad
  | [.raw v, .raw (.ty T)] => if v = .ref a then (match kit (.type T) with
    | some b => .val (.bl b) h
    | none => .bad) else .bad
  | [.raw v, .tup cs] => if v = .ref a then (match kitAnyD kit cs with
    | some b => .val (.bl b) h
    | none => .bad) else .bad
  | _ => .bad
theorem cc_isE {Dc a : Addr} {kit : Value → Option Bool} (hk : ∀ c b, kit c = some b → PySem.W.kitOne K (.ref Dc) c = some b) : CallC K (fun xs H Q => rIsE K Dc a xs H Q ∨ rIsET K Dc a xs H Q) (gIsE a kit) := by
  intro Wx H al h xs ds Q rh r q
  unfold gIsE at q
  split at q
  · cases r with | cons r t => cases t with | cons r2 t =>
    cases t; cases r; cases r2
    obtain ⟨hv, q⟩ := ite_post q
    split at q
    · rename_i e1
      exact .inl ⟨V.ref _, Value.ref _, _, by rw [hv], fun u z => z, hk _ _ e1, PostG.val q rh .bl⟩
    · exact q.elim
  · cases r with | cons r t => cases t with | cons r2 t =>
    cases t; cases r; cases r2
    obtain ⟨hv, q⟩ := ite_post q
    split at q
    · rename_i e1
      exact .inl ⟨V.ty _, Value.type _, _, by rw [hv], fun u z => z, hk _ _ e1, PostG.val q rh .bl⟩
    · exact q.elim
  · cases r with | cons r t => cases t with | cons r2 t =>
    cases t; cases r; cases r2 with | tup hs hr =>
    obtain ⟨hv, q⟩ := ite_post q
    split at q
    · rename_i e1
      obtain ⟨us, h1, h2⟩ := kitAnyD_of hk hr e1
      exact .inr ⟨_, _, us, _, by rw [hv], hs, h1, h2, PostG.val q rh .bl⟩
    · exact q.elim
  · exact q.elim
end
section
open PySem.W
theorem cls_some {K : Frag} {C : Addr} (h : hasDictIn K C = true) : (clsIn K C).isSome = true := by
  unfold hasDictIn at h
  cases e : clsIn K C with
  | none => rw [e] at h; cases h
  | some _ => rfl
theorem kit_ref {K : Frag} {C : Addr} {t : Value} {b : Bool} (hd : hasDictIn K C = true) (ht : typeIn K (.ref C) = some (.type "type")) (h : subIn K t (.ref C) = some b) (hb : t = .ref C → b = true) : kitOne K t (.ref C) = some b := by
  unfold kitOne
  by_cases e : t = .ref C
  · rw [if_pos (by simp [e]), hb e]
  · rw [if_neg (by simp [e])]
    show (if ((clsIn K C).isSome && typeIn K (.ref C) == some (.type "type")) = true then subIn K t (.ref C) else none) = _
    rw [if_pos (by rw [cls_some hd, ht]; rfl), h]
theorem kit_type {K : Frag} {T : String} {C : Addr} {b : Bool} (hm : kitMeta T = true) (h : subIn K (.ref C) (.type T) = some b) : kitOne K (.ref C) (.type T) = some b := by
  unfold kitOne
  rw [if_neg (by intro z; cases (LawfulBEq.eq_of_beq z))]
  show (if kitMeta T = true then subIn K (.ref C) (.type T) else none) = _
  rw [if_pos hm, h]
end
end DL

namespace DL
open PySem PySem.Spec PyProof.Rows L2
theorem _root_.L2.PI.or {X : Cx} {tg iter : Expr} {w1 w2 : TI} (h1 : PI X tg iter w1) (h2 : PI X tg iter w2) : PI X tg iter (fun σ H R => w1 σ H R ∨ w2 σ H R) :=
  ⟨fun pins s σ H R I q => q.elim (h1.run pins s σ H R I) (h2.run pins s σ H R I)⟩
section
variable {X : Cx} {W : WX} {tg e a b c : Expr} {pos : Pos} {ma mb mc : EM D} {mt : EM Bool}
/-- a list, a tuple or a text -/
def iAny (ma : EM D) : EM ItD := fun ρ h => match ma ρ h with
  | .val (.ref _) _ => iSeqL ma ρ h
  | .val (.tup _) _ => iTupD ma ρ h
  | .val (.str _) _ => iStrD ma ρ h
  | .exc x h => .exc x h
  | _ => .bad
theorem di_any (h : DE X W e ma) : DI X W tg e (iAny ma) := by
  obtain ⟨w1, p1, k1⟩ := di_list (tg := tg) h
  obtain ⟨w2, p2, k2⟩ := di_tup (tg := tg) h
  obtain ⟨w3, p3, k3⟩ := di_str (tg := tg) h
  refine ⟨_, p1.or (p2.or p3), fun σ H R ⟨ρ, hh, al, rs, rh, q⟩ => ?_⟩
  unfold iAny at q
  split at q
  · exact .inl (k1 σ H R ⟨ρ, hh, al, rs, rh, q⟩)
  · exact .inr (.inl (k2 σ H R ⟨ρ, hh, al, rs, rh, q⟩))
  · exact .inr (.inr (k3 σ H R ⟨ρ, hh, al, rs, rh, q⟩))
  · rename_i x h' e1
    refine .inl (k1 σ H R ⟨ρ, hh, al, rs, rh, ?_⟩)
    unfold iSeqL
    rw [e1]; exact q
  · exact q.elim
theorem dt_chain {op op' : CmpOp} {r r' : R2} {g g' : D → D → DH → Out D} (ho : OpR X (compareOp op) r) (hc1 : OpC X.K r g) (ho' : OpR X (compareOp op') r') (hc2 : OpC X.K r' g')
    (hp : PE X e (tChain r r' (tD X.K W ma) (tD X.K W mb) (tD X.K W mc))) : DE X W e (fun ρ h => (ma ρ h).bind fun x h1 => (mb ρ h1).bind fun y h2 => (g x y h2).bind (asB fun k h3 => if k = true then (mc ρ h3).bind fun z h4 => g' y z h4 else .val (.bl false) h3)) := by
  refine hp.imp fun σ H Q ⟨ρ, h, al, rs, rh, q⟩ => ⟨ρ, h, al, rs, rh, (PostG.bind q).imp ?_⟩
  rintro x H1 ⟨d, h1, al1, e1, rh1, r1, q1⟩
  refine ⟨ρ, h1, al1, rs.evo e1, rh1, (PostG.bind q1).imp ?_⟩
  rintro y H2 ⟨e, h2, al2, e2, rh2, r2, q2⟩
  refine hc1 _ H2 al2 h2 x y d e _ rh2 (r1.evo e2) r2 ((PostG.bind q2).imp ?_)
  rintro z H3 ⟨f, h3, al3, e3, rh3, r3, q3⟩
  cases r3 with
  | bl =>
    rename_i k
    refine ⟨k, rfl, ?_⟩
    have q3 : PostG X.K (RV X.K) (fun c d H' => W c d σ H') H3 al3 (if k = true then (mc ρ h3).bind fun z h4 => g' e z h4 else .val (.bl false) h3) Q := q3
    cases k with
    | true =>
      rw [if_pos rfl] at q3
      refine iteT ⟨ρ, h3, al3, ((rs.evo e1).evo e2).evo e3, rh3, (PostG.bind q3).imp ?_⟩
      rintro z H4 ⟨f, h4, al4, e4, rh4, r4, q4⟩
      exact hc2 _ H4 al4 h4 y z e f Q rh4 (r2.evo (e3.trans e4)) r4 q4
    | false =>
      rw [if_neg (by decide)] at q3
      exact iteF (PostG.val q3 rh3 .bl)
  | _ => exact q3.elim
end
end DL

set_option maxHeartbeats 1000000
namespace DL
open PySem PySem.Spec PyProof.Rows L2 RT
/-! list(reversed(a list)) -/
section
variable {prog : Program} {w : World} {A : Around} {E : Value → Shared → Prop} {s : Shared}
theorem call_list_rev {it l : Addr} {items : Array Value} {Q : Value → Shared → Prop} (hh : A.handled = none) (hit : s.heap.IsRevIter it l ((items.size : Int) - 1)) (hl : s.heap.IsList l items) (hne : l ≠ it) (hn : items.size ≤ sizeLine)
    (hQ : ∀ (h' : Heap) (tk : Nat) (acc : Array Value) (c : Nat), (∀ b o, b ≠ it → s.heap.get? b = some o → h'.get? b = some o) → h'.get? s.heap.objs.size = some { cls := .type "list", data := .seq acc c } →
      ItemsOf (fun i v => items[items.size - 1 - i]? = some v) acc items.size → Q (.ref s.heap.objs.size) { s with heap := h', toks := tk }) :
    wpAny (model prog w) A (call (.type "list") [.ref it]) Q E s := by
  have W := (Walks.listRev (prog := prog) (w := w) (A := A.in1.in1) hh it l hne items).toS
  obtain ⟨oi, hoi, _⟩ := id hit
  obtain ⟨ol, hol, _⟩ := id hl
  have hSi : s.heap.objs.size ≠ it := Nat.ne_of_gt (Heap.lt_size hoi)
  have hSl : s.heap.objs.size ≠ l := Nat.ne_of_gt (Heap.lt_size hol)
  have hSf : s.heap.objs.size ∉ [it, l] := by simp only [List.mem_cons, List.not_mem_nil, or_false, not_or]; exact ⟨hSi, hSl⟩
  refine callType_codes (Q₁ := fun obj s₁ => obj = .ref s.heap.objs.size ∧ s₁ = { s with heap := s.heap.push { cls := .type "list", data := .seq #[] } }) F.called_list (F.typeCall_list_1 _) F.entry_list_init
    (code_list_new _ ⟨rfl, rfl⟩) fun obj s₁ h₁ => ?_
  obtain ⟨rfl, rfl⟩ := h₁
  have hS : (s.heap.push { cls := .type "list", data := .seq #[] }).get? s.heap.objs.size = some { cls := .type "list", data := .seq #[] } := Heap.get?_push_size _ rfl
  refine ⟨⟨_, hS, rfl⟩, F.args_list_init_2 _ _, ?_⟩
  show wpAny _ A.in1.in1 (do let old ← Builtin.List.listItems (.ref s.heap.objs.size); Builtin.List.listUpdate (.ref s.heap.objs.size) (fun _ => #[]); letGo old.toList.reverse; Builtin.List.listExtendWith (.ref s.heap.objs.size) (.ref it) .none) _ _ _
  refine wpAny_bind ?_
  unfold Builtin.List.listItems
  refine wpAny_bind (wpAny_seqItems hS rfl (wpAny_pure ?_))
  show wpAny _ A.in1.in1 (updateSeq s.heap.objs.size (fun _ => #[]) >>= fun _ => letGo (#[] : Array Value).toList.reverse >>= fun _ => Builtin.List.listExtendWith (.ref s.heap.objs.size) (.ref it) .none) _ _ _
  refine wpAny_bind (wpAny_updateSeq hS rfl ?_)
  have hS2 := Heap.get?_update_self (Obj.mapSeq (fun _ => (#[] : Array Value))) hS rfl
  refine wpAny_bind (wpAny_letGo ?_)
  unfold Builtin.List.listExtendWith
  have k2 : ∀ b o, s.heap.get? b = some o → ((s.heap.push { cls := .type "list", data := .seq #[] }).update s.heap.objs.size (Obj.mapSeq (fun _ => (#[] : Array Value)))).get? b = some o := fun b o e =>
    (Heap.get?_update_other _ _ (Ne.symm (Nat.ne_of_lt (Heap.lt_size e)))).trans (Heap.get?_push_of_some _ e)
  generalize (s.heap.push { cls := .type "list", data := .seq #[] }).update s.heap.objs.size (Obj.mapSeq (fun _ => (#[] : Array Value))) = h2 at hS2 k2 ⊢
  have hit2 : h2.IsRevIter it l ((items.size : Int) - 1) := hit.at fun o e => k2 _ _ e
  have hl2 : h2.IsList l items := by
    obtain ⟨o, ho, r⟩ := id hl
    exact ⟨o, k2 _ _ ho, r⟩
  have hT : ({ s with heap := h2 } : Shared).TypeIs (.ref it) "list_reverseiterator" := Heap.IsRevIter.typeIs (s := { s with heap := h2 }) hit2
  have h1 : Builtin.List.listSameRef (.ref s.heap.objs.size) (.ref it) = false := by simp [Builtin.List.listSameRef, hSi]
  refine wpAny_bind (wpAny_typeOf hT ?_)
  rw [if_neg (by rw [h1]; decide)]
  refine wpAny_bind (wpAny_pyIter_revIter (s := { s with heap := h2 }) hit2 ?_)
  refine wpAny_bind (wpAny_holding ?_)
  unfold Builtin.List.listLengthHint
  refine wpAny_bind (wpAny_specialOf hT nolen_lri ?_)
  show wpAny _ A.in1.in1 (specialOf (Value.ref it) (Str.ofString "__length_hint__") >>= _) _ _ _
  refine wpAny_bind (wpAny_specialOf hT hint_lri ?_)
  generalize hid : ("list_reverseiterator.__length_hint__" : String) = id0
  wp_delta
  rw [show splitId id0 = some ("list_reverseiterator", "__length_hint__") from by subst hid; decide +kernel]
  subst hid
  refine wpAny_bind (wpAny_isInstance (b := true) hT (by rw [isSubtype_type]; kernel_rfl) ?_)
  refine wpAny_pure ?_
  rw [if_neg (by decide)]
  have e0 : ((items.size : Nat) : Int) - 1 - ((0 : Nat) : Int) = (items.size : Int) - 1 := by omega
  refine wpAny_pure ⟨plainId_quiet F.plain_extend_loop _, codeAny_extend_loopS W hn _ hSf _ items.size 0 _ _ _ rfl (Nat.zero_le _) ⟨Nat.zero_le _, by rw [e0]; exact hit2, hl2⟩ hS2 (ItemsOf.nil _) fun s' acc' c' hm hS' hacc => ?_⟩
  refine ⟨rfl, ?_⟩
  rw [Moved.eq_with hm]
  refine hQ s'.heap s'.toks acc' c' (fun b o hb e => hm.heap b o (fun hmem => ?_) (k2 _ _ e)) hS' hacc
  rcases List.mem_cons.mp hmem with e' | hmem
  · exact absurd (Heap.lt_size e) (by rw [e']; exact Nat.lt_irrefl _)
  · exact hb (List.mem_singleton.mp hmem)
end
def tListRev (K : PySem.W.Frag) (te : TE) : TE := fun σ H Q => te σ H fun v H1 => ∃ (a : Addr) (xs : List V), v = .ref a ∧ SqL K H1 a xs ∧ ∀ q, H1 q = none → Q (.ref q) (upd H1 q (.lst xs.reverse))
section
variable {X : Cx}
theorem pe_listRev {e : Expr} {te : TE} {p p2 pos pos2 : Pos} (hc : X.calm = true) (hg : Gl X "list") (hm : X.mg "list" = none) (hg2 : Gl X "reversed") (hm2 : X.mg "reversed" = none) (he : PE X e te)
    (hs : starEach [e] X.env = (false, eval e X.env) :: starEach [] X.env := by rfl)
    (hs2 : starEach [.Call (.Name "reversed" p2) [e] [] pos2] X.env = (false, eval (.Call (.Name "reversed" p2) [e] [] pos2) X.env) :: starEach [] X.env := by rfl) :
    PE X (.Call (.Name "list" p) [.Call (.Name "reversed" p2) [e] [] pos2] [] pos) (tListRev X.K te) := by
  refine ⟨fun pins s σ H Q I h => ?_⟩
  refine Call_ (ld_blt I hg hm boot_list (PyProof.Rows.callWith_type1 (args_cons (Call_ (ld_blt I hg2 hm2 PyProof.Rows.boot_reversed (PyProof.Rows.callWith_type1 (args_cons (thn (he.run pins s σ H _ I h) fun u s1 ⟨v, H1, I1, r1, q1⟩ => args_nil ?_) hs) hs rfl))) hs2) hs2 rfl))
  obtain ⟨a, xs, ev, hq, q⟩ := q1
  subst ev
  obtain rfl : u = Value.ref a := r1
  obtain ⟨its, rv, p', hz⟩ := I1.list hq
  refine call_reversed_list p'.isList (args_nil ?_)
  have k0 : ∀ b o, s1.heap.get? b = some o → (s1.heap.push (revObj a ((its.toArray.size : Int) - 1))).get? b = some o := fun b o e => Heap.get?_push_of_some _ e
  have hl := p'.isList
  obtain ⟨ol, hol, _⟩ := id hl
  have hne : a ≠ s1.heap.objs.size := Nat.ne_of_lt (Heap.lt_size hol)
  have hn : its.toArray.size ≤ sizeLine := by rw [List.size_toArray, ← rv.length]; exact hz
  refine call_list_rev (s := { s1 with heap := s1.heap.push (revObj a ((its.toArray.size : Int) - 1)) }) (I1.ok.hd hc) ⟨_, Heap.get?_push_size _ rfl, rfl, rfl⟩ (hl.push _) hne hn fun h' tk acc c hk hS hi => ?_
  have hle : s1.heap.objs.size ≤ (s1.heap.push (revObj a ((its.toArray.size : Int) - 1))).objs.size := by
    rw [Heap.size_push]; exact Nat.le_succ _
  refine ⟨.ref (s1.heap.push (revObj a ((its.toArray.size : Int) - 1))).objs.size, _, I1.laid (t' := tk) (fun b o e => hk b o (Nat.ne_of_lt (Heap.lt_size e)) (k0 b o e)) hle (show ObjOk X.prog X.w _ h' _ (.lst xs.reverse) from ⟨by rw [List.length_reverse]; exact hz, acc.toList, c, vals_rev rv hi, ?_⟩), rfl, q _ (I1.hok.fresh hle)⟩
  rw [Array.toArray_toList]
  exact hS
def mListRev (m : EM D) : EM D := fun ρ h => (m ρ h).bind fun d h1 => match d with
  | .ref n => match listAt h1 n with
    | some xs => .val (.ref h1.length) (h1 ++ [.lst xs.reverse])
    | none => .bad
  | _ => .bad
theorem de_listRev {W : WX} {e : Expr} {m : EM D} {p p2 pos pos2 : Pos} (hc : X.calm = true) (hg : Gl X "list") (hm : X.mg "list" = none) (hg2 : Gl X "reversed") (hm2 : X.mg "reversed" = none) (he : DE X W e m)
    (hs : starEach [e] X.env = (false, eval e X.env) :: starEach [] X.env := by rfl)
    (hs2 : starEach [.Call (.Name "reversed" p2) [e] [] pos2] X.env = (false, eval (.Call (.Name "reversed" p2) [e] [] pos2) X.env) :: starEach [] X.env := by rfl) :
    DE X W (.Call (.Name "list" p) [.Call (.Name "reversed" p2) [e] [] pos2] [] pos) (mListRev m) := by
  refine (pe_listRev hc hg hm hg2 hm2 he hs hs2).imp fun σ H Q ⟨ρ, h, al, rs, rh, q⟩ => ⟨ρ, h, al, rs, rh, (PostG.bind q).imp ?_⟩
  rintro x H1 ⟨d, h1, al1, e1, rh1, r1, q1⟩
  try dsimp only at q1
  split at q1
  · cases r1 with | ref ha =>
    split at q1
    · rename_i xs e0
      obtain ⟨vs, h2, h3⟩ := list_of rh1 e0 ha
      exact ⟨_, vs, rfl, h2, fun l hl => PostG.newLst q1 rh1 h3.reverse hl⟩
    · exact q1.elim
  · exact q1.elim
end
end DL

set_option maxHeartbeats 1000000
namespace DL
open PySem PySem.Spec PyProof.Rows L2 RZ
/-! zip of two sequences, each a list or a tuple (t: it is a tuple) -/
def sqK (t : Bool) (h : Heap) (l : Addr) (xs : Array Value) : Prop := match t with
  | true => h.IsTuple l xs
  | false => h.IsList l xs
def itK (t : Bool) (h : Heap) (it l : Addr) (i : Nat) : Prop := match t with
  | true => h.IsTupleIter it l i
  | false => h.IsListIter it l i
def itN (t : Bool) : String := match t with
  | true => "tuple_iterator"
  | false => "list_iterator"
theorem sqK.at {t : Bool} {h h' : Heap} {a : Addr} {xs : Array Value} (x : sqK t h a xs) (e : ∀ o, h.get? a = some o → h'.get? a = some o) : sqK t h' a xs := by
  cases t
  · exact Heap.IsList.at x e
  · exact Heap.IsTuple.at x e
theorem itK.at {t : Bool} {h h' : Heap} {a l : Addr} {i : Nat} (x : itK t h a l i) (e : ∀ o, h.get? a = some o → h'.get? a = some o) : itK t h' a l i := by
  cases t
  · exact Heap.IsListIter.at x e
  · exact Heap.IsTupleIter.at x e
theorem sqK.ext {t : Bool} {h h' : Heap} {a b : Addr} {xs : Array Value} (x : sqK t h a xs) (hs : Heap.ExtBut b h h') (n : a ≠ b) : sqK t h' a xs := x.at fun o e => hs _ o n e
theorem itK.ext {t : Bool} {h h' : Heap} {a b l : Addr} {i : Nat} (x : itK t h a l i) (hs : Heap.ExtBut b h h') (n : a ≠ b) : itK t h' a l i := x.at fun o e => hs _ o n e
theorem itK.obj {t : Bool} {h : Heap} {a l : Addr} {i : Nat} (x : itK t h a l i) : ∃ o, h.get? a = some o ∧ o.data = .fields #[.ref l, .int i 0] := by
  cases t
  · obtain ⟨o, e, _, d⟩ := x; exact ⟨o, e, d⟩
  · obtain ⟨o, e, _, d⟩ := x; exact ⟨o, e, d⟩
theorem sqK.lt {t : Bool} {h : Heap} {a : Addr} {xs : Array Value} (x : sqK t h a xs) : a < h.objs.size := by
  cases t
  · obtain ⟨o, e, _⟩ := x; exact Heap.lt_size e
  · obtain ⟨o, e, _⟩ := x; exact Heap.lt_size e
section
variable {prog : Program} {w : World} {A : Around} {E : Value → Shared → Prop} {s : Shared}
theorem nextK_item {t : Bool} {it l : Addr} {i : Nat} {items : Array Value} {x : Value} {Q : Value → Shared → Prop} (hit : itK t s.heap it l i) (hl : sqK t s.heap l items) (hx : items[i]? = some x)
    (hQ : ∀ h', itK t h' it l (i + 1) → Heap.SameBut it s.heap h' → Q x { s with heap := h' }) : wpAny (model prog w) A (Builtin.SmallTypes.nextOf (.ref it)) Q E s := by
  cases t
  · exact wpAny_nextOf_list_item hit hl hx hQ
  · exact nextOf_tuple_item hit hl hx hQ
theorem nextK_end {t : Bool} {it l : Addr} {i : Nat} {items : Array Value} {Q : Value → Shared → Prop} (hh : A.handled = none) (hit : itK t s.heap it l i) (hl : sqK t s.heap l items) (hx : items[i]? = none)
    (hE : ∀ h' e, Heap.ExtBut it s.heap h' → (∃ o, h'.get? e = some o ∧ o.cls = .type "StopIteration") → E (.ref e) { s with heap := h' }) : wpAny (model prog w) A (Builtin.SmallTypes.nextOf (.ref it)) Q E s := by
  cases t
  · exact wpAny_nextOf_list_end hh hit hl hx hE
  · exact nextOf_tuple_end hh hit hl hx hE
/-- the head of zip.__next__, up to the first item -/
theorem zipK_next_item {t1 t2 : Bool} {z TI TO i1 i2 l1 l2 : Addr} {k1 k2 : Nat} {xs ys : Array Value} {x y a b : Value} {Q : Value → Shared → Prop} (D : ZipApart z TI TO i1 i2 l1 l2)
    (hz : IsZip s.heap z TI TO .none) (hTI : IsPair s.heap TI (.ref i1) (.ref i2)) (hTO : IsPair s.heap TO a b) (h1 : itK t1 s.heap i1 l1 k1) (h2 : itK t2 s.heap i2 l2 k2) (hl1 : sqK t1 s.heap l1 xs) (hl2 : sqK t2 s.heap l2 ys) (hx : xs[k1]? = some x) (hy : ys[k2]? = some y)
    (hQ : ∀ h', IsZip h' z TI TO (rawInt s.heap.objs.size) → IsPair h' TO x y → itK t1 h' i1 l1 (k1 + 1) → itK t2 h' i2 l2 (k2 + 1) → IsPair h' s.heap.objs.size x y →
      (∀ c o, c ≠ z → c ≠ TO → c ≠ i1 → c ≠ i2 → s.heap.get? c = some o → h'.get? c = some o) → Q (.ref s.heap.objs.size) { s with heap := h' }) :
    wpAny (model prog w) A (Builtin.«zip.__next__» ⟨[.ref z], []⟩) (fun fin s' => ∃ v, fin = .done (.ret v) ∧ Q v s') E s := by
  show wpAny _ _ (field (.ref z) 2 >>= _) _ _ _
  refine wpAny_bind (wpAny_field hz rfl (x := .bool false) rfl ?_)
  show wpAny _ _ (field (.ref z) 3 >>= _) _ _ _
  refine wpAny_bind (wpAny_field hz rfl (x := .ref TI) rfl ?_)
  refine wpAny_bind (wpAny_seqItems hTI rfl ?_)
  show wpAny _ _ (Builtin.SmallTypes.ownedTupleIsFree (.ref z) >>= _) _ _ _
  refine wpAny_bind ?_
  unfold Builtin.SmallTypes.ownedTupleIsFree
  refine wpAny_bind (wpAny_field hz rfl (x := .none) rfl (wpAny_pure ?_))
  simp only [if_true]
  refine wpAny_bind (wpAny_rule ?_)
  refine wpAny_bind (wpAny_field hz rfl (x := .ref TO) rfl ?_)
  refine wpAny_bind (wpAny_setField_rec hz (by simp) fun ha za sa => ?_)
  replace za : IsZip ha z TI TO .ellipsis := za
  have ea := sa.extBut
  refine wpAny_bind ?_
  simp only [List.zipIdx_cons, List.zipIdx_nil, List.forIn_cons, List.forIn_nil]
  refine wpAny_bind (wpAny_bind (wpAny_onRaise ?_))
  show wpAny _ _ (Builtin.SmallTypes.nextOf (.ref i1) >>= _) _ _ _
  refine wpAny_bind (nextK_item (h1.ext ea D.i1z) (hl1.ext ea D.l1z) hx fun hb h1b sb => wpAny_pure ?_)
  have eb := sb.extBut
  have TOb : IsPair hb TO a b := eb _ _ D.TOi1 (ea _ _ D.TOz hTO)
  refine wpAny_bind (wpAny_seqItems TOb rfl ?_)
  refine wpAny_bind (wpAny_updateSeq_pair TOb fun hc TOc sc => ?_)
  replace TOc : IsPair hc TO x b := TOc
  have ec := sc.extBut
  refine wpAny_bind (wpAny_letGo (wpAny_pure ?_))
  refine wpAny_bind (wpAny_bind (wpAny_onRaise ?_))
  show wpAny _ _ (Builtin.SmallTypes.nextOf (.ref i2) >>= _) _ _ _
  refine wpAny_bind (nextK_item (((h2.ext ea D.i2z).ext eb D.i12.symm).ext ec D.TOi2.symm) (((hl2.ext ea D.l2z).ext eb D.l2i1).ext ec D.l2TO) hy fun hd h2d sd => wpAny_pure ?_)
  have ed := sd.extBut
  have TOd : IsPair hd TO x b := ed _ _ D.TOi2 TOc
  refine wpAny_bind (wpAny_seqItems TOd rfl ?_)
  refine wpAny_bind (wpAny_updateSeq_pair TOd fun he TOe se => ?_)
  replace TOe : IsPair he TO x y := TOe
  have ee := se.extBut
  refine wpAny_bind (wpAny_letGo (wpAny_pure (wpAny_pure ?_)))
  refine wpAny_bind (wpAny_seqItems TOe rfl ?_)
  refine wpAny_bind (wpAny_newTuple ?_)
  have sz : he.objs.size = s.heap.objs.size := by rw [se.1, sd.1, sc.1, sb.1, sa.1]
  have ze : IsZip he z TI TO .ellipsis := ee _ _ D.TOz.symm (ed _ _ D.i2z.symm (ec _ _ D.TOz.symm (eb _ _ D.i1z.symm za)))
  have ke : ∀ c o, c ≠ z → c ≠ TO → c ≠ i1 → c ≠ i2 → s.heap.get? c = some o → he.get? c = some o := fun c o c1 c2 c3 c4 e => ee _ _ c2 (ed _ _ c4 (ec _ _ c2 (eb _ _ c3 (ea _ _ c1 e))))
  have h1e : itK t1 he i1 l1 (k1 + 1) := ((h1b.ext ec D.TOi1.symm).ext ed D.i12).ext ee D.TOi1.symm
  have h2e : itK t2 he i2 l2 (k2 + 1) := h2d.ext ee D.TOi2.symm
  have zlt : z < he.objs.size := Heap.lt_size ze
  show wpAny _ _ (Builtin.SmallTypes.ownedTupleHandOut (.ref z) (.ref he.objs.size) >>= _) _ _ _
  refine wpAny_bind ?_
  unfold Builtin.SmallTypes.ownedTupleHandOut
  have zf : IsZip (he.push { cls := .type "tuple", data := .seq #[x, y] }) z TI TO .ellipsis := Heap.get?_push_of_some _ ze
  refine wpAny_bind (wpAny_setField_rec zf (by simp) fun hg zg sg => ?_)
  replace zg : IsZip hg z TI TO (rawInt he.objs.size) := zg
  refine wpAny_setField_rec zg (by simp) fun hi zi si => ?_
  replace zi : IsZip hi z TI TO (rawInt he.objs.size) := zi
  have up : ∀ c o, c ≠ z → he.get? c = some o → hi.get? c = some o := fun c o c1 e => si.extBut _ _ c1 (sg.extBut _ _ c1 (Heap.get?_push_of_some _ e))
  have Ti : IsPair hi he.objs.size x y := si.extBut _ _ (Nat.ne_of_gt zlt) (sg.extBut _ _ (Nat.ne_of_gt zlt) (Heap.get?_push_size _ rfl))
  rw [sz] at zi Ti
  refine wpAny_pure ⟨_, rfl, ?_⟩
  show Q (.ref he.objs.size) _
  rw [sz]
  exact hQ hi zi (up _ _ D.TOz TOe) (h1e.at fun o e => up _ o D.i1z e) (h2e.at fun o e => up _ o D.i2z e) Ti fun c o c1 c2 c3 c4 e => up c o c1 (ke c o c1 c2 c3 c4 e)
theorem zipK_next_end {t1 t2 : Bool} {z TI TO i1 i2 l1 l2 : Addr} {k1 k2 : Nat} {xs ys : Array Value} {a b : Value} {Q : Fin → Shared → Prop} (hh : A.handled = none) (D : ZipApart z TI TO i1 i2 l1 l2)
    (hz : IsZip s.heap z TI TO .none) (hTI : IsPair s.heap TI (.ref i1) (.ref i2)) (hTO : IsPair s.heap TO a b) (h1 : itK t1 s.heap i1 l1 k1) (h2 : itK t2 s.heap i2 l2 k2) (hl1 : sqK t1 s.heap l1 xs) (hl2 : sqK t2 s.heap l2 ys) (hend : xs[k1]? = none ∨ ys[k2]? = none)
    (hE : ∀ h' e, (∀ c o, c ≠ z → c ≠ TO → c ≠ i1 → c ≠ i2 → s.heap.get? c = some o → h'.get? c = some o) → (∃ o, h'.get? e = some o ∧ o.cls = .type "StopIteration") → E (.ref e) { s with heap := h' }) :
    wpAny (model prog w) A (Builtin.«zip.__next__» ⟨[.ref z], []⟩) Q E s := by
  show wpAny _ _ (field (.ref z) 2 >>= _) _ _ _
  refine wpAny_bind (wpAny_field hz rfl (x := .bool false) rfl ?_)
  show wpAny _ _ (field (.ref z) 3 >>= _) _ _ _
  refine wpAny_bind (wpAny_field hz rfl (x := .ref TI) rfl ?_)
  refine wpAny_bind (wpAny_seqItems hTI rfl ?_)
  show wpAny _ _ (Builtin.SmallTypes.ownedTupleIsFree (.ref z) >>= _) _ _ _
  refine wpAny_bind ?_
  unfold Builtin.SmallTypes.ownedTupleIsFree
  refine wpAny_bind (wpAny_field hz rfl (x := .none) rfl (wpAny_pure ?_))
  simp only [if_true]
  refine wpAny_bind (wpAny_rule ?_)
  refine wpAny_bind (wpAny_field hz rfl (x := .ref TO) rfl ?_)
  refine wpAny_bind (wpAny_setField_rec hz (by simp) fun ha za sa => ?_)
  replace za : IsZip ha z TI TO .ellipsis := za
  have ea := sa.extBut
  refine wpAny_bind ?_
  simp only [List.zipIdx_cons, List.zipIdx_nil, List.forIn_cons, List.forIn_nil]
  refine wpAny_bind (wpAny_bind (wpAny_onRaise ?_))
  show wpAny _ _ (Builtin.SmallTypes.nextOf (.ref i1) >>= _) _ _ _
  cases hx : xs[k1]? with
  | none =>
    refine wpAny_bind (nextK_end hh (h1.ext ea D.i1z) (hl1.ext ea D.l1z) hx fun hb e eb he => ?_)
    obtain ⟨oe, hoe, hce⟩ := he
    have zb : IsZip hb z TI TO .ellipsis := eb _ _ D.i1z.symm za
    have nz : e ≠ z := fun q => by subst q; rw [zb] at hoe; cases hoe; simp at hce
    refine wpAny_setField_rec zb (by simp) fun hc _ sc => hE hc e (fun c o c1 _ c3 _ q => sc.extBut _ _ c1 (eb _ _ c3 (ea _ _ c1 q))) ⟨oe, sc.extBut _ _ nz hoe, hce⟩
  | some x =>
    have hy : ys[k2]? = none := by
      rcases hend with q | q
      · rw [hx] at q; cases q
      · exact q
    refine wpAny_bind (nextK_item (h1.ext ea D.i1z) (hl1.ext ea D.l1z) hx fun hb h1b sb => wpAny_pure ?_)
    have eb := sb.extBut
    have TOb : IsPair hb TO a b := eb _ _ D.TOi1 (ea _ _ D.TOz hTO)
    refine wpAny_bind (wpAny_seqItems TOb rfl ?_)
    refine wpAny_bind (wpAny_updateSeq_pair TOb fun hc TOc sc => ?_)
    have ec := sc.extBut
    refine wpAny_bind (wpAny_letGo (wpAny_pure ?_))
    refine wpAny_bind (wpAny_bind (wpAny_onRaise ?_))
    show wpAny _ _ (Builtin.SmallTypes.nextOf (.ref i2) >>= _) _ _ _
    refine wpAny_bind (nextK_end hh (((h2.ext ea D.i2z).ext eb D.i12.symm).ext ec D.TOi2.symm) (((hl2.ext ea D.l2z).ext eb D.l2i1).ext ec D.l2TO) hy fun hd e ed he => ?_)
    obtain ⟨oe, hoe, hce⟩ := he
    have zd : IsZip hd z TI TO .ellipsis := ed _ _ D.i2z.symm (ec _ _ D.TOz.symm (eb _ _ D.i1z.symm za))
    have nz : e ≠ z := fun q => by subst q; rw [zd] at hoe; cases hoe; simp at hce
    refine wpAny_setField_rec zd (by simp) fun hf _ sf => hE hf e (fun c o c1 c2 c3 c4 q => sf.extBut _ _ c1 (ed _ _ c4 (ec _ _ c2 (eb _ _ c3 (ea _ _ c1 q))))) ⟨oe, sf.extBut _ _ nz hoe, hce⟩
end
/-! zip(a, b) itself -/
def zN1 (t : Bool) (h : Heap) (l : Addr) : Heap := h.push { cls := .type (itN t), data := .fields #[.ref l, .int 0 0] }
theorem iterK {prog : Program} {w : World} {A : Around} {E : Value → Shared → Prop} {s : Shared} {t : Bool} {l : Addr} {xs : Array Value} {Q : Value → Shared → Prop} (hl : sqK t s.heap l xs) (h : Q (.ref s.heap.objs.size) { s with heap := zN1 t s.heap l }) : wpAny (model prog w) A (pyIter (.ref l)) Q E s := by
  cases t
  · exact wpAny_pyIter_list hl h
  · exact wpAny_pyIter_tuple hl h
abbrev zN2 (t1 t2 : Bool) (h : Heap) (l1 l2 : Addr) : Heap := zN1 t2 (zN1 t1 h l1) l2
abbrev zN3 (t1 t2 : Bool) (h : Heap) (l1 l2 : Addr) : Heap := (zN2 t1 t2 h l1 l2).push { cls := .type "tuple", data := .seq #[.ref h.objs.size, .ref (zN1 t1 h l1).objs.size] }
abbrev zN4 (t1 t2 : Bool) (h : Heap) (l1 l2 : Addr) : Heap := (zN3 t1 t2 h l1 l2).push { cls := .type "tuple", data := .seq #[.none, .none] }
abbrev zN5 (t1 t2 : Bool) (h : Heap) (l1 l2 : Addr) : Heap := (zN4 t1 t2 h l1 l2).push { cls := .type "zip", data := .fields #[.none, .bool false, .bool false, .ref (zN2 t1 t2 h l1 l2).objs.size, .ref (zN3 t1 t2 h l1 l2).objs.size] }
theorem meets_zipK_new (t1 t2 : Bool) (l1 l2 : Addr) (xs ys : Array Value) :
    Meets (Builtin.«zip.__new__» ⟨[.type "zip", .ref l1, .ref l2], []⟩) (fun _ R s => sqK t1 s.heap l1 xs ∧ sqK t2 s.heap l2 ys ∧
      R (.ok (.ret (.ref (zN4 t1 t2 s.heap l1 l2).objs.size))) { s with heap := zN5 t1 t2 s.heap l1 l2 }) :=
  .of_wp fun prog w A R s h => by
    obtain ⟨hp, g, d, tk, os⟩ := s
    obtain ⟨hl1, hl2, h⟩ := h
    have hsub := sub_zip
    have hL1 : sqK t1 (Shared.heap ⟨hp, g, d, tk, os⟩) l1 xs := hl1
    have hL2 : sqK t2 (Shared.heap ⟨zN1 t1 hp l1, g, d, tk, os⟩) l2 ys := hl2.at fun o e => Heap.get?_push_of_some _ e
    wp_walk using iterK hL1, iterK hL2
    exact ⟨_, rfl, h⟩
section
variable {prog : Program} {w : World} {A : Around} {E : Value → Shared → Prop} {s : Shared}
theorem call_zipK {t1 t2 : Bool} {l1 l2 : Addr} {xs ys : Array Value} {Q : Value → Shared → Prop} (hl1 : sqK t1 s.heap l1 xs) (hl2 : sqK t2 s.heap l2 ys)
    (h : ∀ h', IsZip h' (s.heap.objs.size + 4) (s.heap.objs.size + 2) (s.heap.objs.size + 3) .none → IsPair h' (s.heap.objs.size + 2) (.ref s.heap.objs.size) (.ref (s.heap.objs.size + 1)) →
      IsPair h' (s.heap.objs.size + 3) .none .none → itK t1 h' s.heap.objs.size l1 0 → itK t2 h' (s.heap.objs.size + 1) l2 0 →
      (∀ c o, s.heap.get? c = some o → h'.get? c = some o) → Q (.ref (s.heap.objs.size + 4)) { s with heap := h' }) :
    wpAny (model prog w) A (call (.type "zip") [.ref l1, .ref l2]) Q E s := by
  refine callType_new F.called_zip (by decide) (F.typeCall_zip_2 _ _) (F.newCall_zip_2 _ _) (fun obj => F.args_object_init_3 obj _ _) F.entry_zip_new
    (meets_zipK_new t1 t2 l1 l2 xs ys) ⟨hl1, hl2, ?_⟩
  have s1 : (zN1 t1 s.heap l1).objs.size = s.heap.objs.size + 1 := Heap.size_push ..
  have s2 : (zN2 t1 t2 s.heap l1 l2).objs.size = s.heap.objs.size + 2 := by show (zN1 t2 _ l2).objs.size = _; unfold zN1; rw [Heap.size_push]; rw [show (Heap.push s.heap _).objs.size = _ from s1]
  have s3 : (zN3 t1 t2 s.heap l1 l2).objs.size = s.heap.objs.size + 3 := by rw [Heap.size_push, s2]
  have s4 : (zN4 t1 t2 s.heap l1 l2).objs.size = s.heap.objs.size + 4 := by rw [Heap.size_push, s3]
  have pk : ∀ {hp : Heap} {o' : Obj} {c : Addr} {o : Obj}, hp.get? c = some o → (hp.push o').get? c = some o := fun e => Heap.get?_push_of_some _ e
  have kp : ∀ c o, s.heap.get? c = some o → (zN5 t1 t2 s.heap l1 l2).get? c = some o := fun c o x => pk (pk (pk (pk (pk x))))
  have g5 : (zN5 t1 t2 s.heap l1 l2).get? (zN4 t1 t2 s.heap l1 l2).objs.size = some _ := Heap.get?_push_size _ rfl
  have g4 : (zN5 t1 t2 s.heap l1 l2).get? (zN3 t1 t2 s.heap l1 l2).objs.size = some _ := pk (Heap.get?_push_size _ rfl)
  have g3 : (zN5 t1 t2 s.heap l1 l2).get? (zN2 t1 t2 s.heap l1 l2).objs.size = some _ := pk (pk (Heap.get?_push_size _ rfl))
  have g2 : (zN5 t1 t2 s.heap l1 l2).get? (zN1 t1 s.heap l1).objs.size = some { cls := .type (itN t2), data := .fields #[.ref l2, .int 0 0] } := pk (pk (pk (Heap.get?_push_size _ rfl)))
  have g1 : (zN5 t1 t2 s.heap l1 l2).get? s.heap.objs.size = some { cls := .type (itN t1), data := .fields #[.ref l1, .int 0 0] } := pk (pk (pk (pk (Heap.get?_push_size _ rfl))))
  show _ ∧ _
  rw [s2, s3, s4] at g5
  rw [s1, s2] at g3
  rw [s3] at g4
  rw [s1] at g2
  rw [s4]
  refine ⟨⟨_, g5, rfl⟩, h _ g5 g3 g4 ?_ ?_ kp⟩
  · cases t1 <;> exact ⟨_, g1, rfl, rfl⟩
  · cases t2 <;> exact ⟨_, g2, rfl, rfl⟩
end
/-! as a thing that is walked -/
def SqK (t : Bool) (K : PySem.W.Frag) (H : Hp) (a : Addr) (xs : List V) : Prop := match t with
  | true => SqT K H a xs
  | false => SqL K H a xs
section
variable {X : Cx} {pins : List (Addr × Obj)} {σ : L2.St} {H : Hp} {s : Shared}
theorem seqK_of (I : Inv X pins σ H s) {t : Bool} {a : Addr} {xs : List V} (h : SqK t X.K H a xs) : ∃ its : List Value, Vals xs its ∧ sqK t s.heap a its.toArray := by
  cases t
  · obtain ⟨its, r, p, _⟩ := I.list h; exact ⟨its, r, p.isList⟩
  · obtain ⟨its, r, p, _⟩ := I.tuple h; exact ⟨its, r, p⟩
theorem seqK_inj (I : Inv X pins σ H s) {t : Bool} {a : Addr} {xs ys : List V} (h : SqK t X.K H a xs) (h' : SqK t X.K H a ys) : xs = ys := by
  cases t
  · exact I.list_inj h h'
  · exact I.tuple_inj h h'
end
def ItzK (t1 t2 : Bool) (K : PySem.W.Frag) (a b : Addr) : It :=
  ⟨fun i H => ∃ (xs ys : List V) (x y : V), SqK t1 K H a xs ∧ SqK t2 K H b ys ∧ xs[i]? = some x ∧ ys[i]? = some y,
    fun i H v H' => ∃ T x y, v = .ref T ∧ H T = none ∧ H' = upd H T (.tup [x, y]) ∧ (∀ xs, SqK t1 K H a xs → xs[i]? = some x) ∧ ∀ ys, SqK t2 K H b ys → ys[i]? = some y,
    fun i H => ∃ xs ys : List V, SqK t1 K H a xs ∧ SqK t2 K H b ys ∧ (xs.length ≤ i ∨ ys.length ≤ i)⟩
theorem zip_pyNext_item {t1 t2 : Bool} {prog : Program} {w : World} {A : Around} {E : Value → Shared → Prop} {s : Shared} {z TI TO i1 i2 l1 l2 : Addr} {k1 k2 : Nat} {xs ys : Array Value} {x y a b : Value} {Q : Option Value → Shared → Prop} (D : ZipApart z TI TO i1 i2 l1 l2)
    (hz : IsZip s.heap z TI TO .none) (hTI : IsPair s.heap TI (.ref i1) (.ref i2)) (hTO : IsPair s.heap TO a b) (h1 : itK t1 s.heap i1 l1 k1) (h2 : itK t2 s.heap i2 l2 k2) (hl1 : sqK t1 s.heap l1 xs) (hl2 : sqK t2 s.heap l2 ys) (hx : xs[k1]? = some x) (hy : ys[k2]? = some y)
    (hQ : ∀ h', IsZip h' z TI TO (rawInt s.heap.objs.size) → IsPair h' TO x y → itK t1 h' i1 l1 (k1 + 1) → itK t2 h' i2 l2 (k2 + 1) → IsPair h' s.heap.objs.size x y →
      (∀ c o, c ≠ z → c ≠ TO → c ≠ i1 → c ≠ i2 → s.heap.get? c = some o → h'.get? c = some o) → Q (some (.ref s.heap.objs.size)) { s with heap := h' }) : wpAny (model prog w) A (pyNext (.ref z)) Q E s := by
  have hT : s.TypeIs (.ref z) "zip" := ⟨_, hz, rfl⟩
  unfold pyNext
  exact wpAny_bind (wpAny_attempt (wpAny_callSpecial?_slot (name := Str.ofString "__next__") hT F.slot_zip_next (wpAny_call_entry F.slot_zip_next hT F.entry_zip_next
    (zipK_next_item D hz hTI hTO h1 h2 hl1 hl2 hx hy fun h' a1 a2 a3 a4 a5 a6 => wpAny_pure (hQ h' a1 a2 a3 a4 a5 a6)) (F.args_zip_next_1 _))))
theorem zip_pyNext_end {t1 t2 : Bool} {prog : Program} {w : World} {A : Around} {E : Value → Shared → Prop} {s : Shared} {z TI TO i1 i2 l1 l2 : Addr} {k1 k2 : Nat} {xs ys : Array Value} {a b : Value} {Q : Option Value → Shared → Prop} (hh : A.handled = none) (D : ZipApart z TI TO i1 i2 l1 l2)
    (hz : IsZip s.heap z TI TO .none) (hTI : IsPair s.heap TI (.ref i1) (.ref i2)) (hTO : IsPair s.heap TO a b) (h1 : itK t1 s.heap i1 l1 k1) (h2 : itK t2 s.heap i2 l2 k2) (hl1 : sqK t1 s.heap l1 xs) (hl2 : sqK t2 s.heap l2 ys) (hend : xs[k1]? = none ∨ ys[k2]? = none)
    (hQ : ∀ h', (∀ c o, c ≠ z → c ≠ TO → c ≠ i1 → c ≠ i2 → s.heap.get? c = some o → h'.get? c = some o) → Q none { s with heap := h' }) : wpAny (model prog w) A (pyNext (.ref z)) Q E s := by
  have hT : s.TypeIs (.ref z) "zip" := ⟨_, hz, rfl⟩
  unfold pyNext
  refine wpAny_bind (wpAny_attempt (wpAny_callSpecial?_slot (name := Str.ofString "__next__") hT F.slot_zip_next (wpAny_call_entry F.slot_zip_next hT F.entry_zip_next
    (zipK_next_end hh D hz hTI hTO h1 h2 hl1 hl2 hend fun h' e hk he => ?_) (F.args_zip_next_1 _))))
  obtain ⟨o, ho, hc⟩ := he
  refine wpAny_bind (wpAny_isInstance (T := "StopIteration") (b := true) ⟨o, ho, hc⟩ isSubtype_stop ?_)
  exact wpAny_pure (hQ _ hk)
theorem turn_zipK {t1 t2 : Bool} {P : Program} {w : World} {K : PySem.W.Frag} {elts : List Expr} {kk : Nat} {tpos : Pos} {a b z TI TO i1 i2 : Addr} (D : ZipApart z TI TO i1 i2 a b) :
    Turn P w K (.Tuple elts kk tpos) (ItzK t1 t2 K a b) [z, TI, TO, i1, i2] z (fun i h => IsZip h z TI TO .none ∧ IsPair h TI (.ref i1) (.ref i2) ∧ (∃ x y, IsPair h TO x y) ∧ itK t1 h i1 a i ∧ itK t2 h i2 b i) where
  mem := by simp
  obj := fun i h st c hc => by
    obtain ⟨hz, hTI, ⟨x, y, hTO⟩, h1, h2⟩ := st
    obtain ⟨o1, e1, d1⟩ := h1.obj
    obtain ⟨o2, e2, d2⟩ := h2.obj
    have e' : c = z ∨ c = TI ∨ c = TO ∨ c = i1 ∨ c = i2 := by simpa using hc
    rcases e' with q | q | q | q | q
    · rw [q]; exact ⟨_, hz, fun v q => nomatch q⟩
    · rw [q]; exact ⟨_, hTI, fun v q => nomatch q⟩
    · rw [q]; exact ⟨_, hTO, fun v q => nomatch q⟩
    · rw [q]; exact ⟨o1, e1, fun v q => by rw [d1] at q; cases q⟩
    · rw [q]; exact ⟨o2, e2, fun v q => by rw [d2] at q; cases q⟩
  keep := fun i h h' st k => by
    obtain ⟨hz, hTI, ⟨x, y, hTO⟩, h1, h2⟩ := st
    exact ⟨k z (by simp) _ hz, k TI (by simp) _ hTI, ⟨x, y, k TO (by simp) _ hTO⟩, h1.at fun o q => k i1 (by simp) o q, h2.at fun o q => k i2 (by simp) o q⟩
  item := by
    intro X hP hw hK hc i pins s σ H E I hf st hg
    subst hP hw hK
    obtain ⟨hz, hTI, ⟨x0, y0, hTO⟩, h1, h2⟩ := st
    obtain ⟨xs, ys, x, y, hqx, hqy, hx, hy⟩ := hg
    obtain ⟨its, rv, p⟩ := seqK_of I hqx
    obtain ⟨its2, rv2, p2⟩ := seqK_of I hqy
    obtain ⟨u, hu, ru⟩ := rv.get hx
    obtain ⟨u2, hu2, ru2⟩ := rv2.get hy
    have hzl : z < s.heap.objs.size := Heap.lt_size hz
    refine zip_pyNext_item D hz hTI hTO h1 h2 p p2 (x := u) (y := u2) (by simpa using hu) (by simpa using hu2) fun h' z' TO' h1' h2' hT hk => ?_
    refine ⟨_, rfl, wpAny_letOwnedTupleGo_zip (s := { s with heap := h' }) z' fun h'' z'' sb => ?_⟩
    have hT2 : h''.get? s.heap.objs.size = some { cls := .type "tuple", data := .seq #[u, u2] } := (sb.2 _ (Nat.ne_of_gt hzl)).trans hT
    have new : ObjOk X.prog X.w (upd H s.heap.objs.size (.tup [x, y])) h'' s.heap.objs.size (.tup [x, y]) :=
      ⟨by show 2 ≤ sizeLine; decide, [u, u2], .cons ru (.cons ru2 .nil), ⟨_, hT2, rfl, _, rfl⟩⟩
    have I1 : Inv X pins σ (upd H s.heap.objs.size (.tup [x, y])) { s with heap := h'' } :=
      I.turnedNew (t' := s.toks) (ch := [z, TI, TO, i1, i2]) (fun c o hb q => (sb.2 c (fun q' => hb (by simp [q']))).trans (hk c o (fun q' => hb (by simp [q'])) (fun q' => hb (by simp [q'])) (fun q' => hb (by simp [q'])) (fun q' => hb (by simp [q'])) q)) hf (Nat.le_refl _) new
    refine ⟨.ref s.heap.objs.size, _, I1, rfl, ⟨_, x, y, rfl, I.hok.fresh (Nat.le_refl _), rfl, fun l hl => by rw [seqK_inj I hl hqx]; exact hx, fun l hl => by rw [seqK_inj I hl hqy]; exact hy⟩, ⟨z'', ?_, ⟨u, u2, ?_⟩, ?_, ?_⟩, fun c hcm => ?_⟩
    · exact (sb.2 _ D.TIz).trans (hk _ _ D.TIz D.TITO D.TIi1 D.TIi2 hTI)
    · exact (sb.2 _ D.TOz).trans TO'
    · exact h1'.at fun o q => (sb.2 _ D.i1z).trans q
    · exact h2'.at fun o q => (sb.2 _ D.i2z).trans q
    · obtain ⟨_, e1, _⟩ := h1.obj
      obtain ⟨_, e2, _⟩ := h2.obj
      have hlt : c < s.heap.objs.size := by
        have e' : c = z ∨ c = TI ∨ c = TO ∨ c = i1 ∨ c = i2 := by simpa using hcm
        rcases e' with q | q | q | q | q
        · rw [q]; exact hzl
        · rw [q]; exact Heap.lt_size hTI
        · rw [q]; exact Heap.lt_size hTO
        · rw [q]; exact Heap.lt_size e1
        · rw [q]; exact Heap.lt_size e2
      rw [upd_ne (Nat.ne_of_lt hlt)]
      exact (hf c hcm).1
  done := by
    intro X hP hw hK hc i pins s σ H E I hf st hg
    subst hP hw hK
    obtain ⟨hz, hTI, ⟨x0, y0, hTO⟩, h1, h2⟩ := st
    obtain ⟨xs, ys, hqx, hqy, hend⟩ := hg
    obtain ⟨its, rv, p⟩ := seqK_of I hqx
    obtain ⟨its2, rv2, p2⟩ := seqK_of I hqy
    have l1 := rv.length
    have l2 := rv2.length
    have he : its.toArray[i]? = none ∨ its2.toArray[i]? = none := by
      rcases hend with q | q
      · exact .inl (by simp; omega)
      · exact .inr (by simp; omega)
    exact zip_pyNext_end (I.ok.hd hc) D hz hTI hTO h1 h2 p p2 he fun h' hk => ⟨rfl, I.turnedL (t' := s.toks) (ch := [z, TI, TO, i1, i2]) (fun c o hb q =>
      hk c o (fun q' => hb (by simp [q'])) (fun q' => hb (by simp [q'])) (fun q' => hb (by simp [q'])) (fun q' => hb (by simp [q'])) q) hf⟩
  self := fun A i s Q E st h => wpAny_pyIter_zip st.1 h
def iZipK (K : PySem.W.Frag) (ta : TA) : TI := fun σ H R => ta σ H fun vs H1 => ∃ (t1 t2 : Bool) (a b : Addr) (xs ys : List V), vs = [.ref a, .ref b] ∧ SqK t1 K H1 a xs ∧ SqK t2 K H1 b ys ∧ R (ItzK t1 t2 K a b) H1
theorem pi_zipK {X : Cx} {e e2 : Expr} {ta : TA} {p pos tpos : Pos} {elts : List Expr} {kk : Nat} (hg : Gl X "zip") (hm : X.mg "zip" = none) (ha : PA X [e, e2] ta)
    (hs : starEach [e, e2] X.env = (false, eval e X.env) :: starEach [e2] X.env := by rfl) (hpl : (backTo pos (starEach [e2] X.env)).any (·.1) = false := by rfl) :
    PI X (.Tuple elts kk tpos) (.Call (.Name "zip" p) [e, e2] [] pos) (iZipK X.K ta) := by
  refine ⟨fun pins s σ H R I h => ?_⟩
  refine Call_ (ld_blt I hg hm PyProof.Rows.boot_zip (PyProof.Rows.callWith_type1 (thn (ha.run pos pins s σ H _ I h) fun us s1 ⟨vs, H1, I1, r1, q1⟩ => ?_) hs hpl))
  obtain ⟨t1, t2, a, b, xs, ys, ex, hqx, hqy, q⟩ := q1
  subst ex
  obtain ⟨ua, ub, rfl, ra, rb⟩ := vals2 r1
  cases (show ua = Value.ref a from ra)
  cases (show ub = Value.ref b from rb)
  obtain ⟨its, rv, p1⟩ := seqK_of I1 hqx
  obtain ⟨its2, rv2, p2⟩ := seqK_of I1 hqy
  refine call_zipK p1 p2 fun h' hz hTI hTO h1 h2 hk => wpAny_pyIter_zip hz ?_
  have I2 : Inv X pins σ H1 { s1 with heap := h' } := I1.kept (t' := s1.toks) hk
  refine ⟨s1.heap.objs.size + 4, [s1.heap.objs.size + 4, s1.heap.objs.size + 2, s1.heap.objs.size + 3, s1.heap.objs.size, s1.heap.objs.size + 1], _, _, H1, rfl, I2, turn_zipK (PySem.W.ktu_apart s1.heap.objs.size a b p1.lt p2.lt), ⟨hz, hTI, ⟨_, _, hTO⟩, h1, h2⟩, fun c hcm => ?_, q⟩
  have hle : s1.heap.objs.size ≤ c := by
    have e' : c = s1.heap.objs.size + 4 ∨ c = s1.heap.objs.size + 2 ∨ c = s1.heap.objs.size + 3 ∨ c = s1.heap.objs.size ∨ c = s1.heap.objs.size + 1 := by simpa using hcm
    rcases e' with z | z | z | z | z <;> rw [z] <;> omega
  exact I1.fpOk hle (I1.hok.fresh hle)
/-! over data -/
/-- a sequence, as it stands at each turn -/
def seqD (d : D) : Option (DH → Option (List D)) := match d with
  | .ref n => some fun h => listAt h n
  | .tup ds => some fun _ => some ds
  | _ => none
def zipD (f g : DH → Option (List D)) : ItD := fun h => match f h, g h with
  | some xs, some ys => some ((xs.zip ys).map fun p => .tup [p.1, p.2])
  | _, _ => none
def iZipD (mr : EM (List D)) : EM ItD := fun ρ h => (mr ρ h).bind fun ds h1 => match ds with
  | [x, y] => match seqD x, seqD y with
    | some f, some g => if (f h1).isSome ∧ (g h1).isSome then .val (zipD f g) h1 else .bad
    | _, _ => .bad
  | _ => .bad
theorem seqD_of {K : PySem.W.Frag} {H : Hp} {al : List Addr} {h : DH} {d : D} {v : V} {f : DH → Option (List D)} (rh : RH K H al h) (r : RV K H al d v) (e : seqD d = some f) (hs : (f h).isSome) :
    ∃ (t : Bool) (a : Addr) (xs : List V), v = .ref a ∧ SqK t K H a xs ∧ ∀ H1 al1 h1 ds, Evo K H al H1 al1 → RH K H1 al1 h1 → f h1 = some ds → ∃ ys, SqK t K H1 a ys ∧ RVs K H1 al1 ds ys := by
  unfold seqD at e
  split at e
  · cases e
    cases r with | ref ha =>
    rename_i n a
    obtain ⟨ds0, e0⟩ := Option.isSome_iff_exists.mp hs
    obtain ⟨vs, h1, _⟩ := list_of rh e0 ha
    exact ⟨false, a, vs, rfl, h1, fun H1 al1 h1 ds ev rh1 q => by
      obtain ⟨ys, z1, z2⟩ := list_of rh1 q (ev.at ha)
      exact ⟨ys, z1, z2⟩⟩
  · cases e
    cases r with | tup ht hr =>
    rename_i ds a vs
    exact ⟨true, a, vs, rfl, ht, fun H1 al1 h1 ds1 ev rh1 q => by
      cases q
      exact ⟨vs, ev.tup _ _ ht, hr.evo ev⟩⟩
  · cases e
theorem rvs2 {K : PySem.W.Frag} {H : Hp} {al : List Addr} {x y : D} {vs : List V} (r : RVs K H al [x, y] vs) : ∃ u v, vs = [u, v] ∧ RV K H al x u ∧ RV K H al y v := by
  cases r with
  | cons r t =>
    cases t with
    | cons r2 t =>
      cases t
      exact ⟨_, _, rfl, r, r2⟩
theorem di_zip {X : Cx} {W : WX} {e e2 : Expr} {mr : EM (List D)} {p pos tpos : Pos} {elts : List Expr} {kk : Nat} (hg : Gl X "zip") (hm : X.mg "zip" = none) (ha : DA X W [e, e2] mr)
    (hs : starEach [e, e2] X.env = (false, eval e X.env) :: starEach [e2] X.env := by rfl) (hpl : (backTo pos (starEach [e2] X.env)).any (·.1) = false := by rfl) :
    DI X W (.Tuple elts kk tpos) (.Call (.Name "zip" p) [e, e2] [] pos) (iZipD mr) := by
  refine ⟨_, pi_zipK hg hm ha hs hpl, fun σ H R ⟨ρ, hh, al, rs, rh, q⟩ => ⟨ρ, hh, al, rs, rh, (PostG.bind q).imp ?_⟩⟩
  rintro xs H1 ⟨ds, h1, al1, e1, rh1, r1, q1⟩
  try dsimp only at q1
  split at q1
  · rename_i x y
    obtain ⟨u1, u2, rfl, rx, ry⟩ := rvs2 r1
    split at q1
    · rename_i f g ef eg
      by_cases z : (f h1).isSome ∧ (g h1).isSome
      · rw [if_pos z] at q1
        obtain ⟨t1, a, as, rfl, sa, ka⟩ := seqD_of rh1 rx ef z.1
        obtain ⟨t2, b, bs, rfl, sb, kb⟩ := seqD_of rh1 ry eg z.2
        refine ⟨t1, t2, a, b, as, bs, rfl, sa, sb, PostG.val (R := RI X.K) q1 rh1 ?_⟩
        intro H2 al2 h2 ds2 e2 rh2 q2 i
        unfold zipD at q2
        split at q2
        · rename_i xs ys ex ey
          cases q2
          obtain ⟨vx, sx, rx2⟩ := ka H2 al2 h2 xs e2 rh2 ex
          obtain ⟨vy, sy, ry2⟩ := kb H2 al2 h2 ys e2 rh2 ey
          have lx := rx2.length
          have ly := ry2.length
          have hl : ((xs.zip ys).map fun p : D × D => D.tup [p.1, p.2]).length = min xs.length ys.length := by rw [List.length_map, List.length_zip]
          refine ⟨fun hi => ?_, fun hi => ?_, fun x H3 hy d hd => ?_⟩
          · rw [hl] at hi
            have i1 : i < vx.length := by omega
            have i2 : i < vy.length := by omega
            exact ⟨vx, vy, _, _, sx, sy, List.getElem?_eq_getElem i1, List.getElem?_eq_getElem i2⟩
          · rw [hl] at hi
            exact ⟨vx, vy, sx, sy, by omega⟩
          · obtain ⟨T, u, v, rfl, hT, rfl, hu, hv⟩ := hy
            rw [List.getElem?_map, Option.map_eq_some_iff] at hd
            obtain ⟨⟨dx, dy⟩, hz, rfl⟩ := hd
            rw [List.getElem?_zip_eq_some] at hz
            obtain ⟨vx', e3, r3⟩ := rx2.get hz.1
            obtain ⟨vy', e4, r4⟩ := ry2.get hz.2
            have := hu vx sx
            rw [e3] at this; cases this
            have := hv vy sy
            rw [e4] at this; cases this
            have ev : Evo X.K H2 al2 (upd H2 T (.tup [u, v])) al2 := Evo.aside hT
            exact ⟨ev, ⟨rh2.len, fun n o a e1 e2 => (rh2.obj n o a e1 e2).evo ev fun u z => by rw [upd_ne (ne_of_none z hT)]; exact z, rh2.uniq⟩, .tup (.of upd_same) (.cons (r3.evo ev) (.cons (r4.evo ev) .nil))⟩
        · cases q2
      · rw [if_neg z] at q1; exact q1.elim
    · exact q1.elim
  · exact q1.elim
end DL

namespace DL
open PySem PySem.Spec PyProof.Rows L2
/-! sum, max, min, sorted of lists; xs[::-1] -/
def intsOf : List D → Option (List Int)
  | [] => some []
  | .int x :: r => (intsOf r).map (x :: ·)
  | _ => none
theorem intsOf_map : ∀ ys : List Int, intsOf (ys.map D.int) = some ys
  | [] => rfl
  | y :: r => by
    show (intsOf (r.map D.int)).map (y :: ·) = _
    rw [intsOf_map r]; rfl
theorem intsOf_eq : ∀ {ds : List D} {ys : List Int}, intsOf ds = some ys → ds = ys.map D.int
  | [], ys, e => by cases e; rfl
  | d :: ds, ys, e => by
    cases d with
    | int x =>
      have e : (intsOf ds).map (x :: ·) = some ys := e
      cases e2 : intsOf ds with
      | none => rw [e2] at e; cases e
      | some zs => rw [e2] at e; cases e; rw [intsOf_eq e2]; rfl
    | _ => cases e
theorem strsOf_eq : ∀ {ds : List D} {ys : List Str}, strsOf ds = some ys → ds = ys.map D.str
  | [], ys, e => by cases e; rfl
  | d :: ds, ys, e => by
    cases d with
    | str x =>
      have e : (strsOf ds).map (x :: ·) = some ys := e
      cases e2 : strsOf ds with
      | none => rw [e2] at e; cases e
      | some zs => rw [e2] at e; cases e; rw [strsOf_eq e2]; rfl
    | _ => cases e
def sortI (ns : List Int) : List Int := ns.mergeSort (fun a b => decide (a ≤ b))
theorem sortI_perm (ns : List Int) : (sortI ns).Perm ns := List.mergeSort_perm _ _
theorem sortI_pair (ns : List Int) : (sortI ns).Pairwise (· ≤ ·) := by
  have := List.pairwise_mergeSort (le := fun a b : Int => decide (a ≤ b)) (fun a b c h1 h2 => by simp at *; omega) (fun a b => by simp; omega) ns
  exact this.imp fun h => by simpa using h
theorem sortI_uniq {ns ms : List Int} (p : ms.Perm ns) (s : ms.Pairwise (· ≤ ·)) : ms = sortI ns :=
  List.Perm.eq_of_pairwise (le := (· ≤ ·)) (fun a b _ _ h1 h2 => Int.le_antisymm h1 h2) s (sortI_pair ns) (p.trans (sortI_perm ns).symm)
def leS (x y : Str) : Bool := decide (x.cps.toList ≤ y.cps.toList)
theorem leS_trans (a b c : Str) (h1 : leS a b = true) (h2 : leS b c = true) : leS a c = true := by
  unfold leS at *
  rw [decide_eq_true_eq] at *
  exact List.le_trans h1 h2
theorem leS_total (a b : Str) : (leS a b || leS b a) = true := by
  unfold leS
  rw [Bool.or_eq_true, decide_eq_true_eq, decide_eq_true_eq]
  exact List.le_total _ _
theorem leS_anti {a b : Str} (h1 : leS a b = true) (h2 : leS b a = true) : a = b := by
  unfold leS at *
  rw [decide_eq_true_eq] at *
  exact TL.ext_tl (List.le_antisymm h1 h2)
def sortS (xs : List Str) : List Str := xs.mergeSort leS
theorem sortS_perm (xs : List Str) : (sortS xs).Perm xs := List.mergeSort_perm _ _
theorem sortS_pair (xs : List Str) : (sortS xs).Pairwise (fun a b => leS a b = true) := List.pairwise_mergeSort leS_trans leS_total xs
theorem leS_of {a b : Str} (h : (!ltCps b.cps.toList a.cps.toList) = true) : leS a b = true := by
  rw [ltCps_eq] at h
  unfold leS
  simp only [Bool.not_eq_true', decide_eq_false_iff_not] at h
  rw [decide_eq_true_eq]
  exact List.not_lt.mp h
theorem rising_pair : ∀ (p : Str) (l : List Str), risingS p l = true → (p :: l).Pairwise (fun a b => leS a b = true)
  | p, [], _ => by simp
  | p, x :: r, h => by
    have h : (!ltCps x.cps.toList p.cps.toList && risingS x r) = true := h
    rw [Bool.and_eq_true] at h
    have ih := rising_pair x r h.2
    have hx := leS_of h.1
    refine List.pairwise_cons.mpr ⟨fun y hy => ?_, ih⟩
    rcases List.mem_cons.mp hy with rfl | hy
    · exact hx
    · exact leS_trans _ _ _ hx ((List.pairwise_cons.mp ih).1 y hy)
theorem sortS_uniq {xs ys : List Str} (p : ys.Perm xs) (s : sortedS ys = true) : ys = sortS xs := by
  have sp : ys.Pairwise (fun a b => leS a b = true) := by
    cases ys with
    | nil => exact .nil
    | cons x r => exact rising_pair x r s
  exact List.Perm.eq_of_pairwise (le := fun a b => leS a b = true) (fun a b _ _ h1 h2 => leS_anti h1 h2) sp (sortS_pair xs) (p.trans (sortS_perm xs).symm)
section
variable {K : PySem.W.Frag} {X : Cx}
theorem RVs.ints_of {H : Hp} {al : List Addr} {ds : List D} {vs : List V} {ns : List Int} (r : RVs K H al ds vs) (e : intsOf ds = some ns) : vs = ns.map V.int := by
  rw [intsOf_eq e] at r; exact r.ints
def gSorted (ds : List D) (h : DH) : Out D := match ds with
  | [.ref n] => match listAt h n with
    | some xs => match intsOf xs with
      | some ns => if ns.length < 64 then .val (.ref h.length) (h ++ [.lst ((sortI ns).map D.int)]) else .bad
      | none => match strsOf xs with
        | some ys => if ys.length < 64 then .val (.ref h.length) (h ++ [.lst ((sortS ys).map D.str)]) else .bad
        | none => .bad
    | none => .bad
  | _ => .bad
def rSortU (K : PySem.W.Frag) : List V → Hp → VK → Prop := fun vs H Q => rSorted K vs H Q ∨ rSortedS K vs H Q
theorem call_sortU : CallR X (.builtin "sorted") (rSortU X.K) := cr_sorted.or cr_sortedS
theorem cc_sortU : CallC K (rSortU K) gSorted := by
  intro Wx H al h xs ds Q rh r q
  unfold gSorted at q
  split at q
  · cases r with | cons r t => cases t; cases r with | ref ha =>
    split at q
    · rename_i ds e0
      obtain ⟨vs, h2, h3⟩ := list_of rh e0 ha
      split at q
      · rename_i ns e1
        obtain ⟨hz, q⟩ := ite_post q
        rw [h3.ints_of e1] at h2
        refine .inl ⟨_, ns, rfl, h2, hz, fun ns' p hp hs hn => ?_⟩
        rw [sortI_uniq hp hs]
        exact PostG.newLst q rh .of_ints hn
      · split at q
        · rename_i ys e1
          obtain ⟨hz, q⟩ := ite_post q
          rw [strsOf_of h3 e1] at h2
          refine .inr ⟨_, ys, rfl, h2, hz, fun ys' p hp hs hn => ?_⟩
          rw [sortS_uniq hp hs]
          exact PostG.newLst q rh .of_strs hn
        · exact q.elim
    · exact q.elim
  · exact q.elim
def gSumL (ds : List D) (h : DH) : Out D := match ds with
  | [.ref n] => match (listAt h n).bind intsOf with
    | some ns => .val (.int ns.sum) h
    | none => .bad
  | _ => .bad
theorem lints_of {H : Hp} {al : List Addr} {h : DH} (rh : RH K H al h) {n : Nat} {a : Addr} {ns : List Int} (e : (listAt h n).bind intsOf = some ns) (ha : al[n]? = some a) : SqL K H a (ns.map V.int) := by
  obtain ⟨ds, e0, e1⟩ := Option.bind_eq_some_iff.mp e
  obtain ⟨vs, h2, h3⟩ := list_of rh e0 ha
  rw [h3.ints_of e1] at h2
  exact h2
theorem cc_sumL : CallC K (rSum K) gSumL := by
  intro Wx H al h xs ds Q rh r q
  unfold gSumL at q
  split at q
  · cases r with | cons r t => cases t; cases r with | ref ha =>
    split at q
    · rename_i ns e0
      exact ⟨_, ns, rfl, lints_of rh e0 ha, PostG.val q rh .int⟩
    · exact q.elim
  · exact q.elim
def maxI : List Int → Int
  | [] => 0
  | [x] => x
  | x :: r => if maxI r ≤ x then x else maxI r
def minI : List Int → Int
  | [] => 0
  | [x] => x
  | x :: r => if x ≤ minI r then x else minI r
theorem maxI_ok : ∀ {ns : List Int}, ns ≠ [] → maxI ns ∈ ns ∧ ∀ y ∈ ns, y ≤ maxI ns
  | [], h => absurd rfl h
  | [x], _ => by simp [maxI]
  | x :: y :: r, _ => by
    obtain ⟨h1, h2⟩ := maxI_ok (ns := y :: r) (by simp)
    have e : maxI (x :: y :: r) = if maxI (y :: r) ≤ x then x else maxI (y :: r) := rfl
    rw [e]
    by_cases c : maxI (y :: r) ≤ x
    · rw [if_pos c]
      refine ⟨List.mem_cons_self, fun z hz => ?_⟩
      rcases List.mem_cons.mp hz with rfl | hz
      · exact Int.le_refl _
      · exact Int.le_trans (h2 z hz) c
    · rw [if_neg c]
      refine ⟨List.mem_cons_of_mem _ h1, fun z hz => ?_⟩
      rcases List.mem_cons.mp hz with rfl | hz
      · omega
      · exact h2 z hz
theorem minI_ok : ∀ {ns : List Int}, ns ≠ [] → minI ns ∈ ns ∧ ∀ y ∈ ns, minI ns ≤ y
  | [], h => absurd rfl h
  | [x], _ => by simp [minI]
  | x :: y :: r, _ => by
    obtain ⟨h1, h2⟩ := minI_ok (ns := y :: r) (by simp)
    have e : minI (x :: y :: r) = if x ≤ minI (y :: r) then x else minI (y :: r) := rfl
    rw [e]
    by_cases c : x ≤ minI (y :: r)
    · rw [if_pos c]
      refine ⟨List.mem_cons_self, fun z hz => ?_⟩
      rcases List.mem_cons.mp hz with rfl | hz
      · exact Int.le_refl _
      · exact Int.le_trans c (h2 z hz)
    · rw [if_neg c]
      refine ⟨List.mem_cons_of_mem _ h1, fun z hz => ?_⟩
      rcases List.mem_cons.mp hz with rfl | hz
      · omega
      · exact h2 z hz
def gMaxL (ds : List D) (h : DH) : Out D := match ds with
  | [.ref n] => match (listAt h n).bind intsOf with
    | some ns => if 0 < ns.length then .val (.int (maxI ns)) h else .bad
    | none => .bad
  | _ => .bad
def gMinL (ds : List D) (h : DH) : Out D := match ds with
  | [.ref n] => match (listAt h n).bind intsOf with
    | some ns => if 0 < ns.length then .val (.int (minI ns)) h else .bad
    | none => .bad
  | _ => .bad
theorem cc_maxL : CallC K (rMax K) gMaxL := by
  intro Wx H al h xs ds Q rh r q
  unfold gMaxL at q
  split at q
  · cases r with | cons r t => cases t; cases r with | ref ha =>
    split at q
    · rename_i ns e0
      obtain ⟨hz, q⟩ := ite_post q
      refine ⟨_, ns, rfl, lints_of rh e0 ha, hz, fun m h1 h2 => ?_⟩
      obtain ⟨k1, k2⟩ := maxI_ok (List.ne_nil_of_length_pos hz)
      rw [Int.le_antisymm (k2 m h1) (h2 _ k1)]
      exact PostG.val q rh .int
    · exact q.elim
  · exact q.elim
theorem cc_minL : CallC K (rMin K) gMinL := by
  intro Wx H al h xs ds Q rh r q
  unfold gMinL at q
  split at q
  · cases r with | cons r t => cases t; cases r with | ref ha =>
    split at q
    · rename_i ns e0
      obtain ⟨hz, q⟩ := ite_post q
      refine ⟨_, ns, rfl, lints_of rh e0 ha, hz, fun m h1 h2 => ?_⟩
      obtain ⟨k1, k2⟩ := minI_ok (List.ne_nil_of_length_pos hz)
      rw [Int.le_antisymm (h2 _ k1) (k2 m h1)]
      exact PostG.val q rh .int
    · exact q.elim
  · exact q.elim
/-- a list times an int -/
def gRep (d e : D) (h : DH) : Out D := match d, e with
  | .ref n, .int k => match h[n]? with
    | some (.lst xs) => if -(2 ^ 63) ≤ k ∧ k < 2 ^ 63 ∧ xs.length * k.toNat ≤ sizeLine then .val (.ref h.length) (h ++ [.lst (List.replicate k.toNat xs).flatten]) else .bad
    | _ => .bad
  | _, _ => .bad
theorem rep_flat {H : Hp} {al : List Addr} {ds : List D} {vs : List V} (r : RVs K H al ds vs) : ∀ n : Nat, RVs K H al (List.replicate n ds).flatten (List.replicate n vs).flatten
  | 0 => .nil
  | n + 1 => by
    rw [List.replicate_succ, List.replicate_succ, List.flatten_cons, List.flatten_cons]
    exact r.append (rep_flat r n)
theorem oc_rep : OpC K rRep gRep := by
  intro Wx H al h x y d e Q rh r1 r2 q
  unfold gRep at q
  split at q
  · cases r1 with | ref ha =>
    cases r2
    split at q
    · rename_i xs e0
      obtain ⟨⟨c1, c2, c3⟩, q⟩ := ite_post q
      obtain ⟨vs, h2, h3⟩ := lst_of rh e0 ha
      exact ⟨_, _, vs, rfl, rfl, h2, c1, c2, by rw [← h3.length]; exact c3, fun p hp => PostG.newLst q rh (rep_flat h3 _) hp⟩
    · exact q.elim
  · exact q.elim
/-- xs[::-1] -/
theorem de_revL {W : WX} {e : Expr} {m : EM D} {k : Nat} {p1 p2 p3 pos : Pos} (he : DE X W e m) : DE X W (.Subscript e (.Slice none none (some (.UnaryOp .USub (.Constant (.int 1) k p1) p2)) p3) pos) (mListRev m) := by
  refine (pe_revL he).imp fun σ H Q ⟨ρ, h, al, rs, rh, q⟩ => ⟨ρ, h, al, rs, rh, (PostG.bind q).imp ?_⟩
  rintro x H1 ⟨d, h1, al1, e1, rh1, r1, q1⟩
  try dsimp only at q1
  split at q1
  · cases r1 with | ref ha =>
    split at q1
    · rename_i xs e0
      obtain ⟨vs, h2, h3⟩ := list_of rh1 e0 ha
      exact ⟨_, vs, rfl, h2, fun l hl => PostG.newLst q1 rh1 h3.reverse hl⟩
    · exact q1.elim
  · exact q1.elim
end
end DL

namespace DL
open PySem PySem.Spec PyProof.Rows L2
section
variable {X : Cx} {K : PySem.W.Frag} {W : WX} {tg e a b c : Expr} {es : List Expr} {pos : Pos} {ma mb mc : EM D} {mt : EM Bool} {mr : EM (List D)}
/-- a module's constant -/
theorem de_globE {x : Str} {v : V} {d : D} (hg : Gl X x) (hm : ∃ u, X.mg x = some u ∧ RelV v u) (rd : ∀ H al, RV X.K H al d v) (hd : (x == ("__debug__" : Str)) = false := by decide) {pos : Pos} : DE X W (.Name x pos) (mC d) := by
  obtain ⟨u, h1, h2⟩ := hm
  exact de_glob hg h1 h2 rd hd
/-- a tuple of texts of the written part -/
theorem wtup {a : Addr} {oc : Option Addr} {its : List Value} {n : Nat} {sl : Array (Option Value)} {ds : List D} {vs : List V} (l : K.lookup a = some ⟨.type "tuple", oc, .seq its.toArray n, sl⟩) (hl : its.length ≤ sizeLine) (hv : Vals vs its) (r : ∀ H al, RVs K H al ds vs) : ∀ H al, RV K H al (.tup ds) (.ref a) :=
  fun H al => .tup (.inr ⟨_, _, n, l, rfl, rfl, by simpa using hl, by simpa using hv⟩) (r H al)
open Classical in
/-- a in d, d a dict of the module with text keys -/
noncomputable def gInKD (neg : Bool) (a : Addr) (f : Str → Option D) (d e : D) (h : DH) : Out D := match d, e with
  | .str z, .raw v => if v = .ref a then .val (.bl (if neg then !(f z).isSome else (f z).isSome)) h else .bad
  | _, _ => .bad
theorem oc_inkd {ad : Addr} {f : Str → Option D} (neg : Bool) (hf : ∀ z, ∃ r, PySem.W.nsIn K ad z = some r ∧ r.isSome = (f z).isSome) :
    OpC K (fun x y H Q => ∃ (z : Str) (r : Option Value), x = .str z ∧ y = .ref ad ∧ PySem.W.nsIn K ad z = some r ∧ Q (.bl (if neg then !r.isSome else r.isSome)) H) (gInKD neg ad f) := by
  intro Wx H al h x y d e Q rh r1 r2 q
  unfold gInKD at q
  split at q
  · cases r1; cases r2
    obtain ⟨hz, q⟩ := ite_post q
    rename_i z v
    obtain ⟨r, h1, h2⟩ := hf z
    refine ⟨z, r, rfl, hz, h1, ?_⟩
    rw [h2]
    exact PostG.val q rh .bl
  · exact q.elim
theorem op_in_kdd {d : Addr} {es : Array DictEntry} {n : Nat} (D : KDict X.K X.w d es n) : OpR X (compareOp .In) (fun x y H Q => ∃ (z : Str) (r : Option Value), x = .str z ∧ y = .ref d ∧ PySem.W.nsIn X.K d z = some r ∧ Q (.bl (if false then !r.isSome else r.isSome)) H) := op_in_kd D
theorem op_notin_kdd {d : Addr} {es : Array DictEntry} {n : Nat} (D : KDict X.K X.w d es n) : OpR X (compareOp .NotIn) (fun x y H Q => ∃ (z : Str) (r : Option Value), x = .str z ∧ y = .ref d ∧ PySem.W.nsIn X.K d z = some r ∧ Q (.bl (if true then !r.isSome else r.isSome)) H) := op_notIn_kd D
/-- these are all the keys of a dict of the written part -/
def keysOkL (es : List DictEntry) (keys : List Str) : Bool := es.all (fun e => !e.refKey && keys.any fun k => e.key.isStr k) && keys.all fun k => es.any (·.key.isStr k)
theorem isStr_inj {v : Value} {x y : Str} (h1 : v.isStr x = true) (h2 : v.isStr y = true) : x = y := by
  cases v <;> simp_all [Value.isStr]
theorem keys_in {K : PySem.W.Frag} {a : Addr} {keys : List Str} {f : Str → Option D} {c : Value} {od : Option Addr} {es : Array DictEntry} {n : Nat} {sl : Array (Option Value)} (e : K.lookup a = some ⟨c, od, .dict es n, sl⟩) (h : keysOkL es.toList keys = true) (hf : ∀ z, (f z).isSome = keys.contains z) : ∀ z, ∃ r, PySem.W.nsIn K a z = some r ∧ r.isSome = (f z).isSome := by
  intro z
  unfold keysOkL at h
  unfold PySem.W.nsIn
  · rw [e]
    dsimp only
    rw [Bool.and_eq_true, List.all_eq_true, List.all_eq_true] at h
    obtain ⟨h1, h2⟩ := h
    cases q : es.toList.find? (·.key.isStr z) with
    | some x =>
      refine ⟨_, rfl, ?_⟩
      rw [hf]
      have m := List.mem_of_find?_eq_some q
      have k := List.find?_some q
      have := h1 x m
      rw [Bool.and_eq_true, List.any_eq_true] at this
      obtain ⟨k', hk, hk2⟩ := this.2
      have := isStr_inj k hk2
      subst this
      show true = _
      rw [Eq.comm, List.contains_iff_mem]
      exact hk
    | none =>
      dsimp only
      have nr : es.toList.any (·.refKey) = false := by
        rw [List.any_eq_false]
        intro x hx
        have := h1 x hx
        rw [Bool.and_eq_true] at this
        simpa using this.1
      rw [if_neg (by rw [nr]; decide)]
      refine ⟨_, rfl, ?_⟩
      rw [hf]
      show false = _
      rw [Eq.comm, ← Bool.not_eq_true, List.contains_iff_mem]
      intro hz
      have := h2 z hz
      rw [List.any_eq_true] at this
      obtain ⟨x, hx, hx2⟩ := this
      have := List.find?_eq_none.mp q x hx
      exact this hx2
/-- {} -/
def mDictE : EM D := fun _ h => .val (.ref h.length) (h ++ [.dk []])
theorem de_dictE : DE X W (.Dict [] [] pos) mDictE := by
  refine pe_dnewK.imp fun σ H Q ⟨ρ, h, al, rs, rh, q⟩ p hp => ?_
  have ev : Evo X.K H al (upd H p (.dK [])) (al ++ [p]) := Evo.new hp
  refine q _ (al ++ [p]) _ ev (rh.new hp ⟨[], upd_same, .nil⟩) (.ref ?_)
  rw [rh.len, List.getElem?_append_right (Nat.le_refl _)]
  simp
/-- isinstance(e, C) within a suite -/
theorem de_isE {a0 : Addr} {oe : Obj} {pn : List (Addr × Obj)} {cls : Value} {kit : Value → Value → Option Bool} {p : Pos} {e1 e2 : Expr} (hz : Zc cls none oe) (hv : ∃ vs, oe.data = .fields vs) (hD : ∃ Dc, cls = .ref Dc ∧ ExcC X.K Dc ∧ ∀ c b, kit cls c = some b → PySem.W.kitOne X.K (.ref Dc) c = some b)
    (hg : Gl (X.suite a0 ((a0, oe) :: pn)) "isinstance") (hm : X.mg "isinstance" = none) (ha : DA (X.suite a0 ((a0, oe) :: pn)) W0 [e1, e2] mr) (he : starEach [e1, e2] X.env = (false, eval e1 X.env) :: starEach [e2] X.env := by rfl) (hpl : (backTo pos (starEach [e2] X.env)).any (·.1) = false := by rfl) : DE (X.suite a0 ((a0, oe) :: pn)) W0 (.Call (.Name "isinstance" p) [e1, e2] [] pos) (mCall (gIsE a0 (kit cls)) mr) := by
  obtain ⟨Dc, rfl, xc, hk⟩ := hD
  exact de_callB (X := X.suite a0 ((a0, oe) :: pn)) ((call_isE xc hz hv).or (call_isET xc hz hv)) (cc_isE hk) hg hm (by decide +kernel) ha (by decide) (by decide) he hpl
/-- list(reversed(x)) -/
def mChn (g g' : D → D → DH → Out D) (ma mb mc : EM D) : EM D := fun ρ h => (ma ρ h).bind fun x h1 => (mb ρ h1).bind fun y h2 => (g x y h2).bind (asB fun k h3 => if k = true then (mc ρ h3).bind fun z h4 => g' y z h4 else .val (.bl false) h3)
theorem de_chain {op op' : CmpOp} {r r' : R2} {g g' : D → D → DH → Out D} (ho : OpR X (compareOp op) r) (hc1 : OpC X.K r g) (ho' : OpR X (compareOp op') r') (hc2 : OpC X.K r' g') (ha : DE X W a ma) (hb : DE X W b mb) (hc : DE X W c mc)
    (hm : lastMarks [op, op'] [b, c] = false := by with_unfolding_all rfl) : DE X W (.Compare a [op, op'] [b, c] pos) (mChn g g' ma mb mc) := dt_chain ho hc1 ho' hc2 (pe_chain ho ho' ha hb hc hm)
theorem dt_chain2 {op op' : CmpOp} {r r' : R2} {g g' : D → D → DH → Out D} (ho : OpR X (compareOp op) r) (hc1 : OpC X.K r g) (ho' : OpR X (compareOp op') r') (hc2 : OpC X.K r' g') (ha : DE X W a ma) (hb : DE X W b mb) (hc : DE X W c mc)
    (hm : lastMarks [op, op'] [b, c] = false := by with_unfolding_all rfl) : DT X W (.Compare a [op, op'] [b, c] pos) (mB (mChn g g' ma mb mc)) := by
  refine (pt_chain ho ho' ha hb hc hm).imp fun σ H Q q => test_imp (fun σ H Q q => ?_) σ H Q q
  obtain ⟨ρ, h, al, rs, rh, q⟩ := q
  refine ⟨ρ, h, al, rs, rh, (PostG.bind q).imp ?_⟩
  rintro x H1 ⟨d, h1, al1, e1, rh1, r1, q1⟩
  refine ⟨ρ, h1, al1, rs.evo e1, rh1, (PostG.bind q1).imp ?_⟩
  rintro y H2 ⟨e, h2, al2, e2, rh2, r2, q2⟩
  refine hc1 _ H2 al2 h2 x y d e _ rh2 (r1.evo e2) r2 ((PostG.bind q2).imp ?_)
  rintro z H3 ⟨f, h3, al3, e3, rh3, r3, q3⟩
  cases r3 with
  | bl =>
    rename_i k
    refine ⟨k, rfl, ?_⟩
    have q3 : PostG X.K (RV X.K) (fun c d H' => W c d σ H') H3 al3 (if k = true then (mc ρ h3).bind fun z h4 => g' e z h4 else .val (.bl false) h3) Q := q3
    cases k with
    | true =>
      rw [if_pos rfl] at q3
      refine iteT ⟨ρ, h3, al3, ((rs.evo e1).evo e2).evo e3, rh3, (PostG.bind q3).imp ?_⟩
      rintro z H4 ⟨f, h4, al4, e4, rh4, r4, q4⟩
      exact hc2 _ H4 al4 h4 y z e f Q rh4 (r2.evo (e3.trans e4)) r4 q4
    | false =>
      rw [if_neg (by decide)] at q3
      exact iteF (PostG.val q3 rh3 .bl)
  | _ => exact q3.elim
end
end DL

namespace DL
open PySem PySem.Spec PyProof.Rows L2
/-! running by simp -/
@[simp] theorem ofs_inj {s t : String} : (Str.ofString s = Str.ofString t) ↔ s = t := by
  refine ⟨fun e => ?_, fun e => by rw [e]⟩
  rw [Str.ofString_eq_toList, Str.ofString_eq_toList] at e
  injection e with e
  have e := congrArg Array.toList e
  simp only [List.toList_toArray] at e
  have e := (List.map_inj_right (f := Char.toNat) (fun x y h => Char.ext (UInt32.toNat_inj.mp h))).mp e
  exact String.toList_inj.mp e
@[simp] theorem ofs_len {s : String} : (Str.ofString s).length = s.length := by
  rw [Str.ofString_eq_toList]
  show (List.toArray (s.toList.map Char.toNat)).size = _
  simp [String.length_toList]
@[simp] theorem ofs_beq {s t : String} : (Str.ofString s == Str.ofString t) = (s == t) := by
  rw [Bool.eq_iff_iff]; simp

section
variable {β : Type} {ma mb mc : EM D} {mt mu : EM Bool} {mr : EM (List D)} {m n : SM} {ρ : DEnv} {h : DH} {i : Nat} {d e : D}
@[simp] theorem r_mVar : mVar i ρ h = match ρ.getD i none with
  | some d => .val d h
  | none => .bad := rfl
@[simp] theorem r_mC {d : β} : mC d ρ h = .val d h := rfl
@[simp] theorem r_mOp {g : D → D → DH → Out β} : mOp g ma mb ρ h = (ma ρ h).bind fun x h1 => (mb ρ h1).bind fun y h2 => g x y h2 := rfl
@[simp] theorem r_mUn {g : D → DH → Out β} : mUn g ma ρ h = (ma ρ h).bind g := rfl
@[simp] theorem r_mB : mB ma ρ h = (ma ρ h).bind (asB fun b h => .val b h) := rfl
@[simp] theorem r_asB {k : Bool → DH → Out β} {b : Bool} : asB k (.bl b) h = k b h := rfl
@[simp] theorem r_mAnd : mAnd mt mu ρ h = (mt ρ h).bind fun k h1 => if k = true then mu ρ h1 else .val false h1 := rfl
@[simp] theorem r_mOr : mOr mt mu ρ h = (mt ρ h).bind fun k h1 => if k = true then .val true h1 else mu ρ h1 := rfl
@[simp] theorem r_mNot : mNot mt ρ h = (mt ρ h).bind fun k h1 => .val (!k) h1 := rfl
@[simp] theorem r_mIf {ma mb : EM β} : mIf mt ma mb ρ h = (mt ρ h).bind fun k h1 => if k = true then ma ρ h1 else mb ρ h1 := rfl
@[simp] theorem r_mAndV : mAndV ma mb ρ h = (ma ρ h).bind (asB fun k h1 => if k = true then mb ρ h1 else .val (.bl false) h1) := rfl
@[simp] theorem r_mOrV : mOrV ma mb ρ h = (ma ρ h).bind (asB fun k h1 => if k = true then .val (.bl true) h1 else mb ρ h1) := rfl
@[simp] theorem r_mNotV : mNotV ma ρ h = (ma ρ h).bind (asB fun k h1 => .val (.bl (!k)) h1) := rfl
@[simp] theorem r_mNil : mNil ρ h = .val [] h := rfl
@[simp] theorem r_mCons : mCons ma mr ρ h = (ma ρ h).bind fun x h1 => (mr ρ h1).bind fun xs h2 => .val (x :: xs) h2 := rfl
@[simp] theorem r_mTup : mTup mr ρ h = (mr ρ h).bind fun xs h1 => if xs.length ≤ sizeLine then .val (.tup xs) h1 else .bad := rfl
@[simp] theorem r_mLst : mLst mr ρ h = (mr ρ h).bind fun xs h1 => if xs.length ≤ sizeLine then .val (.ref h1.length) (h1 ++ [.lst xs]) else .bad := rfl
@[simp] theorem r_mCall {F : List D → DH → Out β} : mCall F mr ρ h = (mr ρ h).bind F := rfl
@[simp] theorem r_mPN : mPN ρ h = .val none h := rfl
@[simp] theorem r_mPS : mPS ma ρ h = (ma ρ h).bind fun d h1 => match d with
  | .int i => .val (some i) h1
  | _ => .bad := rfl
@[simp] theorem r_mSl {ml mh : EM (Option Int)} : mSl ma ml mh ρ h = (ma ρ h).bind fun d h1 => (ml ρ h1).bind fun lo h2 => (mh ρ h2).bind fun hi h3 => gSl d lo hi h3 := rfl
@[simp] theorem r_mM0 {g : D → List D → DH → Out D} : mM0 g ma ρ h = (ma ρ h).bind fun d h1 => if isStrD d = true then g d [] h1 else .bad := rfl
@[simp] theorem r_mM1 {g : D → List D → DH → Out D} : mM1 g ma mb ρ h = (ma ρ h).bind fun d h1 => if isStrD d = true then (mb ρ h1).bind fun e h2 => g d [e] h2 else .bad := rfl
@[simp] theorem r_isStrD {x : Str} : isStrD (.str x) = true := rfl
@[simp] theorem r_sNil : sNil ρ h = .nx ρ h := rfl
@[simp] theorem r_sSeq : sSeq m n ρ h = (m ρ h).thn n := rfl
@[simp] theorem r_sBrk : sBrk ρ h = .brk ρ h := rfl
@[simp] theorem r_sCnt : sCnt ρ h = .cnt ρ h := rfl
@[simp] theorem r_sExpr : sExpr ma ρ h = (ma ρ h).toS ρ fun _ h1 => .nx ρ h1 := rfl
@[simp] theorem r_sRet : sRet ma ρ h = (ma ρ h).toS ρ fun d h1 => .ret d h1 := rfl
@[simp] theorem r_sIf : sIf mt m n ρ h = (mt ρ h).toS ρ fun k h1 => if k = true then m ρ h1 else n ρ h1 := rfl
@[simp] theorem r_gSet : gSet i d ρ h = .nx (ρ.set i (some d)) h := rfl
@[simp] theorem r_sAsg {g : GM} : sAsg ma g ρ h = (ma ρ h).toS ρ fun d h1 => g d ρ h1 := rfl
@[simp] theorem r_sPar {j : Nat} : sPar i j mr ρ h = (mr ρ h).toS ρ fun ds h1 => match ds with
  | [d, e] => .nx ((ρ.set i (some d)).set j (some e)) h1
  | _ => .bad := rfl
@[simp] theorem r_sRaise {c : Value} : sRaise c ρ h = .exc ⟨c, []⟩ ρ h := rfl
@[simp] theorem r_fin_nx : (SOut.nx ρ h).fin = .val .non h := rfl
@[simp] theorem r_fin_ret : (SOut.ret d h).fin = .val d h := rfl
@[simp] theorem r_fin_exc {x : DX} : (SOut.exc x ρ h).fin = .exc x h := rfl
@[simp] theorem r_fin_bad : SOut.bad.fin = .bad := rfl
theorem r_rng1 {h' : DH} {j : Int} (e : mr ρ h = .val [.int j] h') (z : gR62 j) : iRng1D mr ρ h = .val (fun _ => some (rangeD 0 j.toNat)) h' := by
  unfold iRng1D; rw [e]; exact if_pos z
theorem r_rng2 {h' : DH} {i j : Int} (e : mr ρ h = .val [.int i, .int j] h') (y : gR62 i) (z : gR62 j) : iRng2D mr ρ h = .val (fun _ => some (rangeD i (j - i).toNat)) h' := by
  unfold iRng2D; rw [e]; exact if_pos ⟨y, z⟩
theorem r_for {mi : EM ItD} {g : GM} {it : ItD} {ds : List D} {h1 : DH} (e : mi ρ h = .val it h1) (e2 : it h1 = some ds) : sFor mi g m ρ h = loopL it ds g m ds ρ h1 := by
  unfold sFor; rw [e]; show (match it h1 with | some ds => loopL it ds g m ds ρ h1 | none => .bad) = _; rw [e2]
theorem small62 {n : Nat} (h : n ≤ 1000000) : gR62 (n : Int) := ⟨by omega, by omega⟩
theorem e_call {F : List D → DH → Out β} {ds : List D} {h' : DH} (e : mr ρ h = .val ds h') : mCall F mr ρ h = F ds h' := by rw [r_mCall, e]; rfl
theorem e_cons {x : D} {xs : List D} {h1 h2 : DH} (e : ma ρ h = .val x h1) (e2 : mr ρ h1 = .val xs h2) : mCons ma mr ρ h = .val (x :: xs) h2 := by rw [r_mCons, e]; show ((mr ρ h1).bind _) = _; rw [e2]; rfl
theorem e_nil : mNil ρ h = .val [] h := rfl
theorem e_B {b : Bool} {h1 : DH} (e : ma ρ h = .val (.bl b) h1) : mB ma ρ h = .val b h1 := by rw [r_mB, e]; rfl
theorem e_not {b : Bool} {h1 : DH} (e : mt ρ h = .val b h1) : mNot mt ρ h = .val (!b) h1 := by rw [r_mNot, e]; rfl
theorem e_op {g : D → D → DH → Out β} {x y : D} {h1 h2 : DH} (e : ma ρ h = .val x h1) (e2 : mb ρ h1 = .val y h2) : mOp g ma mb ρ h = g x y h2 := by rw [r_mOp, e]; show ((mb ρ h1).bind _) = _; rw [e2]; rfl
theorem e_callT {g : List D → DH → Out D} {ds : List D} {h1 : DH} {r : Out D} (e : mr ρ h = .val ds h1) (k : g ds h1 = r) : mCall g mr ρ h = r := (e_call e).trans k
theorem e_opT {g : D → D → DH → Out β} {x y : D} {h1 h2 : DH} {r : Out β} (e : ma ρ h = .val x h1) (e2 : mb ρ h1 = .val y h2) (k : g x y h2 = r) : mOp g ma mb ρ h = r := (e_op e e2).trans k
theorem e_andT {h1 : DH} (e : mt ρ h = .val true h1) : mAnd mt mu ρ h = mu ρ h1 := by rw [r_mAnd, e]; rfl
theorem e_andF {h1 : DH} (e : mt ρ h = .val false h1) : mAnd mt mu ρ h = .val false h1 := by rw [r_mAnd, e]; rfl
theorem e_orT {h1 : DH} (e : mt ρ h = .val true h1) : mOr mt mu ρ h = .val true h1 := by rw [r_mOr, e]; rfl
theorem e_orF {h1 : DH} (e : mt ρ h = .val false h1) : mOr mt mu ρ h = mu ρ h1 := by rw [r_mOr, e]; rfl
theorem e_andVT {h1 : DH} (e : ma ρ h = .val (.bl true) h1) : mAndV ma mb ρ h = mb ρ h1 := by rw [r_mAndV, e]; rfl
theorem e_andVF {h1 : DH} (e : ma ρ h = .val (.bl false) h1) : mAndV ma mb ρ h = .val (.bl false) h1 := by rw [r_mAndV, e]; rfl
theorem e_orVT {h1 : DH} (e : ma ρ h = .val (.bl true) h1) : mOrV ma mb ρ h = .val (.bl true) h1 := by rw [r_mOrV, e]; rfl
theorem e_orVF {h1 : DH} (e : ma ρ h = .val (.bl false) h1) : mOrV ma mb ρ h = mb ρ h1 := by rw [r_mOrV, e]; rfl
theorem e_ret {h1 : DH} (e : ma ρ h = .val d h1) : sRet ma ρ h = .ret d h1 := by rw [r_sRet, e]; rfl
theorem fin_step {a : SOut} {r : Out D} {ρ : DEnv} {h : DH} (e : a = .nx ρ h) (k : (n ρ h).fin = r) : (a.thn n).fin = r := by rw [e]; exact k
theorem nx_step {a : SOut} {r : SOut} {ρ : DEnv} {h : DH} (e : a = .nx ρ h) (k : n ρ h = r) : a.thn n = r := by rw [e]; exact k
theorem asg_step {g : GM} {h' : DH} {r : SOut} (e : ma ρ h = .val d h') (k : g d ρ h' = r) : sAsg ma g ρ h = r := by rw [r_sAsg, e]; exact k
theorem if_step {b : Bool} {h' : DH} {r : SOut} (e : mt ρ h = .val b h') (k : (if b = true then m ρ h' else n ρ h') = r) : sIf mt m n ρ h = r := by rw [r_sIf, e]; exact k
/-! operators -/
@[simp] theorem r_add_int {i j : Int} : gAdd (.int i) (.int j) h = .val (.int (i + j)) h := rfl
@[simp] theorem r_I0 {f : Int → Int → D} {i j : Int} : gI0 f (.int i) (.int j) h = .val (f i j) h := rfl
theorem r_II {C : Int → Int → Prop} {f : Int → Int → D} {i j : Int} (c : C i j) : gII C f (.int i) (.int j) h = .val (f i j) h := by
  unfold gII; exact if_pos c
@[simp] theorem r_neg {i : Int} : gNeg (.int i) h = .val (.int (-i)) h := rfl
@[simp] theorem r_lt_int {i j : Int} : gLt (.int i) (.int j) h = .val (.bl (decide (i < j))) h := rfl
theorem r_mod {i j : Int} (c : 0 < j) : gMod (.int i) (.int j) h = .val (.int (i % j)) h := r_II c
theorem r_fdivG {i j : Int} (c : j ≠ 0) (c2 : j.natAbs < 2 ^ 9000) : gFdiv (.int i) (.int j) h = .val (.int (i.fdiv j)) h := r_II ⟨c, PySem.Flt.log2_lt_of (by decide) c2⟩
theorem r_fdiv {i j : Int} (c : 0 < j) (c2 : j.natAbs < 2 ^ 9000) : gFdiv (.int i) (.int j) h = .val (.int (i / j)) h := by
  rw [r_fdivG (by omega) c2, Int.fdiv_eq_ediv_of_nonneg i (by omega)]
theorem r_mul {i j : Int} {a b : Nat} (ha : i.natAbs < 2 ^ a) (hb : j.natAbs < 2 ^ b) (h0 : 0 < a) (h1 : 0 < b) (hs : a + b ≤ 1000000) : gMul (.int i) (.int j) h = .val (.int (i * j)) h := r_II (.inr (wide_mul ha hb h0 h1 hs))
theorem r_mulR {i j : Int} (h1 : -(2 ^ 64) < j) (h2 : j < 2 ^ 64) : gMul (.int i) (.int j) h = .val (.int (i * j)) h := r_II (.inl (.inr ⟨h1, h2⟩))
theorem r_mulL {i j : Int} (h1 : -(2 ^ 64) < i) (h2 : i < 2 ^ 64) : gMul (.int i) (.int j) h = .val (.int (i * j)) h := r_II (.inl (.inl ⟨h1, h2⟩))
theorem r_pow {i j : Int} (c : CPow i j) : gPow (.int i) (.int j) h = .val (.int (i ^ j.toNat)) h := r_II c
@[simp] theorem r_len_tup {xs : List D} : gLen [.tup xs] h = .val (.int xs.length) h := rfl
theorem r_len_lst {k : Nat} {xs : List D} (e : listAt h k = some xs) : gLen [.ref k] h = .val (.int xs.length) h := by
  unfold listAt at e; unfold gLen
  split at e
  · rename_i e1; cases e; dsimp only; rw [e1]
  · rename_i e1; cases e; dsimp only; rw [e1]
  · cases e
@[simp] theorem r_max2 {i j : Int} : gMax2 [.int i, .int j] h = .val (.int (if j > i then j else i)) h := rfl
@[simp] theorem r_min2 {i j : Int} : gMin2 [.int i, .int j] h = .val (.int (if j < i then j else i)) h := rfl
@[simp] theorem r_abs {i : Int} : gAbs [.int i] h = .val (.int (if i < 0 then -i else i)) h := rfl
@[simp] theorem r_int_i {i : Int} : gInt1 [.int i] h = .val (.int i) h := rfl
@[simp] theorem r_int_b {b : Bool} : gInt1 [.bl b] h = .val (.int (if b then 1 else 0)) h := rfl
@[simp] theorem r_tupOf_tup {xs : List D} : gTupOf [.tup xs] h = .val (.tup xs) h := rfl
theorem r_tupOf_lst {k : Nat} {xs : List D} (e : listAt h k = some xs) : gTupOf [.ref k] h = .val (.tup xs) h := by
  unfold gTupOf; dsimp only; rw [e]
theorem r_ix_tup {xs : List D} {k : Nat} {x : D} (e : xs[k]? = some x) : gIx (.tup xs) (.int (k : Int)) h = .val x h := by
  unfold gIx; dsimp only; rw [L2.atI_nat e]
@[simp] theorem r_ix0 {x : D} {xs : List D} : gIx (.tup (x :: xs)) (.int 0) h = .val x h := r_ix_tup (k := 0) rfl
@[simp] theorem r_ix1 {x y : D} {xs : List D} : gIx (.tup (x :: y :: xs)) (.int 1) h = .val y h := r_ix_tup (k := 1) rfl
theorem r_ix_lst {p : Nat} {xs : List D} {k : Nat} {x : D} (e0 : listAt h p = some xs) (e : xs[k]? = some x) : gIx (.ref p) (.int (k : Int)) h = .val x h := by
  unfold gIx; dsimp only; rw [e0]; dsimp only; rw [L2.atI_nat e]
theorem r_ix_tupI {xs : List D} {i : Int} {x : D} (e : L2.atI xs i = some x) : gIx (.tup xs) (.int i) h = .val x h := by
  unfold gIx; dsimp only; rw [e]
theorem r_ix_lstI {p : Nat} {xs : List D} {i : Int} {x : D} (e0 : listAt h p = some xs) (e : L2.atI xs i = some x) : gIx (.ref p) (.int i) h = .val x h := by
  unfold gIx; dsimp only; rw [e0]; dsimp only; rw [e]
@[simp] theorem r_sl_tup {xs : List D} {lo hi : Option Int} : gSl (.tup xs) lo hi h = .val (.tup (cutD xs lo hi)) h := rfl
theorem r_sl_lst {p : Nat} {xs : List D} {lo hi : Option Int} (e : listAt h p = some xs) : gSl (.ref p) lo hi h = .val (.ref h.length) (h ++ [.lst (cutD xs lo hi)]) := by
  unfold gSl; dsimp only; rw [e]
/-! equality of flat things -/
theorem r_eq_scal {d e : D} {h : DH} (z : scalD d e = true) : gEq d e h = .val (.bl (eqD d e)) h := if_pos z
theorem r_ne_scal {d e : D} {h : DH} (z : scalD d e = true) : gNe d e h = .val (.bl (!eqD d e)) h := if_pos z
@[simp] theorem r_eq_str {x y : Str} {h : DH} : gEq (.str x) (.str y) h = .val (.bl (x == y)) h := rfl
@[simp] theorem r_eq_int {x y : Int} {h : DH} : gEq (.int x) (.int y) h = .val (.bl (x == y)) h := rfl
@[simp] theorem r_ne_str {x y : Str} {h : DH} : gNe (.str x) (.str y) h = .val (.bl (!(x == y))) h := rfl
@[simp] theorem r_ne_int {x y : Int} {h : DH} : gNe (.int x) (.int y) h = .val (.bl (!(x == y))) h := rfl
/-! isinstance -/
@[simp] theorem r_isTy {T t : String} {b : Bool} (e : tyD h d = some t) (k : kitB t T = some b) : gIsTy [d, .raw (.ty T)] h = .val (.bl b) h := by
  unfold gIsTy; dsimp only; rw [e]; dsimp only; rw [k]
@[simp] theorem r_str_str {x : Str} : gIsTy [.str x, .raw (.ty "str")] h = .val (.bl true) h := r_isTy (t := "str") rfl (by decide +kernel)
@[simp] theorem r_tup_tup {x : List D} : gIsTy [.tup x, .raw (.ty "tuple")] h = .val (.bl true) h := r_isTy (t := "tuple") rfl (by decide +kernel)
@[simp] theorem r_int_int {x : Int} : gIsTy [.int x, .raw (.ty "int")] h = .val (.bl true) h := r_isTy (t := "int") rfl (by decide +kernel)
@[simp] theorem r_int_bool {x : Int} : gIsTy [.int x, .raw (.ty "bool")] h = .val (.bl false) h := r_isTy (t := "int") rfl (by decide +kernel)
@[simp] theorem r_bl_int {x : Bool} : gIsTy [.bl x, .raw (.ty "int")] h = .val (.bl true) h := r_isTy (t := "bool") rfl (by decide +kernel)
@[simp] theorem r_bl_bool {x : Bool} : gIsTy [.bl x, .raw (.ty "bool")] h = .val (.bl true) h := r_isTy (t := "bool") rfl (by decide +kernel)
end
/-! ### heaps that grow -/
theorem listAt_app {h j : DH} {n : Nat} {xs : List D} (e : listAt h n = some xs) : listAt (h ++ j) n = some xs := by
  unfold listAt at e ⊢
  cases q : h[n]? with
  | none => rw [q] at e; cases e
  | some o =>
    have hn := (List.getElem?_eq_some_iff.mp q).1
    rw [List.getElem?_append_left hn, q]
    rw [q] at e; exact e
theorem listAt_mid {h j : DH} {xs : List D} : listAt (h ++ .lst xs :: j) h.length = some xs := by
  unfold listAt
  rw [List.getElem?_append_right (Nat.le_refl _)]
  simp
theorem listAt_end {h : DH} {xs : List D} : listAt (h ++ [.lst xs]) h.length = some xs := listAt_mid
theorem get_mid {h j : DH} {o : DO} : (h ++ o :: j)[h.length]? = some o := by
  rw [List.getElem?_append_right (Nat.le_refl _)]; simp
theorem set_mid {h j : DH} {o o' : DO} : (h ++ o :: j).set h.length o' = h ++ o' :: j := by
  rw [List.set_append_right _ _ (Nat.le_refl _)]; simp
/-! ### comprehensions -/
/-- each element may lay things behind -/
theorem lcLoop_map {it : ItD} {all : List D} {c : CT} {mt : EM Bool} {me : EM D} {ρ : DEnv} {h : DH} {p : D → Bool} {g : D → D} (hit : ∀ acc j, it (h ++ .lst acc :: j) = some all) :
    ∀ (ds : List D) (acc : List D) (j : DH), acc.length + ds.length < sizeLine →
      (∀ d ∈ ds, ∃ ρ2, c.put d ρ = some ρ2 ∧ ∀ acc j, ∃ j1, mt ρ2 (h ++ .lst acc :: j) = .val (p d) (h ++ .lst acc :: (j ++ j1)) ∧ (p d = true → ∀ j, ∃ j2, me ρ2 (h ++ .lst acc :: j) = .val (g d) (h ++ .lst acc :: (j ++ j2)))) →
      ∃ j', lcLoop it all c mt me h.length ρ ds (h ++ .lst acc :: j) = .val (.ref h.length) (h ++ .lst (acc ++ (ds.filter p).map g) :: j')
  | [], acc, j, _, _ => by
    refine ⟨j, ?_⟩
    unfold lcLoop
    rw [if_pos (hit acc j)]
    simp
  | d :: ds, acc, j, hz, hs => by
    obtain ⟨ρ2, h1, h2⟩ := hs d List.mem_cons_self
    obtain ⟨j1, e1, h3⟩ := h2 acc j
    rw [List.length_cons] at hz
    unfold lcLoop
    rw [if_pos (hit acc j), h1]
    dsimp only
    rw [e1]
    cases hp : p d with
    | true =>
      obtain ⟨j2, e2⟩ := h3 hp (j ++ j1)
      dsimp only
      rw [e2]
      dsimp only
      rw [get_mid]
      dsimp only
      rw [if_pos (by omega), set_mid]
      obtain ⟨j', e⟩ := lcLoop_map hit ds (acc ++ [g d]) (j ++ j1 ++ j2) (by rw [List.length_append]; simp; omega) (fun d hd => hs d (List.mem_cons_of_mem _ hd))
      refine ⟨j', e.trans ?_⟩
      rw [List.filter_cons_of_pos hp]
      simp
    | false =>
      dsimp only
      obtain ⟨j', e⟩ := lcLoop_map hit ds acc (j ++ j1) (by omega) (fun d hd => hs d (List.mem_cons_of_mem _ hd))
      refine ⟨j', e.trans ?_⟩
      rw [List.filter_cons_of_neg (by rw [hp]; exact Bool.false_ne_true)]
theorem mLc_map {mi : EM ItD} {c : CT} {mt : EM Bool} {me : EM D} {vs : List Nat} {ρ : DEnv} {h0 h : DH} {it : ItD} {ds : List D} {p : D → Bool} {g : D → D} (e : mi ρ h0 = .val it h) (hit0 : it h = some ds) (hit : ∀ acc j, it (h ++ .lst acc :: j) = some ds) (hz : ds.length < sizeLine)
    (hs : ∀ d ∈ ds, ∃ ρ2, c.put d (wipeD ρ vs) = some ρ2 ∧ ∀ acc j, ∃ j1, mt ρ2 (h ++ .lst acc :: j) = .val (p d) (h ++ .lst acc :: (j ++ j1)) ∧ (p d = true → ∀ j, ∃ j2, me ρ2 (h ++ .lst acc :: j) = .val (g d) (h ++ .lst acc :: (j ++ j2)))) :
    ∃ j', mLc mi c mt me vs ρ h0 = .val (.ref h.length) (h ++ .lst ((ds.filter p).map g) :: j') := by
  unfold mLc
  rw [e]
  simp only [Out.bind_val]
  rw [hit0]
  dsimp only
  obtain ⟨j', e⟩ := lcLoop_map (ρ := wipeD ρ vs) (mt := mt) (me := me) (g := g) hit ds [] [] (by simpa using hz) hs
  exact ⟨j', by simpa using e⟩
/-! ### loops -/
theorem loopL_go {it : ItD} {all : List D} {g : GM} {m : SM} (Inv : Nat → DEnv → DH → Prop) (Ex : SOut → Prop) (hit : ∀ i ρ h, Inv i ρ h → it h = some all)
    (step : ∀ i d ρ h, all[i]? = some d → Inv i ρ h → ∃ ρ1 h1, g d ρ h = .nx ρ1 h1 ∧ ((∃ ρ2 h2, (m ρ1 h1 = .nx ρ2 h2 ∨ m ρ1 h1 = .cnt ρ2 h2) ∧ Inv (i + 1) ρ2 h2) ∨ (∃ ρ2 h2, m ρ1 h1 = .brk ρ2 h2 ∧ Ex (.nx ρ2 h2)) ∨ ((∃ d h2, m ρ1 h1 = .ret d h2 ∧ Ex (.ret d h2)) ∨ ∃ x ρ2 h2, m ρ1 h1 = .exc x ρ2 h2 ∧ Ex (.exc x ρ2 h2)))) :
    ∀ (ds : List D) (i : Nat) (ρ : DEnv) (h : DH), all.drop i = ds → i ≤ all.length → Inv i ρ h → (∃ ρ' h', loopL it all g m ds ρ h = .nx ρ' h' ∧ Inv all.length ρ' h') ∨ Ex (loopL it all g m ds ρ h)
  | [], i, ρ, h, e, hi, hI => by
    have : i = all.length := by
      have := congrArg List.length e
      simp at this; omega
    subst this
    unfold loopL
    rw [if_pos (hit _ _ _ hI)]
    exact .inl ⟨ρ, h, rfl, hI⟩
  | d :: ds, i, ρ, h, e, hi, hI => by
    have hd : all[i]? = some d := by
      have := congrArg List.head? e
      rw [List.head?_drop] at this
      exact this
    have hr : all.drop (i + 1) = ds := by
      have := congrArg List.tail e
      rw [List.tail_drop] at this
      exact this
    have hlt : i < all.length := (List.getElem?_eq_some_iff.mp hd).1
    unfold loopL
    rw [if_pos (hit _ _ _ hI)]
    obtain ⟨ρ1, h1, e1, z⟩ := step i d ρ h hd hI
    rw [e1]
    simp only [SOut.thn_nx]
    rcases z with ⟨ρ2, h2, z, I2⟩ | ⟨ρ2, h2, z, I2⟩ | ⟨d2, h2, z, I2⟩ | ⟨x, ρ2, h2, z, I2⟩
    · have ih := loopL_go Inv Ex hit step ds (i + 1) ρ2 h2 hr hlt I2
      rcases z with z | z
      · rw [z]; exact ih
      · rw [z]; exact ih
    · rw [z]; exact .inr I2
    · rw [z]; exact .inr I2
    · rw [z]; exact .inr I2
/-- a for and what follows it -/
theorem for_end {mi : EM ItD} {g : GM} {m n : SM} {ρ : DEnv} {h h1 : DH} {it : ItD} {all : List D} {P : Out D → Prop} (Inv : Nat → DEnv → DH → Prop) (Ex : SOut → Prop) (e : mi ρ h = .val it h1) (e2 : it h1 = some all) (hit : ∀ i ρ h, Inv i ρ h → it h = some all)
    (step : ∀ i d ρ h, all[i]? = some d → Inv i ρ h → ∃ ρ1 h1, g d ρ h = .nx ρ1 h1 ∧ ((∃ ρ2 h2, (m ρ1 h1 = .nx ρ2 h2 ∨ m ρ1 h1 = .cnt ρ2 h2) ∧ Inv (i + 1) ρ2 h2) ∨ (∃ ρ2 h2, m ρ1 h1 = .brk ρ2 h2 ∧ Ex (.nx ρ2 h2)) ∨ ((∃ d h2, m ρ1 h1 = .ret d h2 ∧ Ex (.ret d h2)) ∨ ∃ x ρ2 h2, m ρ1 h1 = .exc x ρ2 h2 ∧ Ex (.exc x ρ2 h2))))
    (i0 : Inv 0 ρ h1) (k1 : ∀ ρ' h', Inv all.length ρ' h' → P (n ρ' h').fin) (k2 : ∀ o, Ex o → P (o.thn n).fin) : P ((sFor mi g m ρ h).thn n).fin := by
  rw [r_for e e2]
  rcases loopL_go Inv Ex hit step all 0 ρ h1 rfl (Nat.zero_le _) i0 with ⟨ρ', h', e3, z⟩ | z
  · rw [e3]; exact k1 ρ' h' z
  · exact k2 _ z
/-- the same within a block -/
theorem for_endS {mi : EM ItD} {g : GM} {m n : SM} {ρ : DEnv} {h h1 : DH} {it : ItD} {all : List D} {P : SOut → Prop} (Inv : Nat → DEnv → DH → Prop) (Ex : SOut → Prop) (e : mi ρ h = .val it h1) (e2 : it h1 = some all) (hit : ∀ i ρ h, Inv i ρ h → it h = some all)
    (step : ∀ i d ρ h, all[i]? = some d → Inv i ρ h → ∃ ρ1 h1, g d ρ h = .nx ρ1 h1 ∧ ((∃ ρ2 h2, (m ρ1 h1 = .nx ρ2 h2 ∨ m ρ1 h1 = .cnt ρ2 h2) ∧ Inv (i + 1) ρ2 h2) ∨ (∃ ρ2 h2, m ρ1 h1 = .brk ρ2 h2 ∧ Ex (.nx ρ2 h2)) ∨ ((∃ d h2, m ρ1 h1 = .ret d h2 ∧ Ex (.ret d h2)) ∨ ∃ x ρ2 h2, m ρ1 h1 = .exc x ρ2 h2 ∧ Ex (.exc x ρ2 h2))))
    (i0 : Inv 0 ρ h1) (k1 : ∀ ρ' h', Inv all.length ρ' h' → P (n ρ' h')) (k2 : ∀ o, Ex o → P (o.thn n)) : P ((sFor mi g m ρ h).thn n) := by
  rw [r_for e e2]
  rcases loopL_go Inv Ex hit step all 0 ρ h1 rfl (Nat.zero_le _) i0 with ⟨ρ', h', e3, z⟩ | z
  · rw [e3]; exact k1 ρ' h' z
  · exact k2 _ z
theorem range_at {lo : Int} {n i : Nat} {d : D} (h : (rangeD lo n)[i]? = some d) : i < n ∧ d = .int (lo + (i : Int)) := by
  have hi : i < n := by
    have := (List.getElem?_eq_some_iff.mp h).1
    simpa [rangeD] using this
  refine ⟨hi, ?_⟩
  unfold rangeD at h
  rw [List.getElem?_map, List.getElem?_range hi] at h
  simpa using h.symm
end DL

namespace DL
open PySem PySem.Spec PyProof.Rows L2
/-! ### fractions -/
/-- what both are divided by -/
def rtS (t b : Int) : Int := if b < 0 then 0 - (Nat.gcd b.natAbs t.natAbs : Int) else (Nat.gcd b.natAbs t.natAbs : Int)
def rtP (t b : Int) : Int := t.fdiv (rtS t b)
def rtQ (t b : Int) : Int := b.fdiv (rtS t b)
theorem gcd_pos {t b : Int} (hb : b ≠ 0) : 0 < Nat.gcd b.natAbs t.natAbs := Nat.gcd_pos_of_pos_left _ (by omega)
theorem rtS_ne {t b : Int} (hb : b ≠ 0) : rtS t b ≠ 0 := by
  have := gcd_pos (t := t) hb
  unfold rtS; split <;> omega
theorem rtS_abs (t b : Int) : (rtS t b).natAbs = Nat.gcd b.natAbs t.natAbs := by
  unfold rtS; split <;> omega
theorem rtS_le {t b : Int} (hb : b ≠ 0) : (rtS t b).natAbs ≤ b.natAbs := by
  rw [rtS_abs]
  exact Nat.gcd_le_left _ (by omega)
theorem rtS_dt (t b : Int) : rtS t b ∣ t := by
  rw [← Int.natAbs_dvd_natAbs, rtS_abs]
  exact Nat.gcd_dvd_right _ _
theorem rtS_db (t b : Int) : rtS t b ∣ b := by
  rw [← Int.natAbs_dvd_natAbs, rtS_abs]
  exact Nat.gcd_dvd_left _ _
theorem rtP_mul (t b : Int) : rtP t b * rtS t b = t := by
  unfold rtP
  rw [Int.fdiv_eq_ediv_of_dvd (rtS_dt t b)]
  exact Int.ediv_mul_cancel (rtS_dt t b)
theorem rtQ_mul (t b : Int) : rtQ t b * rtS t b = b := by
  unfold rtQ
  rw [Int.fdiv_eq_ediv_of_dvd (rtS_db t b)]
  exact Int.ediv_mul_cancel (rtS_db t b)
theorem rtQ_pos {t b : Int} (hb : b ≠ 0) : 1 ≤ rtQ t b := by
  have h := rtQ_mul t b
  have g := gcd_pos (t := t) hb
  by_cases z : 1 ≤ rtQ t b
  · exact z
  · exfalso
    have hq : rtQ t b ≤ 0 := by omega
    by_cases hn : b < 0
    · have hs : rtS t b < 0 := by unfold rtS; rw [if_pos hn]; omega
      have := Int.mul_nonneg_of_nonpos_of_nonpos hq (Int.le_of_lt hs)
      omega
    · have hs : 0 < rtS t b := by unfold rtS; rw [if_neg hn]; omega
      have := Int.mul_nonpos_of_nonpos_of_nonneg hq (Int.le_of_lt hs)
      omega
theorem rt_cop {t b : Int} (hb : b ≠ 0) : Nat.gcd (rtP t b).natAbs (rtQ t b).natAbs = 1 := by
  have hp := congrArg Int.natAbs (rtP_mul t b)
  have hq := congrArg Int.natAbs (rtQ_mul t b)
  rw [Int.natAbs_mul, rtS_abs] at hp hq
  have g := gcd_pos (t := t) hb
  have e : Nat.gcd ((rtP t b).natAbs * Nat.gcd b.natAbs t.natAbs) ((rtQ t b).natAbs * Nat.gcd b.natAbs t.natAbs) = Nat.gcd b.natAbs t.natAbs := by
    rw [hp, hq, Nat.gcd_comm]
  rw [Nat.gcd_mul_right] at e
  exact Nat.eq_of_mul_eq_mul_right g (by rw [e, Nat.one_mul])
theorem rt_cross (t b : Int) : rtP t b * b = t * rtQ t b := by
  have h1 := rtP_mul t b
  have h2 := rtQ_mul t b
  calc rtP t b * b = rtP t b * (rtQ t b * rtS t b) := by rw [h2]
    _ = (rtP t b * rtS t b) * rtQ t b := by rw [Int.mul_comm (rtQ t b), Int.mul_assoc]
    _ = t * rtQ t b := by rw [h1]
/-- one fraction in lowest terms -/
theorem low_eq {p q a c : Int} (hq : 1 ≤ q) (hc : 1 ≤ c) (g1 : Nat.gcd p.natAbs q.natAbs = 1) (g2 : Nat.gcd a.natAbs c.natAbs = 1) (e : p * c = a * q) : p = a ∧ q = c := by
  have en := congrArg Int.natAbs e
  rw [Int.natAbs_mul, Int.natAbs_mul] at en
  have d1 : q.natAbs ∣ c.natAbs := Nat.Coprime.dvd_of_dvd_mul_left (k := q.natAbs) (m := p.natAbs) (n := c.natAbs) (by rw [Nat.coprime_iff_gcd_eq_one, Nat.gcd_comm]; exact g1) (by rw [en]; exact Nat.dvd_mul_left _ _)
  have d2 : c.natAbs ∣ q.natAbs := Nat.Coprime.dvd_of_dvd_mul_left (k := c.natAbs) (m := a.natAbs) (n := q.natAbs) (by rw [Nat.coprime_iff_gcd_eq_one, Nat.gcd_comm]; exact g2) (by rw [← en]; exact Nat.dvd_mul_left _ _)
  have e2 := Nat.dvd_antisymm d1 d2
  have e3 : q = c := by omega
  subst e3
  exact ⟨Int.eq_of_mul_eq_mul_right (by omega) e, rfl⟩
theorem rt_le {t b : Int} (hb : b ≠ 0) : (rtP t b).natAbs ≤ t.natAbs ∧ (rtQ t b).natAbs ≤ b.natAbs := by
  have hp := congrArg Int.natAbs (rtP_mul t b)
  have hq := congrArg Int.natAbs (rtQ_mul t b)
  rw [Int.natAbs_mul, rtS_abs] at hp hq
  have g := gcd_pos (t := t) hb
  exact ⟨by rw [← hp]; exact Nat.le_mul_of_pos_right _ g, by rw [← hq]; exact Nat.le_mul_of_pos_right _ g⟩
/-! ### bounds -/
def Bd (n : Nat) (z : Int) : Prop := z.natAbs < 2 ^ n
theorem Bd.mono {m n : Nat} {z : Int} (h : Bd m z) (l : m ≤ n) : Bd n z := Nat.lt_of_lt_of_le h (Nat.pow_le_pow_right (by decide) l)
theorem Bd.mul {m n : Nat} {x y : Int} (h : Bd m x) (k : Bd n y) : Bd (m + n) (x * y) := by
  unfold Bd at *
  rw [Int.natAbs_mul, Nat.pow_add]
  exact Nat.mul_lt_mul'' h k
theorem Bd.add {n : Nat} {x y : Int} (h : Bd n x) (k : Bd n y) : Bd (n + 1) (x + y) := by
  unfold Bd at *
  rw [Nat.pow_succ]
  have := Int.natAbs_add_le x y
  omega
theorem Bd.sub {n : Nat} {x y : Int} (h : Bd n x) (k : Bd n y) : Bd (n + 1) (x - y) := by
  unfold Bd at *
  rw [Nat.pow_succ]
  have := Int.natAbs_sub_le x y
  omega
theorem Bd.le {n : Nat} {x y : Int} (h : Bd n x) (k : y.natAbs ≤ x.natAbs) : Bd n y := Nat.lt_of_le_of_lt k h
theorem Bd.rt {n m : Nat} {t b : Int} (ht : Bd n t) (hb : Bd m b) (h0 : b ≠ 0) : Bd n (rtP t b) ∧ Bd m (rtQ t b) := ⟨ht.le (rt_le h0).1, hb.le (rt_le h0).2⟩
theorem r_mulB {x y : Int} {h : DH} {m n : Nat} (hx : Bd m x) (hy : Bd n y) (h0 : 0 < m := by decide) (h1 : 0 < n := by decide) (hs : m + n ≤ 1000000 := by decide) : gMul (.int x) (.int y) h = .val (.int (x * y)) h := r_mul hx hy h0 h1 hs
end DL

namespace Wk82
open PySem PySem.Spec PyProof.Rows L2 DL
def topS (i : Nat) : Stmt := PySem.Challenge.pw_heirbook_k82_whole_known_levels.main.body.getD i (.Pass ⟨0, 0, 0, 0⟩)
abbrev s_is_whole : Stmt := topS 4
abbrev N_is_whole : List Str := ["thing"]
theorem sc_is_whole : FnScope N_is_whole ["thing"] (defScope s_is_whole) := ⟨rfl, rfl, rfl, by decide +kernel, rfl, by decide +kernel, by decide +kernel⟩
abbrev s_ratio : Stmt := topS 5
abbrev N_ratio : List Str := ["top", "bottom", "share", "rest"]
theorem sc_ratio : FnScope N_ratio ["top", "bottom"] (defScope s_ratio) := ⟨rfl, rfl, rfl, by decide +kernel, rfl, by decide +kernel, by decide +kernel⟩
abbrev s_plus : Stmt := topS 6
abbrev N_plus : List Str := ["one", "other"]
theorem sc_plus : FnScope N_plus ["one", "other"] (defScope s_plus) := ⟨rfl, rfl, rfl, by decide +kernel, rfl, by decide +kernel, by decide +kernel⟩
abbrev s_minus : Stmt := topS 7
abbrev N_minus : List Str := ["one", "other"]
theorem sc_minus : FnScope N_minus ["one", "other"] (defScope s_minus) := ⟨rfl, rfl, rfl, by decide +kernel, rfl, by decide +kernel, by decide +kernel⟩
abbrev s_over : Stmt := topS 8
abbrev N_over : List Str := ["one", "other"]
theorem sc_over : FnScope N_over ["one", "other"] (defScope s_over) := ⟨rfl, rfl, rfl, by decide +kernel, rfl, by decide +kernel, by decide +kernel⟩
abbrev s_less : Stmt := topS 9
abbrev N_less : List Str := ["one", "other"]
theorem sc_less : FnScope N_less ["one", "other"] (defScope s_less) := ⟨rfl, rfl, rfl, by decide +kernel, rfl, by decide +kernel, by decide +kernel⟩
abbrev s_lack : Stmt := topS 11
abbrev N_lack : List Str := ["gift", "high"]
theorem sc_lack : FnScope N_lack ["gift", "high"] (defScope s_lack) := ⟨rfl, rfl, rfl, by decide +kernel, rfl, by decide +kernel, by decide +kernel⟩
abbrev s_level : Stmt := topS 12
abbrev N_level : List Str := ["amount", "gifts", "total", "high", "many", "gift"]
theorem sc_level : FnScope N_level ["amount", "gifts"] (defScope s_level) := ⟨rfl, rfl, rfl, by decide +kernel, rfl, by decide +kernel, by decide +kernel⟩
abbrev s__law_cell_at : Stmt := topS 14
abbrev N__law_cell_at : List Str := ["_law_script", "_law_k"]
theorem sc__law_cell_at : FnScope N__law_cell_at ["_law_script", "_law_k"] (defScope s__law_cell_at) := ⟨rfl, rfl, rfl, by decide +kernel, rfl, by decide +kernel, by decide +kernel⟩
abbrev s__law_divisor : Stmt := topS 15
abbrev N__law_divisor : List Str := ["_law_one", "_law_other"]
theorem sc__law_divisor : FnScope N__law_divisor ["_law_one", "_law_other"] (defScope s__law_divisor) := ⟨rfl, rfl, rfl, by decide +kernel, rfl, by decide +kernel, by decide +kernel⟩
abbrev s__law_lowest : Stmt := topS 16
abbrev N__law_lowest : List Str := ["_law_top", "_law_bottom", "_law_by"]
theorem sc__law_lowest : FnScope N__law_lowest ["_law_top", "_law_bottom"] (defScope s__law_lowest) := ⟨rfl, rfl, rfl, by decide +kernel, rfl, by decide +kernel, by decide +kernel⟩
abbrev s__law_high : Stmt := topS 17
abbrev N__law_high : List Str := ["_law_script", "_law_cell", "_law_top", "_law_other"]
theorem sc__law_high : FnScope N__law_high ["_law_script"] (defScope s__law_high) := ⟨rfl, rfl, rfl, by decide +kernel, rfl, by decide +kernel, by decide +kernel⟩
abbrev s__law_gifts : Stmt := topS 18
abbrev N__law_gifts : List Str := ["_law_cells", "_law_high_here", "_law_gifts_here", "_law_cell", "_law_near"]
theorem sc__law_gifts : FnScope N__law_gifts ["_law_cells", "_law_high_here"] (defScope s__law_gifts) := ⟨rfl, rfl, rfl, by decide +kernel, rfl, by decide +kernel, by decide +kernel⟩
abbrev s__law_dues : Stmt := topS 19
abbrev N__law_dues : List Str := ["_law_gifts_here", "_law_high_here", "_law_gift"]
theorem sc__law_dues : FnScope N__law_dues ["_law_gifts_here", "_law_high_here"] (defScope s__law_dues) := ⟨rfl, rfl, rfl, by decide +kernel, rfl, by decide +kernel, by decide +kernel⟩
abbrev s__law_refilled : Stmt := topS 20
abbrev N__law_refilled : List Str := ["_law_gifts_here", "_law_dues_here", "_law_high_here", "_law_filled", "_law_gift", "_law_due"]
theorem sc__law_refilled : FnScope N__law_refilled ["_law_gifts_here", "_law_dues_here", "_law_high_here"] (defScope s__law_refilled) := ⟨rfl, rfl, rfl, by decide +kernel, rfl, by decide +kernel, by decide +kernel⟩
abbrev s_law : Stmt := topS 21
abbrev N_law : List Str := ["_law_script", "_law_high_here", "_law_gifts_here", "_law_total", "_law_amount", "_law_due", "_law_at", "_law_far", "_law_found", "_law_half", "_law_gift"]
theorem sc_law : FnScope N_law ["_law_script"] (defScope s_law) := ⟨rfl, rfl, rfl, by decide +kernel, rfl, by decide +kernel, by decide +kernel⟩
structure Ad where
  z : Unit := ()
  c_NoNumber : Addr
def isEx (A : Ad) (cls : Value) : Prop := cls = .ref A.c_NoNumber ∨ False
structure AdOk (A : Ad) : Prop where
  z : True
structure Txt (K : PySem.W.Frag) (w : World) (mg : Str → Option Value) (A : Ad) : Prop where
  z : True
  n_abs : mg "abs" = none
  n_bool : mg "bool" = none
  n_int : mg "int" = none
  n_isinstance : mg "isinstance" = none
  n_len : mg "len" = none
  n_list : mg "list" = none
  n_max : mg "max" = none
  n_min : mg "min" = none
  n_sorted : mg "sorted" = none
  n_sum : mg "sum" = none
  n_zip : mg "zip" = none
  c_NoNumber : mg "NoNumber" = some (.ref A.c_NoNumber)
  x_NoNumber : PySem.W.excIn K A.c_NoNumber [.type "ValueError", .type "Exception", .type "BaseException", .type "object"] "ValueError.__new__" = true
  kc_NoNumber : PySem.W.keepIn K (.ref A.c_NoNumber) = true
  sb_NoNumber : PySem.W.subIn K (.ref A.c_NoNumber) (.type "BaseException") = some true
  tc_NoNumber : PySem.W.typeIn K (.ref A.c_NoNumber) = some (.type "type")
section
noncomputable def m_is_whole (A : Ad) : SM := (sRet (mAndV (mCall gIsTy (mCons (mVar 0) (mCons (mC (.raw (.ty "int"))) mNil))) (mNotV (mCall gIsTy (mCons (mVar 0) (mCons (mC (.raw (.ty "bool"))) mNil))))))
noncomputable def f_is_whole (A : Ad) : List D → DH → Out D := fun ds h => (m_is_whole A (startD N_is_whole ds) h).fin
noncomputable def m_ratio (A : Ad) : SM := (sSeq (sIf (mOr (mNot (mB (mCall (f_is_whole A) (mCons (mVar 0) mNil)))) (mOr (mNot (mB (mCall (f_is_whole A) (mCons (mVar 1) mNil)))) (mB (mOp gEq (mVar 1) (mC (.int 0)))))) (sRaise (.ref A.c_NoNumber)) sNil)
    (sSeq (sAsg (mCall gAbs (mCons (mVar 1) mNil)) (gSet 2))
    (sSeq (sAsg (mCall gAbs (mCons (mVar 0) mNil)) (gSet 3))
    (sSeq (sWhile (mB (mOp gGt (mVar 3) (mC (.int 0)))) (sPar 2 3 (mCons (mVar 3) (mCons (mOp gMod (mVar 2) (mVar 3)) mNil))))
    (sSeq (sIf (mB (mOp gLt (mVar 1) (mC (.int 0)))) (sAsg (mOp gSub (mC (.int 0)) (mVar 2)) (gSet 2)) sNil)
    (sRet (mTup (mCons (mOp gFdiv (mVar 0) (mVar 2)) (mCons (mOp gFdiv (mVar 1) (mVar 2)) mNil)))))))))
noncomputable def f_ratio (A : Ad) : List D → DH → Out D := fun ds h => (m_ratio A (startD N_ratio ds) h).fin
noncomputable def m_plus (A : Ad) : SM := (sRet (mCall (f_ratio A) (mCons (mOp gAdd (mOp gMul (mOp gIx (mVar 0) (mC (.int 0))) (mOp gIx (mVar 1) (mC (.int 1)))) (mOp gMul (mOp gIx (mVar 1) (mC (.int 0))) (mOp gIx (mVar 0) (mC (.int 1))))) (mCons (mOp gMul (mOp gIx (mVar 0) (mC (.int 1))) (mOp gIx (mVar 1) (mC (.int 1)))) mNil))))
noncomputable def f_plus (A : Ad) : List D → DH → Out D := fun ds h => (m_plus A (startD N_plus ds) h).fin
noncomputable def m_minus (A : Ad) : SM := (sRet (mCall (f_ratio A) (mCons (mOp gSub (mOp gMul (mOp gIx (mVar 0) (mC (.int 0))) (mOp gIx (mVar 1) (mC (.int 1)))) (mOp gMul (mOp gIx (mVar 1) (mC (.int 0))) (mOp gIx (mVar 0) (mC (.int 1))))) (mCons (mOp gMul (mOp gIx (mVar 0) (mC (.int 1))) (mOp gIx (mVar 1) (mC (.int 1)))) mNil))))
noncomputable def f_minus (A : Ad) : List D → DH → Out D := fun ds h => (m_minus A (startD N_minus ds) h).fin
noncomputable def m_over (A : Ad) : SM := (sRet (mCall (f_ratio A) (mCons (mOp gMul (mOp gIx (mVar 0) (mC (.int 0))) (mOp gIx (mVar 1) (mC (.int 1)))) (mCons (mOp gMul (mOp gIx (mVar 0) (mC (.int 1))) (mOp gIx (mVar 1) (mC (.int 0)))) mNil))))
noncomputable def f_over (A : Ad) : List D → DH → Out D := fun ds h => (m_over A (startD N_over ds) h).fin
noncomputable def m_less (A : Ad) : SM := (sRet (mOp gLt (mOp gMul (mOp gIx (mVar 0) (mC (.int 0))) (mOp gIx (mVar 1) (mC (.int 1)))) (mOp gMul (mOp gIx (mVar 1) (mC (.int 0))) (mOp gIx (mVar 0) (mC (.int 1))))))
noncomputable def f_less (A : Ad) : List D → DH → Out D := fun ds h => (m_less A (startD N_less ds) h).fin
noncomputable def m_lack (A : Ad) : SM := (sSeq (sIf (mB (mCall (f_less A) (mCons (mTup (mCons (mVar 0) (mCons (mC (.int 1)) mNil))) (mCons (mVar 1) mNil)))) (sRet (mCall (f_minus A) (mCons (mVar 1) (mCons (mTup (mCons (mVar 0) (mCons (mC (.int 1)) mNil))) mNil)))) sNil)
    (sRet (mTup (mCons (mC (.int 0)) (mCons (mC (.int 1)) mNil)))))
noncomputable def f_lack (A : Ad) : List D → DH → Out D := fun ds h => (m_lack A (startD N_lack ds) h).fin
noncomputable def m_level (A : Ad) : SM := (sSeq (sAsg (mVar 0) (gSet 2))
    (sSeq (sAsg (mVar 0) (gSet 3))
    (sSeq (sAsg (mC (.int 0)) (gSet 4))
    (sSeq (sFor (iAny (mCall gSorted (mCons (mVar 1) mNil))) (gSet 5) (sIf (mOr (mB (mOp gEq (mVar 4) (mC (.int 0)))) (mB (mCall (f_less A) (mCons (mTup (mCons (mVar 5) (mCons (mC (.int 1)) mNil))) (mCons (mVar 3) mNil))))) (sSeq (sAsg (mCall (f_plus A) (mCons (mVar 2) (mCons (mTup (mCons (mVar 5) (mCons (mC (.int 1)) mNil))) mNil))) (gSet 2))
    (sSeq (sAsg (mOp gAdd (mVar 4) (mC (.int 1))) (gSet 4))
    (sAsg (mCall (f_over A) (mCons (mVar 2) (mCons (mTup (mCons (mVar 4) (mCons (mC (.int 1)) mNil))) mNil))) (gSet 3)))) sNil))
    (sRet (mTup (mCons (mVar 3) (mCons (mLc (iAny (mVar 1)) (.nm 5) (mC true) (mCall (f_lack A) (mCons (mVar 5) (mCons (mVar 3) mNil))) [5]) mNil))))))))
noncomputable def f_level (A : Ad) : List D → DH → Out D := fun ds h => (m_level A (startD N_level ds) h).fin
noncomputable def m__law_cell_at (A : Ad) : SM := (sSeq (sIf (mB (mOp gLt (mVar 1) (mCall gLen (mCons (mVar 0) mNil)))) (sRet (mOp gIx (mVar 0) (mVar 1))) sNil)
    (sRet (mC (.int 0))))
noncomputable def f__law_cell_at (A : Ad) : List D → DH → Out D := fun ds h => (m__law_cell_at A (startD N__law_cell_at ds) h).fin
noncomputable def m__law_divisor (A : Ad) : SM := (sSeq (sWhile (mB (mOp gGt (mVar 1) (mC (.int 0)))) (sPar 0 1 (mCons (mVar 1) (mCons (mOp gMod (mVar 0) (mVar 1)) mNil))))
    (sRet (mVar 0)))
noncomputable def f__law_divisor (A : Ad) : List D → DH → Out D := fun ds h => (m__law_divisor A (startD N__law_divisor ds) h).fin
noncomputable def m__law_lowest (A : Ad) : SM := (sSeq (sAsg (mCall (f__law_divisor A) (mCons (mVar 0) (mCons (mVar 1) mNil))) (gSet 2))
    (sRet (mTup (mCons (mOp gFdiv (mVar 0) (mVar 2)) (mCons (mOp gFdiv (mVar 1) (mVar 2)) mNil)))))
noncomputable def f__law_lowest (A : Ad) : List D → DH → Out D := fun ds h => (m__law_lowest A (startD N__law_lowest ds) h).fin
noncomputable def m__law_high (A : Ad) : SM := (sSeq (sAsg (mCall (f__law_cell_at A) (mCons (mVar 0) (mCons (mC (.int 0)) mNil))) (gSet 1))
    (sSeq (sAsg (mOp gMod (mOp gFdiv (mVar 1) (mC (.int 3))) (mOp gIx (mLst (mCons (mC (.int 21)) (mCons (mOp gPow (mC (.int 10)) (mC (.int 6))) (mCons (mOp gPow (mC (.int 10)) (mC (.int 18))) mNil)))) (mOp gMod (mVar 1) (mC (.int 3))))) (gSet 2))
    (sSeq (sAsg (mCall (f__law_cell_at A) (mCons (mVar 0) (mCons (mC (.int 1)) mNil))) (gSet 3))
    (sRet (mCall (f__law_lowest A) (mCons (mVar 2) (mCons (mOp gAdd (mC (.int 1)) (mOp gMod (mOp gFdiv (mVar 3) (mC (.int 3))) (mOp gIx (mLst (mCons (mC (.int 1)) (mCons (mC (.int 12)) (mCons (mOp gPow (mC (.int 10)) (mC (.int 9))) mNil)))) (mOp gMod (mVar 3) (mC (.int 3)))))) mNil)))))))
noncomputable def f__law_high (A : Ad) : List D → DH → Out D := fun ds h => (m__law_high A (startD N__law_high ds) h).fin
noncomputable def m__law_gifts (A : Ad) : SM := (sSeq (sAsg (mLst mNil) (gSet 2))
    (sSeq (sFor (iAny (mVar 0)) (gSet 3) (sSeq (sAsg (mCall gMax2 (mCons (mC (.int 0)) (mCons (mOp gAdd (mOp gSub (mOp gFdiv (mOp gIx (mVar 1) (mC (.int 0))) (mOp gIx (mVar 1) (mC (.int 1)))) (mC (.int 1))) (mOp gMod (mOp gFdiv (mVar 3) (mC (.int 4))) (mC (.int 3)))) mNil))) (gSet 4))
    (sExpr (mBM gAppend (mVar 2) (mCons (mOp gIx (mLst (mCons (mOp gMod (mOp gFdiv (mVar 3) (mC (.int 4))) (mC (.int 5))) (mCons (mOp gMod (mOp gFdiv (mVar 3) (mC (.int 4))) (mC (.int 1000))) (mCons (mOp gMod (mOp gFdiv (mVar 3) (mC (.int 4))) (mOp gPow (mC (.int 10)) (mC (.int 18)))) (mCons (mVar 4) mNil))))) (mOp gMod (mVar 3) (mC (.int 4)))) mNil)))))
    (sRet (mVar 2))))
noncomputable def f__law_gifts (A : Ad) : List D → DH → Out D := fun ds h => (m__law_gifts A (startD N__law_gifts ds) h).fin
noncomputable def m__law_dues (A : Ad) : SM := (sRet (mLc (iAny (mVar 0)) (.nm 2) (mC true) (mCall (f__law_lowest A) (mCons (mCall gMax2 (mCons (mC (.int 0)) (mCons (mOp gSub (mOp gIx (mVar 1) (mC (.int 0))) (mOp gMul (mVar 2) (mOp gIx (mVar 1) (mC (.int 1))))) mNil))) (mCons (mOp gIx (mVar 1) (mC (.int 1))) mNil))) [2]))
noncomputable def f__law_dues (A : Ad) : List D → DH → Out D := fun ds h => (m__law_dues A (startD N__law_dues ds) h).fin
noncomputable def m__law_refilled (A : Ad) : SM := (sSeq (sAsg (mLst mNil) (gSet 3))
    (sSeq (sFor (iZipD (mCons (mVar 0) (mCons (mVar 1) mNil))) (gTupD 2 (gsCons (gSet 4) (gsCons (gSet 5) gsNil))) (sSeq (sIf (mB (mOp gNe (mOp gIx (mVar 5) (mC (.int 1))) (mC (.int 1)))) (sRet (mC (.bl true))) sNil)
    (sExpr (mBM gAppend (mVar 3) (mCons (mOp gAdd (mVar 4) (mOp gIx (mVar 5) (mC (.int 0)))) mNil)))))
    (sRet (mOp gEq (mCall (f_level A) (mCons (mTup (mCons (mC (.int 0)) (mCons (mC (.int 1)) mNil))) (mCons (mVar 3) mNil))) (mTup (mCons (mVar 2) (mCons (mOp gRep (mLst (mCons (mTup (mCons (mC (.int 0)) (mCons (mC (.int 1)) mNil))) mNil)) (mCall gLen (mCons (mVar 0) mNil))) mNil)))))))
noncomputable def f__law_refilled (A : Ad) : List D → DH → Out D := fun ds h => (m__law_refilled A (startD N__law_refilled ds) h).fin
noncomputable def m_law (A : Ad) : SM := (sSeq (sAsg (mCall (f__law_high A) (mCons (mVar 0) mNil)) (gSet 1))
    (sSeq (sAsg (mCall (f__law_gifts A) (mCons (mOp gAdd (mLst (mCons (mCall (f__law_cell_at A) (mCons (mVar 0) (mCons (mC (.int 3)) mNil))) mNil)) (mSl (mVar 0) (mPS (mC (.int 4))) (mPS (mC (.int 62))))) (mCons (mVar 1) mNil))) (gSet 2))
    (sSeq (sIf (mB (mOp gGe (mOp gMul (mCall gMinL (mCons (mVar 2) mNil)) (mOp gIx (mVar 1) (mC (.int 1)))) (mOp gIx (mVar 1) (mC (.int 0))))) (sAsg (mTup (mCons (mCall gMinL (mCons (mVar 2) mNil)) (mCons (mC (.int 1)) mNil))) (gSet 1)) sNil)
    (sSeq (sAsg (mCall gSumL (mCons (mLc (iAny (mVar 2)) (.nm 10) (mC true) (mCall gMax2 (mCons (mC (.int 0)) (mCons (mOp gSub (mOp gIx (mVar 1) (mC (.int 0))) (mOp gMul (mVar 10) (mOp gIx (mVar 1) (mC (.int 1))))) mNil))) [10]) mNil)) (gSet 3))
    (sSeq (sAsg (mCall (f__law_lowest A) (mCons (mVar 3) (mCons (mOp gIx (mVar 1) (mC (.int 1))) mNil))) (gSet 4))
    (sSeq (sAsg (mTup (mCons (mVar 1) (mCons (mCall (f__law_dues A) (mCons (mVar 2) (mCons (mVar 1) mNil))) mNil))) (gSet 5))
    (sSeq (sIf (mB (mOp gNe (mCall (f_level A) (mCons (mVar 4) (mCons (mCall gListOf (mCons (mVar 2) mNil)) mNil))) (mVar 5))) (sRet (mC (.bl false))) sNil)
    (sSeq (sAsg (mOp gMod (mCall (f__law_cell_at A) (mCons (mVar 0) (mCons (mC (.int 2)) mNil))) (mOp gAdd (mCall gLen (mCons (mVar 2) mNil)) (mC (.int 1)))) (gSet 6))
    (sSeq (sAsg (mOp gAdd (mOp gSub (mC (.int 0)) (mOp gFdiv (mOp gSub (mC (.int 0)) (mOp gIx (mVar 1) (mC (.int 0)))) (mOp gIx (mVar 1) (mC (.int 1))))) (mOp gIx (mLst (mCons (mC (.int 0)) (mCons (mOp gMod (mOp gFdiv (mCall (f__law_cell_at A) (mCons (mVar 0) (mCons (mC (.int 2)) mNil))) (mC (.int 64))) (mOp gPow (mC (.int 10)) (mC (.int 18)))) mNil))) (mOp gMod (mCall (f__law_cell_at A) (mCons (mVar 0) (mCons (mC (.int 2)) mNil))) (mC (.int 2))))) (gSet 7))
    (sSeq (sAsg (mCall (f_level A) (mCons (mVar 4) (mCons (mOp gAdd (mOp gAdd (mSl (mVar 2) mPN (mPS (mVar 6))) (mLst (mCons (mVar 7) mNil))) (mSl (mVar 2) (mPS (mVar 6)) mPN)) mNil))) (gSet 8))
    (sSeq (sIf (mB (mOp gNe (mVar 8) (mTup (mCons (mVar 1) (mCons (mOp gAdd (mOp gAdd (mSl (mOp gIx (mVar 5) (mC (.int 1))) mPN (mPS (mVar 6))) (mLst (mCons (mTup (mCons (mC (.int 0)) (mCons (mC (.int 1)) mNil))) mNil))) (mSl (mOp gIx (mVar 5) (mC (.int 1))) (mPS (mVar 6)) mPN)) mNil))))) (sRet (mC (.bl false))) sNil)
    (sSeq (sAsg (mCall (f_level A) (mCons (mCall (f__law_lowest A) (mCons (mVar 3) (mCons (mOp gMul (mC (.int 2)) (mOp gIx (mVar 1) (mC (.int 1)))) mNil))) (mCons (mCall gListOf (mCons (mVar 2) mNil)) mNil))) (gSet 9))
    (sSeq (sIf (mB (mOp gGt (mOp gMul (mOp gIx (mOp gIx (mVar 9) (mC (.int 0))) (mC (.int 0))) (mOp gIx (mVar 1) (mC (.int 1)))) (mOp gMul (mOp gIx (mVar 1) (mC (.int 0))) (mOp gIx (mOp gIx (mVar 9) (mC (.int 0))) (mC (.int 1)))))) (sRet (mC (.bl false))) sNil)
    (sRet (mCall (f__law_refilled A) (mCons (mVar 2) (mCons (mOp gIx (mVar 5) (mC (.int 1))) (mCons (mVar 1) mNil))))))))))))))))))
noncomputable def f_law (A : Ad) : List D → DH → Out D := fun ds h => (m_law A (startD N_law ds) h).fin
end
section
variable {P : Program} {w : World} {K : PySem.W.Frag} {mg : Str → Option Value} {base : Heap} {A : Ad}
set_option maxHeartbeats 4000000 in
theorem okr_is_whole {f : Addr} {fd : FuncData} (T : Txt K w mg A) (Fu : Fun K "is_whole" "is_whole" s_is_whole f fd)  : FnOk P w K mg base (L2.CX P w) 1 f fd ["thing"] (spD K 1 (f_is_whole A)) := by
  have nd := sc_is_whole.nd
  exact fnok_of (m := m_is_whole A) Fu sc_is_whole (fun cdv A0 outer s H E hr tk po => by
    have hu := hr.units
    exact (dss_one (ds_ret (de_and (de_callB call_isi cc_isTy (by rfl) T.n_isinstance (by decide +kernel) (da_cons (de_var 0) (da_cons (de_bltn (d := .raw (.ty "int")) (v := .ty "int") (by rfl) T.n_int (by decide +kernel) rfl (fun _ _ => .raw)) da_nil))) (de_one (de_not (de_callB call_isi cc_isTy (by rfl) T.n_isinstance (by decide +kernel) (da_cons (de_var 0) (da_cons (de_bltn (d := .raw (.ty "bool")) (v := .ty "bool") (by rfl) T.n_bool (by decide +kernel) rfl (fun _ _ => .raw)) da_nil))))))))) (fun ds h hl => .refl)
theorem ok_is_whole {f : Addr} {fd : FuncData} (T : Txt K w mg A) (Fu : Fun K "is_whole" "is_whole" s_is_whole f fd) (hm : mg "is_whole" = some (.ref f)) (hb : Binds K fd ["thing"] [])  : FnD P w K mg base 1 "is_whole" ["thing"] (f_is_whole A) :=
  fnd_of hm hb Fu.kp (okr_is_whole T Fu )
set_option maxHeartbeats 4000000 in
theorem okr_ratio {f : Addr} {fd : FuncData} (T : Txt K w mg A) (Fu : Fun K "ratio" "ratio" s_ratio f fd) (F_is_whole : FnD P w K mg base 1 "is_whole" ["thing"] (f_is_whole A)) : FnOk P w K mg base (L2.CX P w) 2 f fd ["top", "bottom"] (spD K 2 (f_ratio A)) := by
  have nd := sc_ratio.nd
  exact fnok_of (m := m_ratio A) Fu sc_ratio (fun cdv A0 outer s H E hr tk po => by
    have hu := hr.units
    exact (dss_cons (ds_if (dt_w (dw_or (dt_not (dt_val (de_call (F_is_whole.mono (by decide)) hr tk (by rfl) (da_cons (de_var 0) da_nil) (ln_cons ln_nil)))) (dw_or (dt_not (dt_val (de_call (F_is_whole.mono (by decide)) hr tk (by rfl) (da_cons (de_var 1) da_nil) (ln_cons ln_nil)))) (dw_or1 (dt_cmp (or_eq hu) oc_eq (de_var 1) de_int (nomark _)))))) (dss_one (ds_raise (ps_raise rfl tk (pmk_own PySem.F.excBase_ValueError T.x_NoNumber T.c_NoNumber T.kc_NoNumber (raises_own T.sb_NoNumber T.tc_NoNumber) rfl)))) dss_nil)
    (dss_cons (ds_set 2 nd (de_callB call_abs cc_abs (by rfl) T.n_abs (by decide +kernel) (da_cons (de_var 1) da_nil)))
    (dss_cons (ds_set 3 nd (de_callB call_abs cc_abs (by rfl) T.n_abs (by decide +kernel) (da_cons (de_var 0) da_nil)))
    (dss_cons (ds_while po (dt_cmp op_gt oc_gt (de_var 3) de_int (nomark _)) (dss_one (ds_par (ps_par (i := 2) (j := 3) (by rfl) nd rfl rfl (by decide) rfl rfl (da_cons (de_var 3) (da_cons (de_op op_mod oc_mod (de_var 2) (de_var 3)) da_nil)) (by rfl)))))
    (dss_cons (ds_if (dt_cmp or_lt oc_lt (de_var 1) de_int (nomark _)) (dss_one (ds_set 2 nd (de_op op_sub oc_sub de_int (de_var 2)))) dss_nil)
    (dss_one (ds_ret (de_tup (da_cons (de_op op_fdivG oc_fdiv (de_var 0) (de_var 2)) (da_cons (de_op op_fdivG oc_fdiv (de_var 1) (de_var 2)) da_nil))))))))))) (fun ds h hl => .refl)
theorem ok_ratio {f : Addr} {fd : FuncData} (T : Txt K w mg A) (Fu : Fun K "ratio" "ratio" s_ratio f fd) (hm : mg "ratio" = some (.ref f)) (hb : Binds K fd ["top", "bottom"] []) (F_is_whole : FnD P w K mg base 1 "is_whole" ["thing"] (f_is_whole A)) : FnD P w K mg base 2 "ratio" ["top", "bottom"] (f_ratio A) :=
  fnd_of hm hb Fu.kp (okr_ratio T Fu F_is_whole)
set_option maxHeartbeats 4000000 in
theorem okr_plus {f : Addr} {fd : FuncData} (T : Txt K w mg A) (Fu : Fun K "plus" "plus" s_plus f fd) (F_ratio : FnD P w K mg base 2 "ratio" ["top", "bottom"] (f_ratio A)) : FnOk P w K mg base (L2.CX P w) 3 f fd ["one", "other"] (spD K 2 (f_plus A)) := by
  have nd := sc_plus.nd
  exact fnok_of (m := m_plus A) Fu sc_plus (fun cdv A0 outer s H E hr tk po => by
    have hu := hr.units
    exact (dss_one (ds_ret (de_call (F_ratio.mono (by decide)) hr tk (by rfl) (da_cons (de_op or_add oc_add (de_op op_mulU oc_mul (de_ix ix_seq oc_ix (de_var 0) de_int (fun _ _ => rfl)) (de_ix ix_seq oc_ix (de_var 1) de_int (fun _ _ => rfl))) (de_op op_mulU oc_mul (de_ix ix_seq oc_ix (de_var 1) de_int (fun _ _ => rfl)) (de_ix ix_seq oc_ix (de_var 0) de_int (fun _ _ => rfl)))) (da_cons (de_op op_mulU oc_mul (de_ix ix_seq oc_ix (de_var 0) de_int (fun _ _ => rfl)) (de_ix ix_seq oc_ix (de_var 1) de_int (fun _ _ => rfl))) da_nil)) (ln_cons (ln_cons ln_nil)))))) (fun ds h hl => .refl)
theorem ok_plus {f : Addr} {fd : FuncData} (T : Txt K w mg A) (Fu : Fun K "plus" "plus" s_plus f fd) (hm : mg "plus" = some (.ref f)) (hb : Binds K fd ["one", "other"] []) (F_ratio : FnD P w K mg base 2 "ratio" ["top", "bottom"] (f_ratio A)) : FnD P w K mg base 3 "plus" ["one", "other"] (f_plus A) :=
  fnd_of hm hb Fu.kp (okr_plus T Fu F_ratio)
set_option maxHeartbeats 4000000 in
theorem okr_minus {f : Addr} {fd : FuncData} (T : Txt K w mg A) (Fu : Fun K "minus" "minus" s_minus f fd) (F_ratio : FnD P w K mg base 2 "ratio" ["top", "bottom"] (f_ratio A)) : FnOk P w K mg base (L2.CX P w) 3 f fd ["one", "other"] (spD K 2 (f_minus A)) := by
  have nd := sc_minus.nd
  exact fnok_of (m := m_minus A) Fu sc_minus (fun cdv A0 outer s H E hr tk po => by
    have hu := hr.units
    exact (dss_one (ds_ret (de_call (F_ratio.mono (by decide)) hr tk (by rfl) (da_cons (de_op op_sub oc_sub (de_op op_mulU oc_mul (de_ix ix_seq oc_ix (de_var 0) de_int (fun _ _ => rfl)) (de_ix ix_seq oc_ix (de_var 1) de_int (fun _ _ => rfl))) (de_op op_mulU oc_mul (de_ix ix_seq oc_ix (de_var 1) de_int (fun _ _ => rfl)) (de_ix ix_seq oc_ix (de_var 0) de_int (fun _ _ => rfl)))) (da_cons (de_op op_mulU oc_mul (de_ix ix_seq oc_ix (de_var 0) de_int (fun _ _ => rfl)) (de_ix ix_seq oc_ix (de_var 1) de_int (fun _ _ => rfl))) da_nil)) (ln_cons (ln_cons ln_nil)))))) (fun ds h hl => .refl)
theorem ok_minus {f : Addr} {fd : FuncData} (T : Txt K w mg A) (Fu : Fun K "minus" "minus" s_minus f fd) (hm : mg "minus" = some (.ref f)) (hb : Binds K fd ["one", "other"] []) (F_ratio : FnD P w K mg base 2 "ratio" ["top", "bottom"] (f_ratio A)) : FnD P w K mg base 3 "minus" ["one", "other"] (f_minus A) :=
  fnd_of hm hb Fu.kp (okr_minus T Fu F_ratio)
set_option maxHeartbeats 4000000 in
theorem okr_over {f : Addr} {fd : FuncData} (T : Txt K w mg A) (Fu : Fun K "over" "over" s_over f fd) (F_ratio : FnD P w K mg base 2 "ratio" ["top", "bottom"] (f_ratio A)) : FnOk P w K mg base (L2.CX P w) 3 f fd ["one", "other"] (spD K 2 (f_over A)) := by
  have nd := sc_over.nd
  exact fnok_of (m := m_over A) Fu sc_over (fun cdv A0 outer s H E hr tk po => by
    have hu := hr.units
    exact (dss_one (ds_ret (de_call (F_ratio.mono (by decide)) hr tk (by rfl) (da_cons (de_op op_mulU oc_mul (de_ix ix_seq oc_ix (de_var 0) de_int (fun _ _ => rfl)) (de_ix ix_seq oc_ix (de_var 1) de_int (fun _ _ => rfl))) (da_cons (de_op op_mulU oc_mul (de_ix ix_seq oc_ix (de_var 0) de_int (fun _ _ => rfl)) (de_ix ix_seq oc_ix (de_var 1) de_int (fun _ _ => rfl))) da_nil)) (ln_cons (ln_cons ln_nil)))))) (fun ds h hl => .refl)
theorem ok_over {f : Addr} {fd : FuncData} (T : Txt K w mg A) (Fu : Fun K "over" "over" s_over f fd) (hm : mg "over" = some (.ref f)) (hb : Binds K fd ["one", "other"] []) (F_ratio : FnD P w K mg base 2 "ratio" ["top", "bottom"] (f_ratio A)) : FnD P w K mg base 3 "over" ["one", "other"] (f_over A) :=
  fnd_of hm hb Fu.kp (okr_over T Fu F_ratio)
set_option maxHeartbeats 4000000 in
theorem okr_less {f : Addr} {fd : FuncData} (T : Txt K w mg A) (Fu : Fun K "less" "less" s_less f fd)  : FnOk P w K mg base (L2.CX P w) 1 f fd ["one", "other"] (spD K 2 (f_less A)) := by
  have nd := sc_less.nd
  exact fnok_of (m := m_less A) Fu sc_less (fun cdv A0 outer s H E hr tk po => by
    have hu := hr.units
    exact (dss_one (ds_ret (de_cmp or_lt oc_lt (de_op op_mulU oc_mul (de_ix ix_seq oc_ix (de_var 0) de_int (fun _ _ => rfl)) (de_ix ix_seq oc_ix (de_var 1) de_int (fun _ _ => rfl))) (de_op op_mulU oc_mul (de_ix ix_seq oc_ix (de_var 1) de_int (fun _ _ => rfl)) (de_ix ix_seq oc_ix (de_var 0) de_int (fun _ _ => rfl))) (nomark _))))) (fun ds h hl => .refl)
theorem ok_less {f : Addr} {fd : FuncData} (T : Txt K w mg A) (Fu : Fun K "less" "less" s_less f fd) (hm : mg "less" = some (.ref f)) (hb : Binds K fd ["one", "other"] [])  : FnD P w K mg base 1 "less" ["one", "other"] (f_less A) :=
  fnd_of hm hb Fu.kp (okr_less T Fu )
set_option maxHeartbeats 4000000 in
theorem okr_lack {f : Addr} {fd : FuncData} (T : Txt K w mg A) (Fu : Fun K "lack" "lack" s_lack f fd) (F_less : FnD P w K mg base 1 "less" ["one", "other"] (f_less A)) (F_minus : FnD P w K mg base 3 "minus" ["one", "other"] (f_minus A)) : FnOk P w K mg base (L2.CX P w) 4 f fd ["gift", "high"] (spD K 2 (f_lack A)) := by
  have nd := sc_lack.nd
  exact fnok_of (m := m_lack A) Fu sc_lack (fun cdv A0 outer s H E hr tk po => by
    have hu := hr.units
    exact (dss_cons (ds_if (dt_val (de_call (F_less.mono (by decide)) hr tk (by rfl) (da_cons (de_tup (da_cons (de_var 0) (da_cons de_int da_nil))) (da_cons (de_var 1) da_nil)) (ln_cons (ln_cons ln_nil)))) (dss_one (ds_ret (de_call (F_minus.mono (by decide)) hr tk (by rfl) (da_cons (de_var 1) (da_cons (de_tup (da_cons (de_var 0) (da_cons de_int da_nil))) da_nil)) (ln_cons (ln_cons ln_nil))))) dss_nil)
    (dss_one (ds_ret (de_tup (da_cons de_int (da_cons de_int da_nil))))))) (fun ds h hl => .refl)
theorem ok_lack {f : Addr} {fd : FuncData} (T : Txt K w mg A) (Fu : Fun K "lack" "lack" s_lack f fd) (hm : mg "lack" = some (.ref f)) (hb : Binds K fd ["gift", "high"] []) (F_less : FnD P w K mg base 1 "less" ["one", "other"] (f_less A)) (F_minus : FnD P w K mg base 3 "minus" ["one", "other"] (f_minus A)) : FnD P w K mg base 4 "lack" ["gift", "high"] (f_lack A) :=
  fnd_of hm hb Fu.kp (okr_lack T Fu F_less F_minus)
set_option maxHeartbeats 4000000 in
theorem okr_level {f : Addr} {fd : FuncData} (T : Txt K w mg A) (Fu : Fun K "level" "level" s_level f fd) (F_lack : FnD P w K mg base 4 "lack" ["gift", "high"] (f_lack A)) (F_less : FnD P w K mg base 1 "less" ["one", "other"] (f_less A)) (F_over : FnD P w K mg base 3 "over" ["one", "other"] (f_over A)) (F_plus : FnD P w K mg base 3 "plus" ["one", "other"] (f_plus A)) : FnOk P w K mg base (L2.CX P w) 5 f fd ["amount", "gifts"] (spD K 2 (f_level A)) := by
  have nd := sc_level.nd
  exact fnok_of (m := m_level A) Fu sc_level (fun cdv A0 outer s H E hr tk po => by
    have hu := hr.units
    exact (dss_cons (ds_set 2 nd (de_var 0))
    (dss_cons (ds_set 3 nd (de_var 0))
    (dss_cons (ds_set 4 nd de_int)
    (dss_cons (ds_for po rfl (di_any (de_callB call_sortU cc_sortU (by rfl) T.n_sorted (by decide +kernel) (da_cons (de_var 1) da_nil))) (dg_name 5 nd) (dss_one (ds_if (dt_w (dw_or (dt_cmp (or_eq hu) oc_eq (de_var 4) de_int (nomark _)) (dw_or1 (dt_val (de_call (F_less.mono (by decide)) hr tk (by rfl) (da_cons (de_tup (da_cons (de_var 5) (da_cons de_int da_nil))) (da_cons (de_var 3) da_nil)) (ln_cons (ln_cons ln_nil))))))) (dss_cons (ds_set 2 nd (de_call (F_plus.mono (by decide)) hr tk (by rfl) (da_cons (de_var 2) (da_cons (de_tup (da_cons (de_var 5) (da_cons de_int da_nil))) da_nil)) (ln_cons (ln_cons ln_nil))))
    (dss_cons (ds_set 4 nd (de_op or_add oc_add (de_var 4) de_int))
    (dss_one (ds_set 3 nd (de_call (F_over.mono (by decide)) hr tk (by rfl) (da_cons (de_var 2) (da_cons (de_tup (da_cons (de_var 4) (da_cons de_int da_nil))) da_nil)) (ln_cons (ln_cons ln_nil))))))) dss_nil)))
    (dss_one (ds_ret (de_tup (da_cons (de_var 3) (da_cons (de_lc (own := [("gift", 5)]) (c := (.nm 5)) rfl nd (di_any (de_var 1)) (blkOk_by (N := N_level) (sc := defScope s_level) (by decide +kernel)) (dc_name 5 nd) (fun _ _ _ _ _ => dts_nil) (fun _ _ _ _ _ => (de_call (F_lack.mono (by decide)) hr takes0 (by rfl) (da_cons (de_var 5) (da_cons (de_var 3) da_nil)) (ln_cons (ln_cons ln_nil)))) (by decide)) da_nil)))))))))) (fun ds h hl => .refl)
theorem ok_level {f : Addr} {fd : FuncData} (T : Txt K w mg A) (Fu : Fun K "level" "level" s_level f fd) (hm : mg "level" = some (.ref f)) (hb : Binds K fd ["amount", "gifts"] []) (F_lack : FnD P w K mg base 4 "lack" ["gift", "high"] (f_lack A)) (F_less : FnD P w K mg base 1 "less" ["one", "other"] (f_less A)) (F_over : FnD P w K mg base 3 "over" ["one", "other"] (f_over A)) (F_plus : FnD P w K mg base 3 "plus" ["one", "other"] (f_plus A)) : FnD P w K mg base 5 "level" ["amount", "gifts"] (f_level A) :=
  fnd_of hm hb Fu.kp (okr_level T Fu F_lack F_less F_over F_plus)
set_option maxHeartbeats 4000000 in
theorem okr__law_cell_at {f : Addr} {fd : FuncData} (T : Txt K w mg A) (Fu : Fun K "_law_cell_at" "_law_cell_at" s__law_cell_at f fd)  : FnOk P w K mg base (L2.CX P w) 1 f fd ["_law_script", "_law_k"] (spD K 2 (f__law_cell_at A)) := by
  have nd := sc__law_cell_at.nd
  exact fnok_of (m := m__law_cell_at A) Fu sc__law_cell_at (fun cdv A0 outer s H E hr tk po => by
    have hu := hr.units
    exact (dss_cons (ds_if (dt_cmp or_lt oc_lt (de_var 1) (de_callB call_len cc_len (by rfl) T.n_len (by decide +kernel) (da_cons (de_var 0) da_nil)) (nomark _)) (dss_one (ds_ret (de_ix ix_seq oc_ix (de_var 0) (de_var 1) (fun _ _ => rfl)))) dss_nil)
    (dss_one (ds_ret de_int)))) (fun ds h hl => .refl)
theorem ok__law_cell_at {f : Addr} {fd : FuncData} (T : Txt K w mg A) (Fu : Fun K "_law_cell_at" "_law_cell_at" s__law_cell_at f fd) (hm : mg "_law_cell_at" = some (.ref f)) (hb : Binds K fd ["_law_script", "_law_k"] [])  : FnD P w K mg base 1 "_law_cell_at" ["_law_script", "_law_k"] (f__law_cell_at A) :=
  fnd_of hm hb Fu.kp (okr__law_cell_at T Fu )
set_option maxHeartbeats 4000000 in
theorem okr__law_divisor {f : Addr} {fd : FuncData} (T : Txt K w mg A) (Fu : Fun K "_law_divisor" "_law_divisor" s__law_divisor f fd)  : FnOk P w K mg base (L2.CX P w) 1 f fd ["_law_one", "_law_other"] (spD K 2 (f__law_divisor A)) := by
  have nd := sc__law_divisor.nd
  exact fnok_of (m := m__law_divisor A) Fu sc__law_divisor (fun cdv A0 outer s H E hr tk po => by
    have hu := hr.units
    exact (dss_cons (ds_while po (dt_cmp op_gt oc_gt (de_var 1) de_int (nomark _)) (dss_one (ds_par (ps_par (i := 0) (j := 1) (by rfl) nd rfl rfl (by decide) rfl rfl (da_cons (de_var 1) (da_cons (de_op op_mod oc_mod (de_var 0) (de_var 1)) da_nil)) (by rfl)))))
    (dss_one (ds_ret (de_var 0))))) (fun ds h hl => .refl)
theorem ok__law_divisor {f : Addr} {fd : FuncData} (T : Txt K w mg A) (Fu : Fun K "_law_divisor" "_law_divisor" s__law_divisor f fd) (hm : mg "_law_divisor" = some (.ref f)) (hb : Binds K fd ["_law_one", "_law_other"] [])  : FnD P w K mg base 1 "_law_divisor" ["_law_one", "_law_other"] (f__law_divisor A) :=
  fnd_of hm hb Fu.kp (okr__law_divisor T Fu )
set_option maxHeartbeats 4000000 in
theorem okr__law_lowest {f : Addr} {fd : FuncData} (T : Txt K w mg A) (Fu : Fun K "_law_lowest" "_law_lowest" s__law_lowest f fd) (F__law_divisor : FnD P w K mg base 1 "_law_divisor" ["_law_one", "_law_other"] (f__law_divisor A)) : FnOk P w K mg base (L2.CX P w) 2 f fd ["_law_top", "_law_bottom"] (spD K 2 (f__law_lowest A)) := by
  have nd := sc__law_lowest.nd
  exact fnok_of (m := m__law_lowest A) Fu sc__law_lowest (fun cdv A0 outer s H E hr tk po => by
    have hu := hr.units
    exact (dss_cons (ds_set 2 nd (de_call (F__law_divisor.mono (by decide)) hr tk (by rfl) (da_cons (de_var 0) (da_cons (de_var 1) da_nil)) (ln_cons (ln_cons ln_nil))))
    (dss_one (ds_ret (de_tup (da_cons (de_op op_fdivG oc_fdiv (de_var 0) (de_var 2)) (da_cons (de_op op_fdivG oc_fdiv (de_var 1) (de_var 2)) da_nil))))))) (fun ds h hl => .refl)
theorem ok__law_lowest {f : Addr} {fd : FuncData} (T : Txt K w mg A) (Fu : Fun K "_law_lowest" "_law_lowest" s__law_lowest f fd) (hm : mg "_law_lowest" = some (.ref f)) (hb : Binds K fd ["_law_top", "_law_bottom"] []) (F__law_divisor : FnD P w K mg base 1 "_law_divisor" ["_law_one", "_law_other"] (f__law_divisor A)) : FnD P w K mg base 2 "_law_lowest" ["_law_top", "_law_bottom"] (f__law_lowest A) :=
  fnd_of hm hb Fu.kp (okr__law_lowest T Fu F__law_divisor)
set_option maxHeartbeats 4000000 in
theorem okr__law_high {f : Addr} {fd : FuncData} (T : Txt K w mg A) (Fu : Fun K "_law_high" "_law_high" s__law_high f fd) (F__law_cell_at : FnD P w K mg base 1 "_law_cell_at" ["_law_script", "_law_k"] (f__law_cell_at A)) (F__law_lowest : FnD P w K mg base 2 "_law_lowest" ["_law_top", "_law_bottom"] (f__law_lowest A)) : FnOk P w K mg base (L2.CX P w) 3 f fd ["_law_script"] (spD K 1 (f__law_high A)) := by
  have nd := sc__law_high.nd
  exact fnok_of (m := m__law_high A) Fu sc__law_high (fun cdv A0 outer s H E hr tk po => by
    have hu := hr.units
    exact (dss_cons (ds_set 1 nd (de_call (F__law_cell_at.mono (by decide)) hr tk (by rfl) (da_cons (de_var 0) (da_cons de_int da_nil)) (ln_cons (ln_cons ln_nil))))
    (dss_cons (ds_set 2 nd (de_op op_mod oc_mod (de_op op_fdivG oc_fdiv (de_var 1) de_int) (de_ix ix_seq oc_ix (de_lst (da_cons de_int (da_cons (de_op op_pow oc_pow de_int de_int) (da_cons (de_op op_pow oc_pow de_int de_int) da_nil)))) (de_op op_mod oc_mod (de_var 1) de_int) (fun _ _ => rfl))))
    (dss_cons (ds_set 3 nd (de_call (F__law_cell_at.mono (by decide)) hr tk (by rfl) (da_cons (de_var 0) (da_cons de_int da_nil)) (ln_cons (ln_cons ln_nil))))
    (dss_one (ds_ret (de_call (F__law_lowest.mono (by decide)) hr tk (by rfl) (da_cons (de_var 2) (da_cons (de_op or_add oc_add de_int (de_op op_mod oc_mod (de_op op_fdivG oc_fdiv (de_var 3) de_int) (de_ix ix_seq oc_ix (de_lst (da_cons de_int (da_cons de_int (da_cons (de_op op_pow oc_pow de_int de_int) da_nil)))) (de_op op_mod oc_mod (de_var 3) de_int) (fun _ _ => rfl)))) da_nil)) (ln_cons (ln_cons ln_nil))))))))) (fun ds h hl => .refl)
theorem ok__law_high {f : Addr} {fd : FuncData} (T : Txt K w mg A) (Fu : Fun K "_law_high" "_law_high" s__law_high f fd) (hm : mg "_law_high" = some (.ref f)) (hb : Binds K fd ["_law_script"] []) (F__law_cell_at : FnD P w K mg base 1 "_law_cell_at" ["_law_script", "_law_k"] (f__law_cell_at A)) (F__law_lowest : FnD P w K mg base 2 "_law_lowest" ["_law_top", "_law_bottom"] (f__law_lowest A)) : FnD P w K mg base 3 "_law_high" ["_law_script"] (f__law_high A) :=
  fnd_of hm hb Fu.kp (okr__law_high T Fu F__law_cell_at F__law_lowest)
set_option maxHeartbeats 4000000 in
theorem okr__law_gifts {f : Addr} {fd : FuncData} (T : Txt K w mg A) (Fu : Fun K "_law_gifts" "_law_gifts" s__law_gifts f fd)  : FnOk P w K mg base (L2.CX P w) 1 f fd ["_law_cells", "_law_high_here"] (spD K 2 (f__law_gifts A)) := by
  have nd := sc__law_gifts.nd
  exact fnok_of (m := m__law_gifts A) Fu sc__law_gifts (fun cdv A0 outer s H E hr tk po => by
    have hu := hr.units
    exact (dss_cons (ds_set 2 nd (de_lst da_nil))
    (dss_cons (ds_for po rfl (di_any (de_var 0)) (dg_name 3 nd) (dss_cons (ds_set 4 nd (de_callB (call_max2 rfl) cc_max2 (by rfl) T.n_max (by decide +kernel) (da_cons de_int (da_cons (de_op or_add oc_add (de_op op_sub oc_sub (de_op op_fdivG oc_fdiv (de_ix ix_seq oc_ix (de_var 1) de_int (fun _ _ => rfl)) (de_ix ix_seq oc_ix (de_var 1) de_int (fun _ _ => rfl))) de_int) (de_op op_mod oc_mod (de_op op_fdivG oc_fdiv (de_var 3) de_int) de_int)) da_nil))))
    (dss_one (ds_expr (de_bm PySem.F.slot_list_append PySem.F.type_list_append mt_append tc_append (fun ho ha => pe_bm PySem.F.plainAttrs_list PySem.F.slot_list_append PySem.F.type_list_append mt_append ho ha) (de_var 2) (da_cons (de_ix ix_seq oc_ix (de_lst (da_cons (de_op op_mod oc_mod (de_op op_fdivG oc_fdiv (de_var 3) de_int) de_int) (da_cons (de_op op_mod oc_mod (de_op op_fdivG oc_fdiv (de_var 3) de_int) de_int) (da_cons (de_op op_mod oc_mod (de_op op_fdivG oc_fdiv (de_var 3) de_int) (de_op op_pow oc_pow de_int de_int)) (da_cons (de_var 4) da_nil))))) (de_op op_mod oc_mod (de_var 3) de_int) (fun _ _ => rfl)) da_nil))))))
    (dss_one (ds_ret (de_var 2)))))) (fun ds h hl => .refl)
theorem ok__law_gifts {f : Addr} {fd : FuncData} (T : Txt K w mg A) (Fu : Fun K "_law_gifts" "_law_gifts" s__law_gifts f fd) (hm : mg "_law_gifts" = some (.ref f)) (hb : Binds K fd ["_law_cells", "_law_high_here"] [])  : FnD P w K mg base 1 "_law_gifts" ["_law_cells", "_law_high_here"] (f__law_gifts A) :=
  fnd_of hm hb Fu.kp (okr__law_gifts T Fu )
set_option maxHeartbeats 4000000 in
theorem okr__law_dues {f : Addr} {fd : FuncData} (T : Txt K w mg A) (Fu : Fun K "_law_dues" "_law_dues" s__law_dues f fd) (F__law_lowest : FnD P w K mg base 2 "_law_lowest" ["_law_top", "_law_bottom"] (f__law_lowest A)) : FnOk P w K mg base (L2.CX P w) 3 f fd ["_law_gifts_here", "_law_high_here"] (spD K 2 (f__law_dues A)) := by
  have nd := sc__law_dues.nd
  exact fnok_of (m := m__law_dues A) Fu sc__law_dues (fun cdv A0 outer s H E hr tk po => by
    have hu := hr.units
    exact (dss_one (ds_ret (de_lc (own := [("_law_gift", 2)]) (c := (.nm 2)) rfl nd (di_any (de_var 0)) (blkOk_by (N := N__law_dues) (sc := defScope s__law_dues) (by decide +kernel)) (dc_name 2 nd) (fun _ _ _ _ _ => dts_nil) (fun _ _ _ _ _ => (de_call (F__law_lowest.mono (by decide)) hr takes0 (by rfl) (da_cons (de_callB (call_max2 rfl) cc_max2 (by rfl) T.n_max (by decide +kernel) (da_cons de_int (da_cons (de_op op_sub oc_sub (de_ix ix_seq oc_ix (de_var 1) de_int (fun _ _ => rfl)) (de_op op_mulU oc_mul (de_var 2) (de_ix ix_seq oc_ix (de_var 1) de_int (fun _ _ => rfl)))) da_nil))) (da_cons (de_ix ix_seq oc_ix (de_var 1) de_int (fun _ _ => rfl)) da_nil)) (ln_cons (ln_cons ln_nil)))) (by decide))))) (fun ds h hl => .refl)
theorem ok__law_dues {f : Addr} {fd : FuncData} (T : Txt K w mg A) (Fu : Fun K "_law_dues" "_law_dues" s__law_dues f fd) (hm : mg "_law_dues" = some (.ref f)) (hb : Binds K fd ["_law_gifts_here", "_law_high_here"] []) (F__law_lowest : FnD P w K mg base 2 "_law_lowest" ["_law_top", "_law_bottom"] (f__law_lowest A)) : FnD P w K mg base 3 "_law_dues" ["_law_gifts_here", "_law_high_here"] (f__law_dues A) :=
  fnd_of hm hb Fu.kp (okr__law_dues T Fu F__law_lowest)
set_option maxHeartbeats 4000000 in
theorem okr__law_refilled {f : Addr} {fd : FuncData} (T : Txt K w mg A) (Fu : Fun K "_law_refilled" "_law_refilled" s__law_refilled f fd) (F_level : FnD P w K mg base 5 "level" ["amount", "gifts"] (f_level A)) : FnOk P w K mg base (L2.CX P w) 6 f fd ["_law_gifts_here", "_law_dues_here", "_law_high_here"] (spD K 3 (f__law_refilled A)) := by
  have nd := sc__law_refilled.nd
  exact fnok_of (m := m__law_refilled A) Fu sc__law_refilled (fun cdv A0 outer s H E hr tk po => by
    have hu := hr.units
    exact (dss_cons (ds_set 3 nd (de_lst da_nil))
    (dss_cons (ds_for po rfl (di_zip (by rfl) T.n_zip (da_cons (de_var 0) (da_cons (de_var 1) da_nil))) (dg_tup rfl (dgs_cons (dg_name 4 nd) (dgs_cons (dg_name 5 nd) dgs_nil))) (dss_cons (ds_if (dt_cmp (or_ne hu) oc_ne (de_ix ix_seq oc_ix (de_var 5) de_int (fun _ _ => rfl)) de_int (nomark _)) (dss_one (ds_ret de_bl)) dss_nil)
    (dss_one (ds_expr (de_bm PySem.F.slot_list_append PySem.F.type_list_append mt_append tc_append (fun ho ha => pe_bm PySem.F.plainAttrs_list PySem.F.slot_list_append PySem.F.type_list_append mt_append ho ha) (de_var 3) (da_cons (de_op or_add oc_add (de_var 4) (de_ix ix_seq oc_ix (de_var 5) de_int (fun _ _ => rfl))) da_nil))))))
    (dss_one (ds_ret (de_cmp (or_eq hu) oc_eq (de_call (F_level.mono (by decide)) hr tk (by rfl) (da_cons (de_tup (da_cons de_int (da_cons de_int da_nil))) (da_cons (de_var 3) da_nil)) (ln_cons (ln_cons ln_nil))) (de_tup (da_cons (de_var 2) (da_cons (de_op op_rep oc_rep (de_lst (da_cons (de_tup (da_cons de_int (da_cons de_int da_nil))) da_nil)) (de_callB call_len cc_len (by rfl) T.n_len (by decide +kernel) (da_cons (de_var 0) da_nil))) da_nil))) (nomark _))))))) (fun ds h hl => .refl)
theorem ok__law_refilled {f : Addr} {fd : FuncData} (T : Txt K w mg A) (Fu : Fun K "_law_refilled" "_law_refilled" s__law_refilled f fd) (hm : mg "_law_refilled" = some (.ref f)) (hb : Binds K fd ["_law_gifts_here", "_law_dues_here", "_law_high_here"] []) (F_level : FnD P w K mg base 5 "level" ["amount", "gifts"] (f_level A)) : FnD P w K mg base 6 "_law_refilled" ["_law_gifts_here", "_law_dues_here", "_law_high_here"] (f__law_refilled A) :=
  fnd_of hm hb Fu.kp (okr__law_refilled T Fu F_level)
set_option maxHeartbeats 4000000 in
theorem okr_law {f : Addr} {fd : FuncData} (T : Txt K w mg A) (Fu : Fun K "law" "law" s_law f fd) (F__law_cell_at : FnD P w K mg base 1 "_law_cell_at" ["_law_script", "_law_k"] (f__law_cell_at A)) (F__law_dues : FnD P w K mg base 3 "_law_dues" ["_law_gifts_here", "_law_high_here"] (f__law_dues A)) (F__law_gifts : FnD P w K mg base 1 "_law_gifts" ["_law_cells", "_law_high_here"] (f__law_gifts A)) (F__law_high : FnD P w K mg base 3 "_law_high" ["_law_script"] (f__law_high A)) (F__law_lowest : FnD P w K mg base 2 "_law_lowest" ["_law_top", "_law_bottom"] (f__law_lowest A)) (F__law_refilled : FnD P w K mg base 6 "_law_refilled" ["_law_gifts_here", "_law_dues_here", "_law_high_here"] (f__law_refilled A)) (F_level : FnD P w K mg base 5 "level" ["amount", "gifts"] (f_level A)) : FnOk P w K mg base (L2.CX P w) 7 f fd ["_law_script"] (spD K 1 (f_law A)) := by
  have nd := sc_law.nd
  exact fnok_of (m := m_law A) Fu sc_law (fun cdv A0 outer s H E hr tk po => by
    have hu := hr.units
    exact (dss_cons (ds_set 1 nd (de_call (F__law_high.mono (by decide)) hr tk (by rfl) (da_cons (de_var 0) da_nil) (ln_cons ln_nil)))
    (dss_cons (ds_set 2 nd (de_call (F__law_gifts.mono (by decide)) hr tk (by rfl) (da_cons (de_op or_add oc_add (de_lst (da_cons (de_call (F__law_cell_at.mono (by decide)) hr tk (by rfl) (da_cons (de_var 0) (da_cons de_int da_nil)) (ln_cons (ln_cons ln_nil))) da_nil)) (de_slice (de_var 0) (dp_some de_int) (dp_some de_int))) (da_cons (de_var 1) da_nil)) (ln_cons (ln_cons ln_nil))))
    (dss_cons (ds_if (dt_cmp op_ge oc_ge (de_op op_mulU oc_mul (de_callB (cr_min rfl) cc_minL (by rfl) T.n_min (by decide +kernel) (da_cons (de_var 2) da_nil)) (de_ix ix_seq oc_ix (de_var 1) de_int (fun _ _ => rfl))) (de_ix ix_seq oc_ix (de_var 1) de_int (fun _ _ => rfl)) (nomark _)) (dss_one (ds_set 1 nd (de_tup (da_cons (de_callB (cr_min rfl) cc_minL (by rfl) T.n_min (by decide +kernel) (da_cons (de_var 2) da_nil)) (da_cons de_int da_nil))))) dss_nil)
    (dss_cons (ds_set 3 nd (de_callB (cr_sum rfl) cc_sumL (by rfl) T.n_sum (by decide +kernel) (da_cons (de_lc (own := [("_law_gift", 10)]) (c := (.nm 10)) rfl nd (di_any (de_var 2)) (blkOk_by (N := N_law) (sc := defScope s_law) (by decide +kernel)) (dc_name 10 nd) (fun _ _ _ _ _ => dts_nil) (fun _ _ _ _ _ => (de_callB (call_max2 rfl) cc_max2 (by rfl) T.n_max (by decide +kernel) (da_cons de_int (da_cons (de_op op_sub oc_sub (de_ix ix_seq oc_ix (de_var 1) de_int (fun _ _ => rfl)) (de_op op_mulU oc_mul (de_var 10) (de_ix ix_seq oc_ix (de_var 1) de_int (fun _ _ => rfl)))) da_nil)))) (by decide)) da_nil)))
    (dss_cons (ds_set 4 nd (de_call (F__law_lowest.mono (by decide)) hr tk (by rfl) (da_cons (de_var 3) (da_cons (de_ix ix_seq oc_ix (de_var 1) de_int (fun _ _ => rfl)) da_nil)) (ln_cons (ln_cons ln_nil))))
    (dss_cons (ds_set 5 nd (de_tup (da_cons (de_var 1) (da_cons (de_call (F__law_dues.mono (by decide)) hr tk (by rfl) (da_cons (de_var 2) (da_cons (de_var 1) da_nil)) (ln_cons (ln_cons ln_nil))) da_nil))))
    (dss_cons (ds_if (dt_cmp (or_ne hu) oc_ne (de_call (F_level.mono (by decide)) hr tk (by rfl) (da_cons (de_var 4) (da_cons (de_callTy call_list_of cc_listOf (by rfl) T.n_list (by decide +kernel) (da_cons (de_var 2) da_nil)) da_nil)) (ln_cons (ln_cons ln_nil))) (de_var 5) (nomark _)) (dss_one (ds_ret de_bl)) dss_nil)
    (dss_cons (ds_set 6 nd (de_op op_mod oc_mod (de_call (F__law_cell_at.mono (by decide)) hr tk (by rfl) (da_cons (de_var 0) (da_cons de_int da_nil)) (ln_cons (ln_cons ln_nil))) (de_op or_add oc_add (de_callB call_len cc_len (by rfl) T.n_len (by decide +kernel) (da_cons (de_var 2) da_nil)) de_int)))
    (dss_cons (ds_set 7 nd (de_op or_add oc_add (de_op op_sub oc_sub de_int (de_op op_fdivG oc_fdiv (de_op op_sub oc_sub de_int (de_ix ix_seq oc_ix (de_var 1) de_int (fun _ _ => rfl))) (de_ix ix_seq oc_ix (de_var 1) de_int (fun _ _ => rfl)))) (de_ix ix_seq oc_ix (de_lst (da_cons de_int (da_cons (de_op op_mod oc_mod (de_op op_fdivG oc_fdiv (de_call (F__law_cell_at.mono (by decide)) hr tk (by rfl) (da_cons (de_var 0) (da_cons de_int da_nil)) (ln_cons (ln_cons ln_nil))) de_int) (de_op op_pow oc_pow de_int de_int)) da_nil))) (de_op op_mod oc_mod (de_call (F__law_cell_at.mono (by decide)) hr tk (by rfl) (da_cons (de_var 0) (da_cons de_int da_nil)) (ln_cons (ln_cons ln_nil))) de_int) (fun _ _ => rfl))))
    (dss_cons (ds_set 8 nd (de_call (F_level.mono (by decide)) hr tk (by rfl) (da_cons (de_var 4) (da_cons (de_op or_add oc_add (de_op or_add oc_add (de_slice (de_var 2) dp_none (dp_some (de_var 6))) (de_lst (da_cons (de_var 7) da_nil))) (de_slice (de_var 2) (dp_some (de_var 6)) dp_none)) da_nil)) (ln_cons (ln_cons ln_nil))))
    (dss_cons (ds_if (dt_cmp (or_ne hu) oc_ne (de_var 8) (de_tup (da_cons (de_var 1) (da_cons (de_op or_add oc_add (de_op or_add oc_add (de_slice (de_ix ix_seq oc_ix (de_var 5) de_int (fun _ _ => rfl)) dp_none (dp_some (de_var 6))) (de_lst (da_cons (de_tup (da_cons de_int (da_cons de_int da_nil))) da_nil))) (de_slice (de_ix ix_seq oc_ix (de_var 5) de_int (fun _ _ => rfl)) (dp_some (de_var 6)) dp_none)) da_nil))) (nomark _)) (dss_one (ds_ret de_bl)) dss_nil)
    (dss_cons (ds_set 9 nd (de_call (F_level.mono (by decide)) hr tk (by rfl) (da_cons (de_call (F__law_lowest.mono (by decide)) hr tk (by rfl) (da_cons (de_var 3) (da_cons (de_op op_mulU oc_mul de_int (de_ix ix_seq oc_ix (de_var 1) de_int (fun _ _ => rfl))) da_nil)) (ln_cons (ln_cons ln_nil))) (da_cons (de_callTy call_list_of cc_listOf (by rfl) T.n_list (by decide +kernel) (da_cons (de_var 2) da_nil)) da_nil)) (ln_cons (ln_cons ln_nil))))
    (dss_cons (ds_if (dt_cmp op_gt oc_gt (de_op op_mulU oc_mul (de_ix ix_seq oc_ix (de_ix ix_seq oc_ix (de_var 9) de_int (fun _ _ => rfl)) de_int (fun _ _ => rfl)) (de_ix ix_seq oc_ix (de_var 1) de_int (fun _ _ => rfl))) (de_op op_mulU oc_mul (de_ix ix_seq oc_ix (de_var 1) de_int (fun _ _ => rfl)) (de_ix ix_seq oc_ix (de_ix ix_seq oc_ix (de_var 9) de_int (fun _ _ => rfl)) de_int (fun _ _ => rfl))) (nomark _)) (dss_one (ds_ret de_bl)) dss_nil)
    (dss_one (ds_ret (de_call (F__law_refilled.mono (by decide)) hr tk (by rfl) (da_cons (de_var 2) (da_cons (de_ix ix_seq oc_ix (de_var 5) de_int (fun _ _ => rfl)) (da_cons (de_var 1) da_nil))) (ln_cons (ln_cons (ln_cons ln_nil)))))))))))))))))))) (fun ds h hl => .refl)
theorem ok_law {f : Addr} {fd : FuncData} (T : Txt K w mg A) (Fu : Fun K "law" "law" s_law f fd) (hm : mg "law" = some (.ref f)) (hb : Binds K fd ["_law_script"] []) (F__law_cell_at : FnD P w K mg base 1 "_law_cell_at" ["_law_script", "_law_k"] (f__law_cell_at A)) (F__law_dues : FnD P w K mg base 3 "_law_dues" ["_law_gifts_here", "_law_high_here"] (f__law_dues A)) (F__law_gifts : FnD P w K mg base 1 "_law_gifts" ["_law_cells", "_law_high_here"] (f__law_gifts A)) (F__law_high : FnD P w K mg base 3 "_law_high" ["_law_script"] (f__law_high A)) (F__law_lowest : FnD P w K mg base 2 "_law_lowest" ["_law_top", "_law_bottom"] (f__law_lowest A)) (F__law_refilled : FnD P w K mg base 6 "_law_refilled" ["_law_gifts_here", "_law_dues_here", "_law_high_here"] (f__law_refilled A)) (F_level : FnD P w K mg base 5 "level" ["amount", "gifts"] (f_level A)) : FnD P w K mg base 7 "law" ["_law_script"] (f_law A) :=
  fnd_of hm hb Fu.kp (okr_law T Fu F__law_cell_at F__law_dues F__law_gifts F__law_high F__law_lowest F__law_refilled F_level)
end
set_option maxHeartbeats 4000000 in
theorem all_mk {l : PySem.W.OpenLaw} {w : World} {K : PySem.W.Frag} {h : Heap} {mg : Str → Option Value} {fa : Addr} (X : K.In h) (G : h.Ns mainGlobals mg) (hfa : mg "law" = some (.ref fa))
    {fa_is_whole : Addr} {od_is_whole an_is_whole : Option Addr} {sl_is_whole : Array (Option Value)} {oc_is_whole kV_is_whole dc_is_whole pm_is_whole cd_is_whole ct_is_whole : Value}
    {fa_ratio : Addr} {od_ratio an_ratio : Option Addr} {sl_ratio : Array (Option Value)} {oc_ratio kV_ratio dc_ratio pm_ratio cd_ratio ct_ratio : Value}
    {fa_plus : Addr} {od_plus an_plus : Option Addr} {sl_plus : Array (Option Value)} {oc_plus kV_plus dc_plus pm_plus cd_plus ct_plus : Value}
    {fa_minus : Addr} {od_minus an_minus : Option Addr} {sl_minus : Array (Option Value)} {oc_minus kV_minus dc_minus pm_minus cd_minus ct_minus : Value}
    {fa_over : Addr} {od_over an_over : Option Addr} {sl_over : Array (Option Value)} {oc_over kV_over dc_over pm_over cd_over ct_over : Value}
    {fa_less : Addr} {od_less an_less : Option Addr} {sl_less : Array (Option Value)} {oc_less kV_less dc_less pm_less cd_less ct_less : Value}
    {fa_lack : Addr} {od_lack an_lack : Option Addr} {sl_lack : Array (Option Value)} {oc_lack kV_lack dc_lack pm_lack cd_lack ct_lack : Value}
    {fa_level : Addr} {od_level an_level : Option Addr} {sl_level : Array (Option Value)} {oc_level kV_level dc_level pm_level cd_level ct_level : Value}
    {fa__law_cell_at : Addr} {od__law_cell_at an__law_cell_at : Option Addr} {sl__law_cell_at : Array (Option Value)} {oc__law_cell_at kV__law_cell_at dc__law_cell_at pm__law_cell_at cd__law_cell_at ct__law_cell_at : Value}
    {fa__law_divisor : Addr} {od__law_divisor an__law_divisor : Option Addr} {sl__law_divisor : Array (Option Value)} {oc__law_divisor kV__law_divisor dc__law_divisor pm__law_divisor cd__law_divisor ct__law_divisor : Value}
    {fa__law_lowest : Addr} {od__law_lowest an__law_lowest : Option Addr} {sl__law_lowest : Array (Option Value)} {oc__law_lowest kV__law_lowest dc__law_lowest pm__law_lowest cd__law_lowest ct__law_lowest : Value}
    {fa__law_high : Addr} {od__law_high an__law_high : Option Addr} {sl__law_high : Array (Option Value)} {oc__law_high kV__law_high dc__law_high pm__law_high cd__law_high ct__law_high : Value}
    {fa__law_gifts : Addr} {od__law_gifts an__law_gifts : Option Addr} {sl__law_gifts : Array (Option Value)} {oc__law_gifts kV__law_gifts dc__law_gifts pm__law_gifts cd__law_gifts ct__law_gifts : Value}
    {fa__law_dues : Addr} {od__law_dues an__law_dues : Option Addr} {sl__law_dues : Array (Option Value)} {oc__law_dues kV__law_dues dc__law_dues pm__law_dues cd__law_dues ct__law_dues : Value}
    {fa__law_refilled : Addr} {od__law_refilled an__law_refilled : Option Addr} {sl__law_refilled : Array (Option Value)} {oc__law_refilled kV__law_refilled dc__law_refilled pm__law_refilled cd__law_refilled ct__law_refilled : Value}
    {fa_law : Addr} {od_law an_law : Option Addr} {sl_law : Array (Option Value)} {oc_law kV_law dc_law pm_law cd_law ct_law : Value}
    {C_NoNumber : Addr}
    (a_is_whole : PySem.W.nsIn K mainGlobals "is_whole" = some (some (.ref fa_is_whole)))
    (l_is_whole : K.lookup fa_is_whole = some ⟨oc_is_whole, od_is_whole, .func (PySem.W.fnOf "is_whole" "is_whole" (defArgs s_is_whole) (defBody s_is_whole) (defScope s_is_whole) .none kV_is_whole dc_is_whole pm_is_whole an_is_whole cd_is_whole ct_is_whole), sl_is_whole⟩)
    (co_is_whole : PySem.W.codeIn K cd_is_whole "is_whole" = true)
    (ke_is_whole : PySem.W.keepIn K (.ref fa_is_whole) = true)
    (a_ratio : PySem.W.nsIn K mainGlobals "ratio" = some (some (.ref fa_ratio)))
    (l_ratio : K.lookup fa_ratio = some ⟨oc_ratio, od_ratio, .func (PySem.W.fnOf "ratio" "ratio" (defArgs s_ratio) (defBody s_ratio) (defScope s_ratio) .none kV_ratio dc_ratio pm_ratio an_ratio cd_ratio ct_ratio), sl_ratio⟩)
    (co_ratio : PySem.W.codeIn K cd_ratio "ratio" = true)
    (ke_ratio : PySem.W.keepIn K (.ref fa_ratio) = true)
    (a_plus : PySem.W.nsIn K mainGlobals "plus" = some (some (.ref fa_plus)))
    (l_plus : K.lookup fa_plus = some ⟨oc_plus, od_plus, .func (PySem.W.fnOf "plus" "plus" (defArgs s_plus) (defBody s_plus) (defScope s_plus) .none kV_plus dc_plus pm_plus an_plus cd_plus ct_plus), sl_plus⟩)
    (co_plus : PySem.W.codeIn K cd_plus "plus" = true)
    (ke_plus : PySem.W.keepIn K (.ref fa_plus) = true)
    (a_minus : PySem.W.nsIn K mainGlobals "minus" = some (some (.ref fa_minus)))
    (l_minus : K.lookup fa_minus = some ⟨oc_minus, od_minus, .func (PySem.W.fnOf "minus" "minus" (defArgs s_minus) (defBody s_minus) (defScope s_minus) .none kV_minus dc_minus pm_minus an_minus cd_minus ct_minus), sl_minus⟩)
    (co_minus : PySem.W.codeIn K cd_minus "minus" = true)
    (ke_minus : PySem.W.keepIn K (.ref fa_minus) = true)
    (a_over : PySem.W.nsIn K mainGlobals "over" = some (some (.ref fa_over)))
    (l_over : K.lookup fa_over = some ⟨oc_over, od_over, .func (PySem.W.fnOf "over" "over" (defArgs s_over) (defBody s_over) (defScope s_over) .none kV_over dc_over pm_over an_over cd_over ct_over), sl_over⟩)
    (co_over : PySem.W.codeIn K cd_over "over" = true)
    (ke_over : PySem.W.keepIn K (.ref fa_over) = true)
    (a_less : PySem.W.nsIn K mainGlobals "less" = some (some (.ref fa_less)))
    (l_less : K.lookup fa_less = some ⟨oc_less, od_less, .func (PySem.W.fnOf "less" "less" (defArgs s_less) (defBody s_less) (defScope s_less) .none kV_less dc_less pm_less an_less cd_less ct_less), sl_less⟩)
    (co_less : PySem.W.codeIn K cd_less "less" = true)
    (ke_less : PySem.W.keepIn K (.ref fa_less) = true)
    (a_lack : PySem.W.nsIn K mainGlobals "lack" = some (some (.ref fa_lack)))
    (l_lack : K.lookup fa_lack = some ⟨oc_lack, od_lack, .func (PySem.W.fnOf "lack" "lack" (defArgs s_lack) (defBody s_lack) (defScope s_lack) .none kV_lack dc_lack pm_lack an_lack cd_lack ct_lack), sl_lack⟩)
    (co_lack : PySem.W.codeIn K cd_lack "lack" = true)
    (ke_lack : PySem.W.keepIn K (.ref fa_lack) = true)
    (a_level : PySem.W.nsIn K mainGlobals "level" = some (some (.ref fa_level)))
    (l_level : K.lookup fa_level = some ⟨oc_level, od_level, .func (PySem.W.fnOf "level" "level" (defArgs s_level) (defBody s_level) (defScope s_level) .none kV_level dc_level pm_level an_level cd_level ct_level), sl_level⟩)
    (co_level : PySem.W.codeIn K cd_level "level" = true)
    (ke_level : PySem.W.keepIn K (.ref fa_level) = true)
    (a__law_cell_at : PySem.W.nsIn K mainGlobals "_law_cell_at" = some (some (.ref fa__law_cell_at)))
    (l__law_cell_at : K.lookup fa__law_cell_at = some ⟨oc__law_cell_at, od__law_cell_at, .func (PySem.W.fnOf "_law_cell_at" "_law_cell_at" (defArgs s__law_cell_at) (defBody s__law_cell_at) (defScope s__law_cell_at) .none kV__law_cell_at dc__law_cell_at pm__law_cell_at an__law_cell_at cd__law_cell_at ct__law_cell_at), sl__law_cell_at⟩)
    (co__law_cell_at : PySem.W.codeIn K cd__law_cell_at "_law_cell_at" = true)
    (ke__law_cell_at : PySem.W.keepIn K (.ref fa__law_cell_at) = true)
    (a__law_divisor : PySem.W.nsIn K mainGlobals "_law_divisor" = some (some (.ref fa__law_divisor)))
    (l__law_divisor : K.lookup fa__law_divisor = some ⟨oc__law_divisor, od__law_divisor, .func (PySem.W.fnOf "_law_divisor" "_law_divisor" (defArgs s__law_divisor) (defBody s__law_divisor) (defScope s__law_divisor) .none kV__law_divisor dc__law_divisor pm__law_divisor an__law_divisor cd__law_divisor ct__law_divisor), sl__law_divisor⟩)
    (co__law_divisor : PySem.W.codeIn K cd__law_divisor "_law_divisor" = true)
    (ke__law_divisor : PySem.W.keepIn K (.ref fa__law_divisor) = true)
    (a__law_lowest : PySem.W.nsIn K mainGlobals "_law_lowest" = some (some (.ref fa__law_lowest)))
    (l__law_lowest : K.lookup fa__law_lowest = some ⟨oc__law_lowest, od__law_lowest, .func (PySem.W.fnOf "_law_lowest" "_law_lowest" (defArgs s__law_lowest) (defBody s__law_lowest) (defScope s__law_lowest) .none kV__law_lowest dc__law_lowest pm__law_lowest an__law_lowest cd__law_lowest ct__law_lowest), sl__law_lowest⟩)
    (co__law_lowest : PySem.W.codeIn K cd__law_lowest "_law_lowest" = true)
    (ke__law_lowest : PySem.W.keepIn K (.ref fa__law_lowest) = true)
    (a__law_high : PySem.W.nsIn K mainGlobals "_law_high" = some (some (.ref fa__law_high)))
    (l__law_high : K.lookup fa__law_high = some ⟨oc__law_high, od__law_high, .func (PySem.W.fnOf "_law_high" "_law_high" (defArgs s__law_high) (defBody s__law_high) (defScope s__law_high) .none kV__law_high dc__law_high pm__law_high an__law_high cd__law_high ct__law_high), sl__law_high⟩)
    (co__law_high : PySem.W.codeIn K cd__law_high "_law_high" = true)
    (ke__law_high : PySem.W.keepIn K (.ref fa__law_high) = true)
    (a__law_gifts : PySem.W.nsIn K mainGlobals "_law_gifts" = some (some (.ref fa__law_gifts)))
    (l__law_gifts : K.lookup fa__law_gifts = some ⟨oc__law_gifts, od__law_gifts, .func (PySem.W.fnOf "_law_gifts" "_law_gifts" (defArgs s__law_gifts) (defBody s__law_gifts) (defScope s__law_gifts) .none kV__law_gifts dc__law_gifts pm__law_gifts an__law_gifts cd__law_gifts ct__law_gifts), sl__law_gifts⟩)
    (co__law_gifts : PySem.W.codeIn K cd__law_gifts "_law_gifts" = true)
    (ke__law_gifts : PySem.W.keepIn K (.ref fa__law_gifts) = true)
    (a__law_dues : PySem.W.nsIn K mainGlobals "_law_dues" = some (some (.ref fa__law_dues)))
    (l__law_dues : K.lookup fa__law_dues = some ⟨oc__law_dues, od__law_dues, .func (PySem.W.fnOf "_law_dues" "_law_dues" (defArgs s__law_dues) (defBody s__law_dues) (defScope s__law_dues) .none kV__law_dues dc__law_dues pm__law_dues an__law_dues cd__law_dues ct__law_dues), sl__law_dues⟩)
    (co__law_dues : PySem.W.codeIn K cd__law_dues "_law_dues" = true)
    (ke__law_dues : PySem.W.keepIn K (.ref fa__law_dues) = true)
    (a__law_refilled : PySem.W.nsIn K mainGlobals "_law_refilled" = some (some (.ref fa__law_refilled)))
    (l__law_refilled : K.lookup fa__law_refilled = some ⟨oc__law_refilled, od__law_refilled, .func (PySem.W.fnOf "_law_refilled" "_law_refilled" (defArgs s__law_refilled) (defBody s__law_refilled) (defScope s__law_refilled) .none kV__law_refilled dc__law_refilled pm__law_refilled an__law_refilled cd__law_refilled ct__law_refilled), sl__law_refilled⟩)
    (co__law_refilled : PySem.W.codeIn K cd__law_refilled "_law_refilled" = true)
    (ke__law_refilled : PySem.W.keepIn K (.ref fa__law_refilled) = true)
    (a_law : PySem.W.nsIn K mainGlobals "law" = some (some (.ref fa_law)))
    (l_law : K.lookup fa_law = some ⟨oc_law, od_law, .func (PySem.W.fnOf "law" "law" (defArgs s_law) (defBody s_law) (defScope s_law) .none kV_law dc_law pm_law an_law cd_law ct_law), sl_law⟩)
    (co_law : PySem.W.codeIn K cd_law "law" = true)
    (ke_law : PySem.W.keepIn K (.ref fa_law) = true)
    (z_abs : PySem.W.nsIn K mainGlobals "abs" = some none)
    (z_bool : PySem.W.nsIn K mainGlobals "bool" = some none)
    (z_int : PySem.W.nsIn K mainGlobals "int" = some none)
    (z_isinstance : PySem.W.nsIn K mainGlobals "isinstance" = some none)
    (z_len : PySem.W.nsIn K mainGlobals "len" = some none)
    (z_list : PySem.W.nsIn K mainGlobals "list" = some none)
    (z_max : PySem.W.nsIn K mainGlobals "max" = some none)
    (z_min : PySem.W.nsIn K mainGlobals "min" = some none)
    (z_sorted : PySem.W.nsIn K mainGlobals "sorted" = some none)
    (z_sum : PySem.W.nsIn K mainGlobals "sum" = some none)
    (z_zip : PySem.W.nsIn K mainGlobals "zip" = some none)
    (gc_NoNumber : PySem.W.nsIn K mainGlobals "NoNumber" = some (some (.ref C_NoNumber)))
    (xc_NoNumber : PySem.W.excIn K C_NoNumber [.type "ValueError", .type "Exception", .type "BaseException", .type "object"] "ValueError.__new__" = true)
    (kc_NoNumber : PySem.W.keepIn K (.ref C_NoNumber) = true)
    (sb_NoNumber : PySem.W.subIn K (.ref C_NoNumber) (.type "BaseException") = some true)
    (tc_NoNumber : PySem.W.typeIn K (.ref C_NoNumber) = some (.type "type"))
    (plain : ∀ A : Ad, AdOk A → ∀ ns : List Int, ns.length ≤ 63 → ∃ h', f_law A [.ref 0] [.scr (ns.map D.int)] = .val (.bl true) h') :
    ∃ fd : FuncData, (∀ (s : Shared) (v : Value), BindsTo s fd ⟨[v], []⟩ [("_law_script", v)]) ∧ ∀ base : Heap, K.In base → base.Ns mainGlobals mg → FnOk l.prog w K mg base (L2.CX l.prog w) 7 fa fd ["_law_script"] (spLaw K) := by
  have e := hfa.symm.trans (PySem.W.mg_of X G a_law)
  cases e
  have T : Txt K w mg { c_NoNumber := C_NoNumber } := {
    z := trivial
    n_abs := PySem.W.mg_none_of X G z_abs
    n_bool := PySem.W.mg_none_of X G z_bool
    n_int := PySem.W.mg_none_of X G z_int
    n_isinstance := PySem.W.mg_none_of X G z_isinstance
    n_len := PySem.W.mg_none_of X G z_len
    n_list := PySem.W.mg_none_of X G z_list
    n_max := PySem.W.mg_none_of X G z_max
    n_min := PySem.W.mg_none_of X G z_min
    n_sorted := PySem.W.mg_none_of X G z_sorted
    n_sum := PySem.W.mg_none_of X G z_sum
    n_zip := PySem.W.mg_none_of X G z_zip
    c_NoNumber := PySem.W.mg_of X G gc_NoNumber
    kc_NoNumber := kc_NoNumber
    sb_NoNumber := sb_NoNumber
    tc_NoNumber := tc_NoNumber
    x_NoNumber := xc_NoNumber
  }
  have Fu_is_whole := fun_mk (st := s_is_whole) l_is_whole co_is_whole ke_is_whole
  have b_is_whole := Fu_is_whole.binds (ps := ["thing"]) fun _ _ _ _ _ _ us hl => match us, hl with | [_], _ => rfl
  have Fu_ratio := fun_mk (st := s_ratio) l_ratio co_ratio ke_ratio
  have b_ratio := Fu_ratio.binds (ps := ["top", "bottom"]) fun _ _ _ _ _ _ us hl => match us, hl with | [_, _], _ => rfl
  have Fu_plus := fun_mk (st := s_plus) l_plus co_plus ke_plus
  have b_plus := Fu_plus.binds (ps := ["one", "other"]) fun _ _ _ _ _ _ us hl => match us, hl with | [_, _], _ => rfl
  have Fu_minus := fun_mk (st := s_minus) l_minus co_minus ke_minus
  have b_minus := Fu_minus.binds (ps := ["one", "other"]) fun _ _ _ _ _ _ us hl => match us, hl with | [_, _], _ => rfl
  have Fu_over := fun_mk (st := s_over) l_over co_over ke_over
  have b_over := Fu_over.binds (ps := ["one", "other"]) fun _ _ _ _ _ _ us hl => match us, hl with | [_, _], _ => rfl
  have Fu_less := fun_mk (st := s_less) l_less co_less ke_less
  have b_less := Fu_less.binds (ps := ["one", "other"]) fun _ _ _ _ _ _ us hl => match us, hl with | [_, _], _ => rfl
  have Fu_lack := fun_mk (st := s_lack) l_lack co_lack ke_lack
  have b_lack := Fu_lack.binds (ps := ["gift", "high"]) fun _ _ _ _ _ _ us hl => match us, hl with | [_, _], _ => rfl
  have Fu_level := fun_mk (st := s_level) l_level co_level ke_level
  have b_level := Fu_level.binds (ps := ["amount", "gifts"]) fun _ _ _ _ _ _ us hl => match us, hl with | [_, _], _ => rfl
  have Fu__law_cell_at := fun_mk (st := s__law_cell_at) l__law_cell_at co__law_cell_at ke__law_cell_at
  have b__law_cell_at := Fu__law_cell_at.binds (ps := ["_law_script", "_law_k"]) fun _ _ _ _ _ _ us hl => match us, hl with | [_, _], _ => rfl
  have Fu__law_divisor := fun_mk (st := s__law_divisor) l__law_divisor co__law_divisor ke__law_divisor
  have b__law_divisor := Fu__law_divisor.binds (ps := ["_law_one", "_law_other"]) fun _ _ _ _ _ _ us hl => match us, hl with | [_, _], _ => rfl
  have Fu__law_lowest := fun_mk (st := s__law_lowest) l__law_lowest co__law_lowest ke__law_lowest
  have b__law_lowest := Fu__law_lowest.binds (ps := ["_law_top", "_law_bottom"]) fun _ _ _ _ _ _ us hl => match us, hl with | [_, _], _ => rfl
  have Fu__law_high := fun_mk (st := s__law_high) l__law_high co__law_high ke__law_high
  have b__law_high := Fu__law_high.binds (ps := ["_law_script"]) fun _ _ _ _ _ _ us hl => match us, hl with | [_], _ => rfl
  have Fu__law_gifts := fun_mk (st := s__law_gifts) l__law_gifts co__law_gifts ke__law_gifts
  have b__law_gifts := Fu__law_gifts.binds (ps := ["_law_cells", "_law_high_here"]) fun _ _ _ _ _ _ us hl => match us, hl with | [_, _], _ => rfl
  have Fu__law_dues := fun_mk (st := s__law_dues) l__law_dues co__law_dues ke__law_dues
  have b__law_dues := Fu__law_dues.binds (ps := ["_law_gifts_here", "_law_high_here"]) fun _ _ _ _ _ _ us hl => match us, hl with | [_, _], _ => rfl
  have Fu__law_refilled := fun_mk (st := s__law_refilled) l__law_refilled co__law_refilled ke__law_refilled
  have b__law_refilled := Fu__law_refilled.binds (ps := ["_law_gifts_here", "_law_dues_here", "_law_high_here"]) fun _ _ _ _ _ _ us hl => match us, hl with | [_, _, _], _ => rfl
  have Fu_law := fun_mk (st := s_law) l_law co_law ke_law
  have b_law := Fu_law.binds (ps := ["_law_script"]) fun _ _ _ _ _ _ us hl => match us, hl with | [_], _ => rfl
  refine ⟨PySem.W.fnOf "law" "law" (defArgs s_law) (defBody s_law) (defScope s_law) .none kV_law dc_law pm_law an_law cd_law ct_law, fun s v => .of_eq rfl, fun base _ _ => ?_⟩
  have G_is_whole : FnD l.prog w K mg base 1 "is_whole" ["thing"] (f_is_whole _) := ok_is_whole T Fu_is_whole (PySem.W.mg_of X G a_is_whole) b_is_whole 
  have G_ratio : FnD l.prog w K mg base 2 "ratio" ["top", "bottom"] (f_ratio _) := ok_ratio T Fu_ratio (PySem.W.mg_of X G a_ratio) b_ratio G_is_whole
  have G_plus : FnD l.prog w K mg base 3 "plus" ["one", "other"] (f_plus _) := ok_plus T Fu_plus (PySem.W.mg_of X G a_plus) b_plus G_ratio
  have G_minus : FnD l.prog w K mg base 3 "minus" ["one", "other"] (f_minus _) := ok_minus T Fu_minus (PySem.W.mg_of X G a_minus) b_minus G_ratio
  have G_over : FnD l.prog w K mg base 3 "over" ["one", "other"] (f_over _) := ok_over T Fu_over (PySem.W.mg_of X G a_over) b_over G_ratio
  have G_less : FnD l.prog w K mg base 1 "less" ["one", "other"] (f_less _) := ok_less T Fu_less (PySem.W.mg_of X G a_less) b_less 
  have G_lack : FnD l.prog w K mg base 4 "lack" ["gift", "high"] (f_lack _) := ok_lack T Fu_lack (PySem.W.mg_of X G a_lack) b_lack G_less G_minus
  have G_level : FnD l.prog w K mg base 5 "level" ["amount", "gifts"] (f_level _) := ok_level T Fu_level (PySem.W.mg_of X G a_level) b_level G_lack G_less G_over G_plus
  have G__law_cell_at : FnD l.prog w K mg base 1 "_law_cell_at" ["_law_script", "_law_k"] (f__law_cell_at _) := ok__law_cell_at T Fu__law_cell_at (PySem.W.mg_of X G a__law_cell_at) b__law_cell_at 
  have G__law_divisor : FnD l.prog w K mg base 1 "_law_divisor" ["_law_one", "_law_other"] (f__law_divisor _) := ok__law_divisor T Fu__law_divisor (PySem.W.mg_of X G a__law_divisor) b__law_divisor 
  have G__law_lowest : FnD l.prog w K mg base 2 "_law_lowest" ["_law_top", "_law_bottom"] (f__law_lowest _) := ok__law_lowest T Fu__law_lowest (PySem.W.mg_of X G a__law_lowest) b__law_lowest G__law_divisor
  have G__law_high : FnD l.prog w K mg base 3 "_law_high" ["_law_script"] (f__law_high _) := ok__law_high T Fu__law_high (PySem.W.mg_of X G a__law_high) b__law_high G__law_cell_at G__law_lowest
  have G__law_gifts : FnD l.prog w K mg base 1 "_law_gifts" ["_law_cells", "_law_high_here"] (f__law_gifts _) := ok__law_gifts T Fu__law_gifts (PySem.W.mg_of X G a__law_gifts) b__law_gifts 
  have G__law_dues : FnD l.prog w K mg base 3 "_law_dues" ["_law_gifts_here", "_law_high_here"] (f__law_dues _) := ok__law_dues T Fu__law_dues (PySem.W.mg_of X G a__law_dues) b__law_dues G__law_lowest
  have G__law_refilled : FnD l.prog w K mg base 6 "_law_refilled" ["_law_gifts_here", "_law_dues_here", "_law_high_here"] (f__law_refilled _) := ok__law_refilled T Fu__law_refilled (PySem.W.mg_of X G a__law_refilled) b__law_refilled G_level
  exact law_of (okr_law T Fu_law G__law_cell_at G__law_dues G__law_gifts G__law_high G__law_lowest G__law_refilled G_level) (plain _ { z := trivial })
theorem walk {l : PySem.W.OpenLaw} {q : Program} {loose : List Str} {XP : (Str → Option Value) → Heap → Prop} {YP : World → Heap → Prop} {d : DefRec} {K : Params → PySem.W.Frag} (hn : l.most = some 63) (hdf : d.params.defaults = [])
    (hY : ∀ (w : World) (h : Heap), YP w h → (K w.params).In h)
    (F : ∀ (w : World) (mg : Str → Option Value) (fa : Addr) (h : Heap), (K w.params).In h → h.Ns mainGlobals mg → mg d.name = some (.ref fa) →
      ∃ fd : FuncData, (∀ (s : Shared) (u : Value), BindsTo s fd ⟨[u], []⟩ [("_law_script", u)]) ∧ ∀ base : Heap, (K w.params).In base → base.Ns mainGlobals mg → FnOk l.prog w (K w.params) mg base (L2.CX l.prog w) 7 fa fd ["_law_script"] (spLaw (K w.params))) :
    PySem.W.WalkO q loose XP YP l.row.toRowW d [] (fun f vs => PySem.call f vs) :=
  L2.walk_of (n := 63) (k := 7) (x := "_law_script") (CX := fun w => L2.CX l.prog w) (sp := fun w => spLaw (K w.params)) hn (by decide) hdf ⟨rfl, by decide, by decide⟩ hY F (fun w H a ns hl ho hS => ⟨a, ns, rfl, hS, ho, hl, fun _ => rfl⟩) (fun _ _ _ _ _ ⟨_, _, _, _, _, _, _, _, _, _, _, _, z⟩ => z)
end Wk82

namespace Wk82
open PySem PySem.Spec PyProof.Rows L2 DL
/-! ### fractions: the program's own -/
theorem is_whole_int (A : Ad) (i : Int) (h : DH) : f_is_whole A [.int i] h = .val (.bl true) h := by
  simp [f_is_whole, m_is_whole, startD]
theorem ratio_loop (t b : D) (h : DH) : ∀ (n x y : Nat), y ≤ n →
    whileN (mB (mOp gGt (mVar 3) (mC (.int 0)))) (sPar 2 3 (mCons (mVar 3) (mCons (mOp gMod (mVar 2) (mVar 3)) mNil))) (n + 1) [some t, some b, some (.int (x : Int)), some (.int (y : Int))] h = .nx [some t, some b, some (.int (Nat.gcd x y : Nat)), some (.int 0)] h
  | n, x, y, hy => by
    unfold whileN
    by_cases h0 : y = 0
    · subst h0
      simp
    · have hp : (0 : Int) < (y : Int) := by omega
      have e : sPar 2 3 (mCons (mVar 3) (mCons (mOp gMod (mVar 2) (mVar 3)) mNil)) [some t, some b, some (.int (x : Int)), some (.int (y : Int))] h = .nx [some t, some b, some (.int (y : Int)), some (.int ((x % y : Nat) : Int))] h := by
        simp [r_mod hp]
      obtain ⟨k, rfl⟩ : ∃ k, n = k + 1 := ⟨n - 1, by omega⟩
      have hm : x % y ≤ k := by
        have := Nat.mod_lt x (show y > 0 by omega)
        omega
      have ih := ratio_loop t b h k y (x % y) hm
      have eg : Nat.gcd y (x % y) = Nat.gcd x y := by
        rw [Nat.gcd_comm, Nat.gcd_comm x y]; exact (Nat.gcd_rec y x).symm
      rw [eg] at ih
      simp only [r_mB, r_mOp, r_mVar, r_mC, List.getD_cons_succ, List.getD_cons_zero, Out.bind_val, r_I0, r_asB, Out.toS_val, decide_eq_true hp, if_pos, e]
      exact ih
theorem ratio_eq (A : Ad) (t b : Int) (hb : b ≠ 0) (h1 : b.natAbs < 2 ^ 9000) (h : DH) : f_ratio A [.int t, .int b] h = .val (.tup [.int (rtP t b), .int (rtQ t b)]) h := by
  have hw := ratio_loop (.int t) (.int b) h t.natAbs b.natAbs t.natAbs (Nat.le_refl _)
  have hw2 := sWhile_eq hw (by intro z; cases z)
  have ab : ∀ z : Int, (if z < 0 then -z else z) = (z.natAbs : Int) := fun z => by split <;> omega
  have hs : rtS t b ≠ 0 := rtS_ne hb
  have hz : (rtS t b).natAbs < 2 ^ 9000 := Nat.lt_of_le_of_lt (rtS_le hb) h1
  have e1 : gFdiv (.int t) (.int (rtS t b)) h = .val (.int (rtP t b)) h := r_fdivG hs hz
  have e2 : gFdiv (.int b) (.int (rtS t b)) h = .val (.int (rtQ t b)) h := r_fdivG hs hz
  unfold f_ratio m_ratio
  refine fin_step (ρ := [some (.int t), some (.int b), none, none]) (h := h) ?_ ?_
  · simp [startD, is_whole_int, hb]
  refine fin_step (ρ := [some (.int t), some (.int b), some (.int (b.natAbs : Int)), none]) (h := h) ?_ ?_
  · simp [ab]
  refine fin_step (ρ := [some (.int t), some (.int b), some (.int (b.natAbs : Int)), some (.int (t.natAbs : Int))]) (h := h) ?_ ?_
  · simp [ab]
  refine fin_step hw2 ?_
  refine fin_step (ρ := [some (.int t), some (.int b), some (.int (rtS t b)), some (.int 0)]) (h := h) ?_ ?_
  · by_cases hn : b < 0
    · simp [hn, rtS]
    · simp [hn, rtS]
  · simp [e1, e2, sizeLine_eq]
theorem ratio_zero (A : Ad) (t : Int) (h : DH) : f_ratio A [.int t, .int 0] h = .exc ⟨.ref A.c_NoNumber, []⟩ h := by
  simp [f_ratio, m_ratio, startD, is_whole_int]
theorem cell_eq (A : Ad) (ns : List Int) (h : DH) (e : listAt h 0 = some (ns.map D.int)) (k : Nat) : ∃ v, f__law_cell_at A [.ref 0, .int k] h = .val (.int v) h := by
  unfold f__law_cell_at m__law_cell_at
  by_cases hk : k < ns.length
  · refine ⟨ns[k], ?_⟩
    have e2 : gIx (.ref 0) (.int (k : Int)) h = .val (.int ns[k]) h := r_ix_lst e (by simp [List.getElem?_eq_getElem hk])
    simp [startD, r_len_lst e, hk, e2]
  · refine ⟨0, ?_⟩
    simp [startD, r_len_lst e, hk]
theorem div_loop (h : DH) : ∀ (n x y : Nat), y ≤ n →
    whileN (mB (mOp gGt (mVar 1) (mC (.int 0)))) (sPar 0 1 (mCons (mVar 1) (mCons (mOp gMod (mVar 0) (mVar 1)) mNil))) (n + 1) [some (.int (x : Int)), some (.int (y : Int))] h = .nx [some (.int (Nat.gcd x y : Nat)), some (.int 0)] h
  | n, x, y, hy => by
    unfold whileN
    by_cases h0 : y = 0
    · subst h0
      simp
    · have hp : (0 : Int) < (y : Int) := by omega
      have e : sPar 0 1 (mCons (mVar 1) (mCons (mOp gMod (mVar 0) (mVar 1)) mNil)) [some (.int (x : Int)), some (.int (y : Int))] h = .nx [some (.int (y : Int)), some (.int ((x % y : Nat) : Int))] h := by
        simp [r_mod hp]
      obtain ⟨k, rfl⟩ : ∃ k, n = k + 1 := ⟨n - 1, by omega⟩
      have hm : x % y ≤ k := by
        have := Nat.mod_lt x (show y > 0 by omega)
        omega
      have ih := div_loop h k y (x % y) hm
      have eg : Nat.gcd y (x % y) = Nat.gcd x y := by
        rw [Nat.gcd_comm, Nat.gcd_comm x y]; exact (Nat.gcd_rec y x).symm
      rw [eg] at ih
      simp only [r_mB, r_mOp, r_mVar, r_mC, List.getD_cons_succ, List.getD_cons_zero, Out.bind_val, r_I0, r_asB, Out.toS_val, decide_eq_true hp, if_pos, e]
      exact ih
theorem div_eq (A : Ad) (x y : Nat) (h : DH) : f__law_divisor A [.int x, .int y] h = .val (.int (Nat.gcd x y : Nat)) h := by
  have e2 := sWhile_eq (div_loop h y x y (Nat.le_refl _)) (by intro z; cases z)
  unfold f__law_divisor m__law_divisor
  exact fin_step e2 (by simp)
theorem plus_eq (A : Ad) {a b g : Int} (hb : 1 ≤ b) (ba : Bd 400 a) (bb : Bd 400 b) (bg : Bd 400 g) (h : DH) : f_plus A [.tup [.int a, .int b], .tup [.int g, .int 1]] h = .val (.tup [.int (rtP (a + g * b) b), .int (rtQ (a + g * b) b)]) h := by
  have b1 : Bd 400 1 := by unfold Bd; exact Nat.one_lt_two_pow (by decide)
  have e1 : gMul (.int a) (.int 1) h = .val (.int (a * 1)) h := r_mulB ba b1
  have e2 : gMul (.int g) (.int b) h = .val (.int (g * b)) h := r_mulB bg bb
  have e3 : gMul (.int b) (.int 1) h = .val (.int (b * 1)) h := r_mulB bb b1
  have e4 := ratio_eq A (a + g * b) b (by omega) (Nat.lt_of_lt_of_le bb (Nat.pow_le_pow_right (by decide) (by decide))) h
  unfold f_plus m_plus
  simp [startD, e1, e2, e3, e4]
theorem minus_eq (A : Ad) {a b g : Int} (hb : 1 ≤ b) (ba : Bd 400 a) (bb : Bd 400 b) (bg : Bd 400 g) (h : DH) : f_minus A [.tup [.int a, .int b], .tup [.int g, .int 1]] h = .val (.tup [.int (rtP (a - g * b) b), .int (rtQ (a - g * b) b)]) h := by
  have b1 : Bd 400 1 := by unfold Bd; exact Nat.one_lt_two_pow (by decide)
  have e1 : gMul (.int a) (.int 1) h = .val (.int (a * 1)) h := r_mulB ba b1
  have e2 : gMul (.int g) (.int b) h = .val (.int (g * b)) h := r_mulB bg bb
  have e3 : gMul (.int b) (.int 1) h = .val (.int (b * 1)) h := r_mulB bb b1
  have e4 := ratio_eq A (a - g * b) b (by omega) (Nat.lt_of_lt_of_le bb (Nat.pow_le_pow_right (by decide) (by decide))) h
  unfold f_minus m_minus
  simp [startD, e1, e2, e3, e4]
theorem over_eq (A : Ad) {a b m : Int} (hb : 1 ≤ b) (hm : 1 ≤ m) (ba : Bd 400 a) (bb : Bd 400 b) (bm : Bd 400 m) (h : DH) : f_over A [.tup [.int a, .int b], .tup [.int m, .int 1]] h = .val (.tup [.int (rtP a (b * m)), .int (rtQ a (b * m))]) h := by
  have b1 : Bd 400 1 := by unfold Bd; exact Nat.one_lt_two_pow (by decide)
  have e1 : gMul (.int a) (.int 1) h = .val (.int (a * 1)) h := r_mulB ba b1
  have e2 : gMul (.int b) (.int m) h = .val (.int (b * m)) h := r_mulB bb bm
  have pos : 0 < b * m := Int.mul_pos (by omega) (by omega)
  have e4 := ratio_eq A a (b * m) (by omega) (Nat.lt_of_lt_of_le (bb.mul bm) (Nat.pow_le_pow_right (by decide) (by decide))) h
  unfold f_over m_over
  simp [startD, e1, e2, e4]
theorem less_eq (A : Ad) {g c d : Int} (bg : Bd 400 g) (bc : Bd 400 c) (bd : Bd 400 d) (h : DH) : f_less A [.tup [.int g, .int 1], .tup [.int c, .int d]] h = .val (.bl (decide (g * d < c))) h := by
  have b1 : Bd 400 1 := by unfold Bd; exact Nat.one_lt_two_pow (by decide)
  have e1 : gMul (.int g) (.int d) h = .val (.int (g * d)) h := r_mulB bg bd
  have e2 : gMul (.int c) (.int 1) h = .val (.int (c * 1)) h := r_mulB bc b1
  unfold f_less m_less
  simp [startD, e1, e2]
/-- what one lacks -/
def lackD (c d g : Int) : D := if g * d < c then .tup [.int (rtP (c - g * d) d), .int (rtQ (c - g * d) d)] else .tup [.int 0, .int 1]
theorem lack_eq (A : Ad) {g c d : Int} (hd : 1 ≤ d) (bg : Bd 400 g) (bc : Bd 400 c) (bd : Bd 400 d) (h : DH) : f_lack A [.int g, .tup [.int c, .int d]] h = .val (lackD c d g) h := by
  have e1 := less_eq A bg bc bd h
  have e2 := minus_eq A hd bc bd bg h
  unfold f_lack m_lack lackD
  by_cases q : g * d < c
  · simp [startD, e1, e2, q, sizeLine_eq]
  · simp [startD, e1, q, sizeLine_eq]
/-! ### the water's level, in plain numbers -/
structure WL (p q : Int) (l : List Int) (m : Nat) (a b c d : Int) : Prop where
  mle : m ≤ l.length
  m1 : l ≠ [] → 1 ≤ m
  bp : 1 ≤ b
  bq : b ≤ q
  cr : a * q = (p + q * (l.take m).sum) * b
  ab : a.natAbs ≤ (m + 1) * 2 ^ 200
  hi : 1 ≤ m → 1 ≤ d ∧ c * (q * m) = (p + q * (l.take m).sum) * d ∧ Nat.gcd c.natAbs d.natAbs = 1 ∧ c.natAbs ≤ (m + 1) * 2 ^ 200 ∧ d ≤ q * m
  tk : ∀ x ∈ l.take m, x * (q * m) ≤ p + q * (l.take m).sum
  nt : ∀ x ∈ l.drop m, p + q * (l.take m).sum ≤ x * (q * m)
theorem WL.start {p q : Int} (hq : 1 ≤ q) (bp : p.natAbs ≤ 2 ^ 200) : WL p q [] 0 p q p q where
  mle := Nat.le_refl _
  m1 := fun h => absurd rfl h
  bp := hq
  bq := Int.le_refl _
  cr := by simp
  ab := by simpa using bp
  hi := fun h => absurd h (by decide)
  tk := fun x hx => by simp at hx
  nt := fun x hx => by simp at hx
theorem mul_cancel {x y z : Int} (hz : 0 < z) (h : x * z = y * z) : x = y := Int.eq_of_mul_eq_mul_right (Int.ne_of_gt hz) h
theorem lt_level {g c d N k : Int} (hd : 0 < d) (hk : 0 < k) (e : c * k = N * d) : g * d < c ↔ g * k < N := by
  constructor
  · intro h
    have h1 := Int.mul_lt_mul_of_pos_right h hk
    rw [e] at h1
    have h2 : (g * k) * d < N * d := by
      have : g * d * k = g * k * d := by rw [Int.mul_assoc, Int.mul_comm d k, ← Int.mul_assoc]
      omega
    exact Int.lt_of_mul_lt_mul_right h2 (Int.le_of_lt hd)
  · intro h
    have h1 := Int.mul_lt_mul_of_pos_right h hd
    have h2 : (g * d) * k < c * k := by
      have : g * d * k = g * k * d := by rw [Int.mul_assoc, Int.mul_comm d k, ← Int.mul_assoc]
      omega
    exact Int.lt_of_mul_lt_mul_right h2 (Int.le_of_lt hk)
theorem WL.no {p q g : Int} {l : List Int} {m : Nat} {a b c d : Int} (w : WL p q l m a b c d) (hq : 1 ≤ q) (hm : 1 ≤ m) (h : ¬ g * d < c) : WL p q (l ++ [g]) m a b c d := by
  obtain ⟨d1, d2, _⟩ := w.hi hm
  have hk : 0 < q * (m : Int) := Int.mul_pos (by omega) (by omega)
  have et : (l ++ [g]).take m = l.take m := List.take_append_of_le_length w.mle
  have ed : (l ++ [g]).drop m = l.drop m ++ [g] := List.drop_append_of_le_length w.mle
  rw [lt_level (by omega) hk d2] at h
  refine ⟨by rw [List.length_append]; have := w.mle; omega, fun _ => hm, w.bp, w.bq, by rw [et]; exact w.cr, w.ab, by rw [et]; exact w.hi, by rw [et]; exact w.tk, ?_⟩
  rw [et, ed]
  intro x hx
  rcases List.mem_append.mp hx with hx | hx
  · exact w.nt x hx
  · rw [List.mem_singleton] at hx; subst hx; omega
theorem WL.take {p q g : Int} {l : List Int} {m : Nat} {a b c d : Int} (w : WL p q l m a b c d) (hq : 1 ≤ q) (hp : 0 ≤ p) (hg : ∀ x ∈ l, x ≤ g) (bg : g.natAbs * q.natAbs ≤ 2 ^ 200) (h : m = 0 ∨ g * d < c) :
    WL p q (l ++ [g]) (m + 1) (rtP (a + g * b) b) (rtQ (a + g * b) b) (rtP (rtP (a + g * b) b) (rtQ (a + g * b) b * ((m : Int) + 1))) (rtQ (rtP (a + g * b) b) (rtQ (a + g * b) b * ((m : Int) + 1))) := by
  have low : 1 ≤ m → g * (q * m) < p + q * (l.take m).sum := fun hm => by
    obtain ⟨d1, d2, _⟩ := w.hi hm
    have hk : 0 < q * (m : Int) := Int.mul_pos (by omega) (by omega)
    rcases h with h | h
    · omega
    · exact (lt_level (by omega) hk d2).mp h
  have all : m = l.length := by
    by_cases h0 : l = []
    · subst h0
      have := w.mle
      simp at this
      simp [this]
    · have hm := w.m1 h0
      have hk : 0 < q * (m : Int) := Int.mul_pos (by omega) (by omega)
      have hd : l.drop m = [] := by
        cases hd : l.drop m with
        | nil => rfl
        | cons x r =>
          have hx : x ∈ l.drop m := by rw [hd]; exact List.mem_cons_self
          have h1 := w.nt x hx
          have h2 := hg x (List.mem_of_mem_drop hx)
          have h3 := Int.mul_le_mul_of_nonneg_right h2 (Int.le_of_lt hk)
          have h4 := low hm
          omega
      have := List.length_drop (l := l) (i := m)
      rw [hd] at this
      simp at this
      have := w.mle
      omega
  have el : l.take m = l := List.take_of_length_le (by omega)
  have et : (l ++ [g]).take (m + 1) = l ++ [g] := List.take_of_length_le (by rw [List.length_append]; simp; omega)
  have ed : (l ++ [g]).drop (m + 1) = [] := List.drop_eq_nil_of_le (by rw [List.length_append]; simp; omega)
  have es : (l ++ [g]).sum = l.sum + g := by rw [List.sum_append]; simp
  have wcr := w.cr
  rw [el] at wcr low
  have hb0 : b ≠ 0 := by have := w.bp; omega
  have bpos : 0 < b := by have := w.bp; omega
  have q1 := rtQ_pos (t := a + g * b) hb0
  have rl := rt_le (t := a + g * b) hb0
  have rc := rt_cross (a + g * b) b
  generalize rtP (a + g * b) b = a' at *
  generalize rtQ (a + g * b) b = b' at *
  have cr' : a' * q = (p + q * (l.sum + g)) * b' := by
    refine mul_cancel bpos ?_
    have e1 : a' * q * b = (a' * b) * q := by rw [Int.mul_assoc, Int.mul_comm q b, ← Int.mul_assoc]
    have e2 : (a + g * b) * b' * q = (a * q + g * b * q) * b' := by rw [Int.mul_assoc, Int.mul_comm b' q, ← Int.mul_assoc, Int.add_mul]
    have e3 : (p + q * (l.sum + g)) * b' * b = ((p + q * l.sum) * b + g * b * q) * b' := by
      have : (p + q * (l.sum + g)) * b = (p + q * l.sum) * b + g * b * q := by
        rw [Int.mul_add, ← Int.add_assoc, Int.add_mul (p + q * l.sum), Int.mul_comm q g, Int.mul_assoc g q b, Int.mul_comm q b, ← Int.mul_assoc]
      rw [Int.mul_assoc, Int.mul_comm b' b, ← Int.mul_assoc, this]
    rw [e1, rc, e2, e3, wcr]
  have bq' : b' ≤ q := by have := w.bq; omega
  have hm1 : (0 : Int) < (m : Int) + 1 := by omega
  have kp : 0 < b' * ((m : Int) + 1) := Int.mul_pos (by omega) hm1
  have q2 := rtQ_pos (t := a') (Int.ne_of_gt kp)
  have rl2 := rt_le (t := a') (Int.ne_of_gt kp)
  have rc2 := rt_cross a' (b' * ((m : Int) + 1))
  have cop := rt_cop (t := a') (Int.ne_of_gt kp)
  generalize rtP a' (b' * ((m : Int) + 1)) = c' at *
  generalize rtQ a' (b' * ((m : Int) + 1)) = d' at *
  have ab' : a'.natAbs ≤ (m + 1 + 1) * 2 ^ 200 := by
    have h1 := w.ab
    have h2 := Int.natAbs_add_le a (g * b)
    have h3 : (g * b).natAbs ≤ g.natAbs * q.natAbs := by
      rw [Int.natAbs_mul]
      exact Nat.mul_le_mul_left _ (by have := w.bq; omega)
    have h4 : (m + 1 + 1) * 2 ^ 200 = (m + 1) * 2 ^ 200 + 2 ^ 200 := Nat.succ_mul _ _
    generalize (2 : Nat) ^ 200 = B at *
    omega
  refine ⟨by rw [List.length_append]; simp; omega, fun _ => by omega, q1, bq', by rw [et, es]; exact cr', ab', fun _ => ⟨q2, ?_, cop, Nat.le_trans rl2.1 ab', ?_⟩, ?_, by rw [ed]; exact fun x hx => absurd hx (List.not_mem_nil)⟩
  · rw [et, es]
    have hc : ((m + 1 : Nat) : Int) = (m : Int) + 1 := by omega
    rw [hc]
    refine mul_cancel (z := b') (by omega) ?_
    have e1 : c' * (q * ((m : Int) + 1)) * b' = (c' * (b' * ((m : Int) + 1))) * q := by
      rw [Int.mul_assoc, Int.mul_assoc c', Int.mul_comm q, Int.mul_assoc _ q b', Int.mul_comm q b', ← Int.mul_assoc _ b' q, Int.mul_comm _ b']
    have e2 : (p + q * (l.sum + g)) * d' * b' = ((p + q * (l.sum + g)) * b') * d' := by rw [Int.mul_assoc, Int.mul_comm d' b', ← Int.mul_assoc]
    rw [e1, rc2, e2, ← cr', Int.mul_assoc, Int.mul_comm d' q, ← Int.mul_assoc]
  · have h1 : d' ≤ b' * ((m : Int) + 1) := by have := rl2.2; omega
    have h2 := Int.mul_le_mul_of_nonneg_right bq' (Int.le_of_lt hm1)
    have hc : ((m + 1 : Nat) : Int) = (m : Int) + 1 := by omega
    rw [hc]
    exact Int.le_trans h1 h2
  · rw [et, es]
    intro x hx
    have hxg : x ≤ g := by
      rcases List.mem_append.mp hx with hx | hx
      · exact hg x hx
      · rw [List.mem_singleton] at hx; omega
    have hc : ((m + 1 : Nat) : Int) = (m : Int) + 1 := by omega
    rw [hc]
    have kq : 0 ≤ q * ((m : Int) + 1) := Int.mul_nonneg (by omega) (by omega)
    have h1 := Int.mul_le_mul_of_nonneg_right hxg kq
    have h2 : g * (q * ((m : Int) + 1)) = g * (q * m) + q * g := by rw [Int.mul_add, Int.mul_one, Int.mul_add, Int.mul_comm g q]
    have h3 : q * (l.sum + g) = q * l.sum + q * g := Int.mul_add _ _ _
    by_cases hm : 1 ≤ m
    · have := low hm
      omega
    · have h0 : m = 0 := by omega
      have hl : l = [] := List.eq_nil_of_length_eq_zero (by omega)
      subst h0 hl
      simp at *
      omega
theorem bd400 {z : Int} {n : Nat} (h : z.natAbs ≤ (n + 1) * 2 ^ 200) (hn : n ≤ 100) : Bd 400 z := by
  unfold Bd
  have h1 : (n + 1) * 2 ^ 200 ≤ 2 ^ 7 * 2 ^ 200 := Nat.mul_le_mul_right _ (by omega)
  rw [← Nat.pow_add] at h1
  exact Nat.lt_of_le_of_lt (Nat.le_trans h h1) (Nat.pow_lt_pow_right (by decide) (by decide))
theorem bd400q {z q : Int} {n : Nat} (hz : 1 ≤ z) (h : z ≤ q * n) (bq : q.natAbs ≤ 2 ^ 100) (hq : 1 ≤ q) (hn : n ≤ 100) : Bd 400 z := by
  unfold Bd
  have h2 : z.natAbs ≤ q.natAbs * n := by
    have e : ((q.natAbs * n : Nat) : Int) = q * n := by rw [Int.natCast_mul]; congr 1; omega
    omega
  have h3 : q.natAbs * n ≤ 2 ^ 100 * 2 ^ 7 := Nat.mul_le_mul bq (by omega)
  rw [← Nat.pow_add] at h3
  exact Nat.lt_of_le_of_lt (Nat.le_trans h2 h3) (Nat.pow_lt_pow_right (by decide) (by decide))
theorem bd400s {z : Int} {n : Nat} (h : z.natAbs ≤ 2 ^ n) (hn : n < 400) : Bd 400 z := Nat.lt_of_le_of_lt h (Nat.pow_lt_pow_right (by decide) hn)
theorem e_tup2 {mr : EM (List D)} {ρ : DEnv} {h h' : DH} {x y : D} (e : mr ρ h = .val [x, y] h') : mTup mr ρ h = .val (.tup [x, y]) h' := by
  unfold mTup
  rw [e]
  show (if 2 ≤ sizeLine then Out.val (D.tup [x, y]) h' else .bad) = _
  exact if_pos (by rw [sizeLine_eq]; decide)
/-- one gift more -/
structure LS where
  m : Nat
  a : Int
  b : Int
  c : Int
  d : Int
def stp (s : LS) (g : Int) : LS := if s.m = 0 ∨ g * s.d < s.c then ⟨s.m + 1, rtP (s.a + g * s.b) s.b, rtQ (s.a + g * s.b) s.b, rtP (rtP (s.a + g * s.b) s.b) (rtQ (s.a + g * s.b) s.b * ((s.m : Int) + 1)), rtQ (rtP (s.a + g * s.b) s.b) (rtQ (s.a + g * s.b) s.b * ((s.m : Int) + 1))⟩ else s
def run (p q : Int) (l : List Int) : LS := l.foldl stp ⟨0, p, q, p, q⟩
/-- where the level stands -/
def Lev (p q : Int) (gs : List Int) (c d : Int) : Prop := ∃ m a b, run p q (sortI gs) = ⟨m, a, b, c, d⟩ ∧ WL p q (sortI gs) m a b c d
theorem Lev.uniq {p q c d c' d' : Int} {gs gs' : List Int} (h : Lev p q gs c d) (h' : Lev p q gs' c' d') (e : gs'.Perm gs) : c' = c ∧ d' = d := by
  obtain ⟨m, a, b, r, _⟩ := h
  obtain ⟨m', a', b', r', _⟩ := h'
  have es : sortI gs' = sortI gs := sortI_uniq ((sortI_perm gs').trans e) (sortI_pair gs')
  rw [es, r] at r'
  cases r'
  exact ⟨rfl, rfl⟩
theorem small100 {n : Nat} (h : n ≤ 100) : n < sizeLine := Nat.lt_of_le_of_lt h (by rw [sizeLine_eq]; decide)
theorem filter_true {α : Type} {l : List α} : l.filter (fun _ => true) = l := by simp
theorem level_eq (A : Ad) {p q : Int} {n : Nat} {gs : List Int} (hp : 0 ≤ p) (hq : 1 ≤ q) (bp : p.natAbs ≤ 2 ^ 100) (bq : q.natAbs ≤ 2 ^ 100) (bg : ∀ g ∈ gs, g.natAbs ≤ 2 ^ 100) (h0 : gs ≠ []) (hl : gs.length ≤ 60) {h : DH} (e : listAt h n = some (gs.map D.int)) :
    ∃ c d j k, Lev p q gs c d ∧ f_level A [.tup [.int p, .int q], .ref n] h = .val (.tup [.tup [.int c, .int d], .ref k]) (h ++ j) ∧ (h ++ j)[k]? = some (DO.lst (gs.map (lackD c d))) ∧ 1 ≤ d ∧ Bd 400 c ∧ Bd 400 d ∧ h.length ≤ k := by
  let s := sortI gs
  have sp : s.Perm gs := sortI_perm gs
  have sl : s.length = gs.length := sp.length_eq
  have sb : ∀ g ∈ s, g.natAbs ≤ 2 ^ 100 := fun g hg => bg g (sp.mem_iff.mp hg)
  have ss : s.Pairwise (· ≤ ·) := sortI_pair gs
  let h1 : DH := h ++ [.lst (s.map D.int)]
  have eso : gSorted [.ref n] h = .val (.ref h.length) h1 := by
    unfold gSorted
    dsimp only
    rw [e]
    dsimp only
    rw [intsOf_map]
    dsimp only
    rw [if_pos (by omega)]
  have l1 : listAt h1 h.length = some (s.map D.int) := listAt_end
  have ln : listAt h1 n = some (gs.map D.int) := listAt_app e
  have gq : ∀ g ∈ s, g.natAbs * q.natAbs ≤ 2 ^ 200 := fun g hg => by
    have := Nat.mul_le_mul (sb g hg) bq
    rwa [← Nat.pow_add] at this
  let body : SM := (sIf (mOr (mB (mOp gEq (mVar 4) (mC (.int 0)))) (mB (mCall (f_less A) (mCons (mTup (mCons (mVar 5) (mCons (mC (.int 1)) mNil))) (mCons (mVar 3) mNil))))) (sSeq (sAsg (mCall (f_plus A) (mCons (mVar 2) (mCons (mTup (mCons (mVar 5) (mCons (mC (.int 1)) mNil))) mNil))) (gSet 2))
    (sSeq (sAsg (mOp gAdd (mVar 4) (mC (.int 1))) (gSet 4))
    (sAsg (mCall (f_over A) (mCons (mVar 2) (mCons (mTup (mCons (mVar 4) (mCons (mC (.int 1)) mNil))) mNil))) (gSet 3)))) sNil)
  let tail : SM := (sRet (mTup (mCons (mVar 3) (mCons (mLc (iAny (mVar 1)) (.nm 5) (mC true) (mCall (f_lack A) (mCons (mVar 5) (mCons (mVar 3) mNil))) [5]) mNil))))
  have key : (fun r : Out D => ∃ c d j k, Lev p q gs c d ∧ r = .val (.tup [.tup [.int c, .int d], .ref k]) (h ++ j) ∧ (h ++ j)[k]? = some (DO.lst (gs.map (lackD c d))) ∧ 1 ≤ d ∧ Bd 400 c ∧ Bd 400 d ∧ h.length ≤ k)
      ((sFor (iAny (mCall gSorted (mCons (mVar 1) mNil))) (gSet 5) body [some (.tup [.int p, .int q]), some (.ref n), some (.tup [.int p, .int q]), some (.tup [.int p, .int q]), some (.int 0), none] h).thn tail).fin := by
    refine for_end (P := fun r : Out D => ∃ c d j k, Lev p q gs c d ∧ r = .val (.tup [.tup [.int c, .int d], .ref k]) (h ++ j) ∧ (h ++ j)[k]? = some (DO.lst (gs.map (lackD c d))) ∧ 1 ≤ d ∧ Bd 400 c ∧ Bd 400 d ∧ h.length ≤ k)
      (mi := iAny (mCall gSorted (mCons (mVar 1) mNil))) (g := gSet 5) (m := body) (n := tail) (ρ := [some (.tup [.int p, .int q]), some (.ref n), some (.tup [.int p, .int q]), some (.tup [.int p, .int q]), some (.int 0), none]) (h := h) (it := fun h' => listAt h' h.length) (all := s.map D.int) (h1 := h1)
      (fun i ρ h' => h' = h1 ∧ ∃ (m : Nat) (a b c d : Int) (o : Option D), m ≤ i ∧ ρ = [some (.tup [.int p, .int q]), some (.ref n), some (.tup [.int a, .int b]), some (.tup [.int c, .int d]), some (.int m), o] ∧ WL p q (s.take i) m a b c d ∧ run p q (s.take i) = ⟨m, a, b, c, d⟩)
      (fun _ => False) ?_ l1 ?_ ?_ ?_ ?_ (fun _ z => z.elim)
    · have : mCall gSorted (mCons (mVar 1) mNil) [some (.tup [.int p, .int q]), some (.ref n), some (.tup [.int p, .int q]), some (.tup [.int p, .int q]), some (.int 0), none] h = .val (.ref h.length) h1 := e_callT (e_cons rfl e_nil) eso
      unfold iAny iSeqL
      rw [this]
      simp only [Out.bind_val, l1]
      rfl
    · rintro i ρ h' ⟨rfl, _⟩; exact l1
    · rintro i d' ρ h' hd ⟨rfl, m, a, b, c, d, o, hmi, rfl, w, rn⟩
      rw [List.getElem?_map, Option.map_eq_some_iff] at hd
      obtain ⟨g, hg, rfl⟩ := hd
      obtain ⟨hi, hg2⟩ := List.getElem?_eq_some_iff.mp hg
      have hgm : g ∈ s := List.mem_of_getElem? hg
      have ht : s.take (i + 1) = s.take i ++ [g] := by rw [List.take_succ, hg]; rfl
      have hle : ∀ x ∈ s.take i, x ≤ g := by
        intro x hx
        have hp := ss
        rw [← List.take_append_drop i s] at hp
        have hgd : g ∈ s.drop i := by
          rw [List.drop_eq_getElem_cons hi, hg2]; exact List.mem_cons_self
        exact (List.pairwise_append.mp hp).2.2 x hx g hgd
      have hmn : m ≤ 60 := by omega
      have rs : run p q (s.take (i + 1)) = stp ⟨m, a, b, c, d⟩ g := by
        rw [ht]
        unfold run at rn ⊢
        rw [List.foldl_append, rn]
        rfl
      have bdg : Bd 400 g := bd400s (sb g hgm) (by decide)
      have ab := bd400 w.ab (by omega)
      have bb : Bd 400 b := bd400q (n := 1) w.bp (by have := w.bq; omega) bq hq (by decide)
      refine ⟨[some (.tup [.int p, .int q]), some (.ref n), some (.tup [.int a, .int b]), some (.tup [.int c, .int d]), some (.int m), some (.int g)], h1, rfl, ?_⟩
      have tg : ∀ ρ' : DEnv, ∀ x : D, mVar 5 ρ' h1 = .val x h1 → mTup (mCons (mVar 5) (mCons (mC (.int 1)) mNil)) ρ' h1 = .val (.tup [x, .int 1]) h1 := fun ρ' x hx => by
        exact e_tup2 (e_cons hx (e_cons rfl e_nil))
      have tst : ∃ bb : Bool, mOr (mB (mOp gEq (mVar 4) (mC (.int 0)))) (mB (mCall (f_less A) (mCons (mTup (mCons (mVar 5) (mCons (mC (.int 1)) mNil))) (mCons (mVar 3) mNil)))) [some (.tup [.int p, .int q]), some (.ref n), some (.tup [.int a, .int b]), some (.tup [.int c, .int d]), some (.int m), some (.int g)] h1 = .val bb h1 ∧ (bb = true → m = 0 ∨ g * d < c) ∧ (bb = false → 1 ≤ m ∧ ¬ g * d < c) := by
        have t1 : mB (mOp gEq (mVar 4) (mC (.int 0))) [some (.tup [.int p, .int q]), some (.ref n), some (.tup [.int a, .int b]), some (.tup [.int c, .int d]), some (.int m), some (.int g)] h1 = .val ((m : Int) == 0) h1 := e_B (e_opT rfl rfl rfl)
        by_cases hm : m = 0
        · refine ⟨true, e_orT (by rw [t1, hm]; rfl), fun _ => .inl hm, fun z => by cases z⟩
        · obtain ⟨d1, d2, d3, d4, d5⟩ := w.hi (by omega)
          have bc := bd400 d4 (by omega)
          have bd := bd400q d1 d5 bq hq (by omega)
          have t2 : mB (mCall (f_less A) (mCons (mTup (mCons (mVar 5) (mCons (mC (.int 1)) mNil))) (mCons (mVar 3) mNil))) [some (.tup [.int p, .int q]), some (.ref n), some (.tup [.int a, .int b]), some (.tup [.int c, .int d]), some (.int m), some (.int g)] h1 = .val (decide (g * d < c)) h1 :=
            e_B (e_callT (e_cons (tg _ _ rfl) (e_cons rfl e_nil)) (less_eq A bdg bc bd h1))
          refine ⟨decide (g * d < c), (e_orF (by rw [t1]; have : ((m : Int) == 0) = false := by simp; omega
                                                 rw [this])).trans t2, fun z => .inr (of_decide_eq_true z), fun z => ⟨by omega, of_decide_eq_false z⟩⟩
      obtain ⟨bl, t, ty, tn⟩ := tst
      cases bl with
      | true =>
        have w2 := WL.take w hq hp hle (gq g hgm) (ty rfl)
        rw [← ht] at w2
        have pe := plus_eq A w.bp ab bb bdg h1
        have bm : Bd 400 ((m : Int) + 1) := by
          unfold Bd
          exact Nat.lt_of_le_of_lt (show ((m : Int) + 1).natAbs ≤ 2 ^ 7 by omega) (Nat.pow_lt_pow_right (by decide) (by decide))
        have ab2 := bd400 w2.ab (by omega)
        have bb2 : Bd 400 (rtQ (a + g * b) b) := bd400q (n := 1) w2.bp (by have := w2.bq; omega) bq hq (by decide)
        have oe := over_eq A w2.bp (show (1 : Int) ≤ (m : Int) + 1 by omega) ab2 bb2 bm h1
        refine .inl ⟨[some (.tup [.int p, .int q]), some (.ref n), some (.tup [.int (rtP (a + g * b) b), .int (rtQ (a + g * b) b)]), some (.tup [.int (rtP (rtP (a + g * b) b) (rtQ (a + g * b) b * ((m : Int) + 1))), .int (rtQ (rtP (a + g * b) b) (rtQ (a + g * b) b * ((m : Int) + 1)))]), some (.int ((m + 1 : Nat) : Int)), some (.int g)], h1, .inl ?_, rfl, m + 1, _, _, _, _, _, by omega, rfl, w2, by rw [rs]; exact if_pos (ty rfl)⟩
        refine if_step t ?_
        rw [if_pos rfl]
        refine nx_step (ρ := [some (.tup [.int p, .int q]), some (.ref n), some (.tup [.int (rtP (a + g * b) b), .int (rtQ (a + g * b) b)]), some (.tup [.int c, .int d]), some (.int m), some (.int g)]) (h := h1) ?_ ?_
        · exact asg_step (e_callT (e_cons rfl (e_cons (tg _ _ rfl) e_nil)) pe) rfl
        refine nx_step (ρ := [some (.tup [.int p, .int q]), some (.ref n), some (.tup [.int (rtP (a + g * b) b), .int (rtQ (a + g * b) b)]), some (.tup [.int c, .int d]), some (.int ((m : Int) + 1)), some (.int g)]) (h := h1) ?_ ?_
        · exact asg_step (e_opT rfl rfl rfl) rfl
        have tm : mTup (mCons (mVar 4) (mCons (mC (.int 1)) mNil)) [some (.tup [.int p, .int q]), some (.ref n), some (.tup [.int (rtP (a + g * b) b), .int (rtQ (a + g * b) b)]), some (.tup [.int c, .int d]), some (.int ((m : Int) + 1)), some (.int g)] h1 = .val (.tup [.int ((m : Int) + 1), .int 1]) h1 := by
          exact e_tup2 (e_cons rfl (e_cons rfl e_nil))
        exact asg_step (e_callT (e_cons rfl (e_cons tm e_nil)) oe) rfl
      | false =>
        obtain ⟨hm, hn⟩ := tn rfl
        have w2 := WL.no w hq hm hn
        rw [← ht] at w2
        refine .inl ⟨[some (.tup [.int p, .int q]), some (.ref n), some (.tup [.int a, .int b]), some (.tup [.int c, .int d]), some (.int m), some (.int g)], h1, .inl ?_, rfl, m, _, _, _, _, _, by omega, rfl, w2, by rw [rs]; exact if_neg (fun z => z.elim (fun z => Nat.ne_of_gt hm z) hn)⟩
        refine if_step t ?_
        rfl
    · refine ⟨rfl, 0, p, q, p, q, none, Nat.le_refl _, rfl, ?_, by rw [List.take_zero]; rfl⟩
      rw [List.take_zero]
      exact WL.start hq (Nat.le_trans bp (Nat.pow_le_pow_right (by decide) (by decide)))
    · rintro ρ' h' ⟨rfl, m, a, b, c, d, o, hmi, rfl, w, rn⟩
      rw [List.length_map] at hmi w rn
      rw [List.take_of_length_le (Nat.le_refl _)] at w rn
      have hs0 : s ≠ [] := fun z => h0 (List.eq_nil_of_length_eq_zero (by rw [← sl, z]; rfl))
      have hm := w.m1 hs0
      obtain ⟨d1, d2, d3, d4, d5⟩ := w.hi hm
      have bc := bd400 d4 (by omega)
      have bd := bd400q d1 d5 bq hq (by omega)
      obtain ⟨j1, ej⟩ := mLc_map (mi := iAny (mVar 1)) (c := .nm 5) (mt := mC true) (me := mCall (f_lack A) (mCons (mVar 5) (mCons (mVar 3) mNil))) (vs := [5])
        (ρ := [some (.tup [.int p, .int q]), some (.ref n), some (.tup [.int a, .int b]), some (.tup [.int c, .int d]), some (.int m), o]) (h0 := h1) (h := h1) (it := fun h => listAt h n) (ds := gs.map D.int) (p := fun _ => true) (g := fun x => match x with | .int g => lackD c d g | x => x)
        (by simp [iAny, iSeqL, ln]) ln (fun acc j => listAt_app ln) (small100 (by simp; omega)) (by
          intro x hx
          obtain ⟨g, hg, rfl⟩ := List.mem_map.mp hx
          refine ⟨_, rfl, fun acc j => ⟨[], by simp, fun _ j => ⟨[], ?_⟩⟩⟩
          have := lack_eq A d1 (bd400s (bg g hg) (by decide)) bc bd (h1 ++ .lst acc :: j)
          simp [wipeD, this])
      have eg : ((gs.map D.int).filter (fun _ => true)).map (fun x => match x with | .int g => lackD c d g | x => x) = gs.map (lackD c d) := by
        simp [filter_true, Function.comp_def]
      rw [eg] at ej
      refine ⟨c, d, .lst (s.map D.int) :: .lst (gs.map (lackD c d)) :: j1, h1.length, ⟨m, a, b, rn, w⟩, ?_, ?_, d1, bc, bd, by simp [h1]⟩
      · have hh : h ++ .lst (s.map D.int) :: .lst (gs.map (lackD c d)) :: j1 = h1 ++ .lst (gs.map (lackD c d)) :: j1 := by simp [h1]
        rw [hh]
        show (tail _ _).fin = _
        refine congrArg SOut.fin (e_ret ?_)
        exact e_tup2 (e_cons rfl (e_cons ej e_nil))
      · have hh : h ++ .lst (s.map D.int) :: .lst (gs.map (lackD c d)) :: j1 = h1 ++ .lst (gs.map (lackD c d)) :: j1 := by simp [h1]
        rw [hh]
        exact get_mid
  obtain ⟨c, d, j, k, z1, z2, z3⟩ := key
  refine ⟨c, d, j, k, z1, ?_, z3⟩
  unfold f_level m_level
  have n0 : startD N_level [.tup [.int p, .int q], .ref n] = [some (.tup [.int p, .int q]), some (.ref n), none, none, none, none] := rfl
  rw [n0]
  refine fin_step (ρ := [some (.tup [.int p, .int q]), some (.ref n), some (.tup [.int p, .int q]), none, none, none]) (h := h) rfl ?_
  refine fin_step (ρ := [some (.tup [.int p, .int q]), some (.ref n), some (.tup [.int p, .int q]), some (.tup [.int p, .int q]), none, none]) (h := h) rfl ?_
  exact fin_step (ρ := [some (.tup [.int p, .int q]), some (.ref n), some (.tup [.int p, .int q]), some (.tup [.int p, .int q]), some (.int 0), none]) (h := h) rfl z2
/-! ### what the level says -/
theorem perm_sum {l m : List Int} (h : l.Perm m) : l.sum = m.sum := by
  induction h with
  | nil => rfl
  | cons x _ ih => simp [ih]
  | swap x y l => simp only [List.sum_cons]; omega
  | trans _ _ h1 h2 => exact h1.trans h2
def sht (c d g : Int) : Int := if 0 < c - g * d then c - g * d else 0
theorem Lev.facts {p q c d : Int} {gs : List Int} (h : Lev p q gs c d) (h0 : gs ≠ []) (hp : 0 ≤ p) (hq : 1 ≤ q) :
    1 ≤ d ∧ Nat.gcd c.natAbs d.natAbs = 1 ∧ (gs.map (sht c d)).sum * q = p * d ∧ minI gs * d ≤ c ∧ (p = 0 → c = minI gs ∧ d = 1) := by
  obtain ⟨m, a, b, _, w⟩ := h
  have sp := sortI_perm gs
  have ss := sortI_pair gs
  generalize hs : sortI gs = s at *
  have hs0 : s ≠ [] := fun z => h0 (List.eq_nil_of_length_eq_zero (by rw [← sp.length_eq, z]; rfl))
  have hm := w.m1 hs0
  obtain ⟨d1, d2, d3, _, _⟩ := w.hi hm
  have hk : 0 < q * (m : Int) := Int.mul_pos (by omega) (by omega)
  have hd : 0 < d := by omega
  generalize hN : p + q * (s.take m).sum = N at *
  have tk : ∀ x ∈ s.take m, x * d ≤ c := fun x hx => by
    have h1 := w.tk x hx
    rw [hN] at h1
    have h2 : ¬ c < x * d := fun z => by
      have z1 := Int.mul_lt_mul_of_pos_right z hk
      rw [d2] at z1
      have z2 := Int.mul_le_mul_of_nonneg_right h1 (Int.le_of_lt hd)
      have e : x * d * (q * m) = x * (q * m) * d := by rw [Int.mul_assoc, Int.mul_comm d, ← Int.mul_assoc]
      omega
    omega
  have nt : ∀ x ∈ s.drop m, c ≤ x * d := fun x hx => by
    have h1 := w.nt x hx
    rw [hN] at h1
    have h2 : ¬ x * d < c := fun z => by
      have z1 := (lt_level hd hk d2).mp z
      omega
    omega
  have sum1 : ∀ l : List Int, (∀ x ∈ l, x * d ≤ c) → (l.map (sht c d)).sum = (l.length : Int) * c - l.sum * d := by
    intro l
    induction l with
    | nil => intro _; simp
    | cons x l ih =>
      intro hh
      have h1 := ih fun y hy => hh y (List.mem_cons_of_mem _ hy)
      have h2 := hh x List.mem_cons_self
      have h3 : sht c d x = c - x * d := by unfold sht; split <;> omega
      rw [List.map_cons, List.sum_cons, h1, h3, List.sum_cons, List.length_cons, Int.add_mul]
      have : ((l.length + 1 : Nat) : Int) * c = (l.length : Int) * c + c := by rw [Int.natCast_add, Int.add_mul]; simp
      rw [this]
      omega
  have sum2 : ∀ l : List Int, (∀ x ∈ l, c ≤ x * d) → (l.map (sht c d)).sum = 0 := by
    intro l
    induction l with
    | nil => intro _; simp
    | cons x l ih =>
      intro hh
      have h1 := ih fun y hy => hh y (List.mem_cons_of_mem _ hy)
      have h2 := hh x List.mem_cons_self
      have h3 : sht c d x = 0 := by unfold sht; split <;> omega
      rw [List.map_cons, List.sum_cons, h1, h3]; omega
  have F1 : (gs.map (sht c d)).sum * q = p * d := by
    rw [← perm_sum (sp.map (sht c d))]
    conv => lhs; rw [← List.take_append_drop m s]
    rw [List.map_append, List.sum_append, sum1 _ tk, sum2 _ nt, List.length_take, Nat.min_eq_left w.mle, Int.add_zero, Int.sub_mul]
    have e1 : (m : Int) * c * q = N * d := by rw [← d2, Int.mul_comm (m : Int) c, Int.mul_assoc, Int.mul_comm (m : Int) q]
    have e2 : (s.take m).sum * d * q = q * (s.take m).sum * d := by rw [Int.mul_comm, Int.mul_assoc]
    rw [e1, e2, ← hN, Int.add_mul]
    omega
  obtain ⟨x0, r0, e0⟩ : ∃ x r, s = x :: r := by
    cases s with
    | nil => exact absurd rfl hs0
    | cons x r => exact ⟨x, r, rfl⟩
  have m0 : x0 ∈ s.take m := by
    rw [e0]
    obtain ⟨k, rfl⟩ : ∃ k, m = k + 1 := ⟨m - 1, by omega⟩
    rw [List.take_succ_cons]
    exact List.mem_cons_self
  obtain ⟨k1, k2⟩ := minI_ok h0
  have xg : x0 ∈ gs := sp.mem_iff.mp (by rw [e0]; exact List.mem_cons_self)
  have xm : minI gs = x0 := by
    have h1 := k2 x0 xg
    have h2 : x0 ≤ minI gs := by
      have := sp.mem_iff.mpr k1
      rw [e0] at this ss
      rcases List.mem_cons.mp this with z | z
      · omega
      · exact (List.pairwise_cons.mp ss).1 _ z
    omega
  refine ⟨d1, d3, F1, by rw [xm]; exact tk _ m0, fun hp0 => ?_⟩
  have z0 : (gs.map (sht c d)).sum = 0 := by
    rw [hp0, Int.zero_mul] at F1
    rcases Int.mul_eq_zero.mp F1 with z | z
    · exact z
    · omega
  have nn : ∀ l : List Int, 0 ≤ (l.map (sht c d)).sum ∧ ∀ x ∈ l, sht c d x ≤ (l.map (sht c d)).sum := by
    intro l
    induction l with
    | nil => exact ⟨by simp, fun x hx => by cases hx⟩
    | cons y l ih =>
      have p1 : 0 ≤ sht c d y := by unfold sht; split <;> omega
      rw [List.map_cons, List.sum_cons]
      refine ⟨by omega, fun x hx => ?_⟩
      rcases List.mem_cons.mp hx with rfl | hx
      · omega
      · have := ih.2 x hx; omega
  have s0 := (nn gs).2 x0 xg
  rw [z0] at s0
  have s1 := tk _ m0
  have s2 : c = x0 * d := by
    unfold sht at s0
    split at s0 <;> omega
  have dd : d.natAbs ∣ Nat.gcd c.natAbs d.natAbs := Nat.dvd_gcd (by rw [s2, Int.natAbs_mul]; exact Nat.dvd_mul_left _ _) (Nat.dvd_refl _)
  rw [d3] at dd
  have d01 : d = 1 := by
    have := Nat.le_of_dvd (by decide) dd
    omega
  exact ⟨by rw [xm, s2, d01, Int.mul_one], d01⟩
theorem sht_nn (c d g : Int) : 0 ≤ sht c d g := by unfold sht; split <;> omega
theorem rt_zero {d : Int} (hd : 1 ≤ d) : rtP 0 d = 0 ∧ rtQ 0 d = 1 := by
  have hd0 : d ≠ 0 := by omega
  have h1 := rt_cross 0 d
  rw [Int.zero_mul] at h1
  have h2 : rtP 0 d = 0 := by
    rcases Int.mul_eq_zero.mp h1 with z | z
    · exact z
    · omega
  have h3 := rt_cop (t := 0) hd0
  have h4 := rtQ_pos (t := 0) hd0
  rw [h2] at h3
  refine ⟨h2, ?_⟩
  have : Nat.gcd (0 : Int).natAbs (rtQ 0 d).natAbs = (rtQ 0 d).natAbs := Nat.gcd_zero_left _
  omega
theorem lackD_eq {c d g : Int} (hd : 1 ≤ d) : lackD c d g = .tup [.int (rtP (sht c d g) d), .int (rtQ (sht c d g) d)] := by
  unfold lackD sht
  by_cases z : g * d < c
  · rw [if_pos z, if_pos (by omega)]
  · rw [if_neg z, if_neg (by omega), (rt_zero hd).1, (rt_zero hd).2]
theorem eq_pair (a b c d : Int) (h : DH) : gEq (.tup [.int a, .int b]) (.tup [.int c, .int d]) h = .val (.bl (a == c && b == d)) h := by
  have e : PyData.eqv (.tuple [.int a, .int b]) (.tuple [.int c, .int d]) = (a == c && b == d) := by simp [PyData.eqv, PyData.eqvAll]
  show (if SeqAt.shaped (.tuple [.int a, .int b]) = true ∧ SeqAt.shaped (.tuple [.int c, .int d]) = true then Out.val (D.bl (PyData.eqv (.tuple [.int a, .int b]) (.tuple [.int c, .int d]))) h else .bad) = _
  rw [if_pos ⟨rfl, rfl⟩, e]
theorem ne_pair (a b c d : Int) (h : DH) : gNe (.tup [.int a, .int b]) (.tup [.int c, .int d]) h = .val (.bl (!(a == c && b == d))) h := by
  have e : PyData.eqv (.tuple [.int a, .int b]) (.tuple [.int c, .int d]) = (a == c && b == d) := by simp [PyData.eqv, PyData.eqvAll]
  show (if SeqAt.shaped (.tuple [.int a, .int b]) = true ∧ SeqAt.shaped (.tuple [.int c, .int d]) = true then Out.val (D.bl (!PyData.eqv (.tuple [.int a, .int b]) (.tuple [.int c, .int d]))) h else .bad) = _
  rw [if_pos ⟨rfl, rfl⟩, e]
theorem ty_lst {h : DH} {k : Nat} {xs : List D} (e : listAt h k = some xs) : gIsTy [.ref k, .raw (.ty "list")] h = .val (.bl true) h := by
  refine r_isTy (t := "list") ?_ (by decide +kernel)
  unfold DL.listAt at e
  show tyR h[k]? = _
  split at e
  · rename_i q; rw [q]; rfl
  · rename_i q; rw [q]; rfl
  · cases e
/-! ### the draws -/
theorem ten_pow (n : Nat) (hn : n ≤ 20) (h : DH) : gPow (.int 10) (.int (n : Int)) h = .val (.int (10 ^ n)) h := by
  have c : CPow 10 (n : Int) := ⟨by omega, by omega, by decide⟩
  have := r_pow (h := h) c
  simpa using this
theorem e_lst {mr : EM (List D)} {ρ : DEnv} {h h' : DH} {xs : List D} (e : mr ρ h = .val xs h') (hz : xs.length ≤ 100) : mLst mr ρ h = .val (.ref h'.length) (h' ++ [.lst xs]) := by
  unfold mLst
  rw [e]
  exact if_pos (Nat.le_of_lt (small100 hz))
theorem fd_small {u k : Int} (hk : 0 < k) (h2 : k < 100) (h : DH) : gFdiv (.int u) (.int k) h = .val (.int (u / k)) h := r_fdiv hk (Nat.lt_of_lt_of_le (show k.natAbs < 2 ^ 7 by omega) (Nat.pow_le_pow_right (by decide) (by decide)))
theorem pick {xs : List Int} {u k : Int} {n : Nat} {h : DH} (e : listAt h n = some (xs.map D.int)) (hk : 0 < k) (hl : (xs.length : Int) = k) : ∃ t ∈ xs, gIx (.ref n) (.int (u % k)) h = .val (.int t) h := by
  have h1 := Int.emod_nonneg u (show k ≠ 0 by omega)
  have h2 := Int.emod_lt_of_pos u hk
  have h3 : (u % k).toNat < xs.length := by omega
  refine ⟨xs[(u % k).toNat], List.getElem_mem h3, ?_⟩
  have q := r_ix_lst (h := h) (p := n) (xs := xs.map D.int) (k := (u % k).toNat) (x := .int xs[(u % k).toNat]) e (by rw [List.getElem?_map, List.getElem?_eq_getElem h3]; rfl)
  rwa [Int.toNat_of_nonneg h1] at q
def tops : List Int := [1, 31, 10 ^ 9, 10 ^ 20]
def bots : List Int := [1, 12, 10 ^ 9]
def gfts : List Int := [5, 1000, 10 ^ 18 + 1, 1]
theorem ints_data (h : DH) (k : Nat) : ∀ ws : List Int, pdAll (pd h k) (ws.map D.int) = some (ws.map PyData.int)
  | [] => rfl
  | w :: ws => by
    show (match pd h k (.int w), pdAll (pd h k) (ws.map D.int) with | some p, some ps => some (p :: ps) | _, _ => none) = _
    rw [ints_data h k ws]
    cases k <;> rfl
theorem ints_lay : ∀ ws : List Int, PyData.canLayAll0 (ws.map PyData.int) = true ∧ PyData.depthAll (ws.map PyData.int) = 0
  | [] => by simp [PyData.canLayAll0, PyData.depthAll]
  | w :: ws => by simp [PyData.canLayAll0, PyData.canLay0, PyData.depthAll, PyData.depth, ints_lay ws]
theorem pd_ints {h : DH} {a : Nat} {gs : List Int} (e : listAt h a = some (gs.map D.int)) : pd h 16 (.ref a) = some (.list (gs.map PyData.int)) := by
  show (match DL.listAt h a with | some ds => (pdAll (pd h 15) ds).map PyData.list | none => none) = _
  rw [e]
  dsimp only
  rw [ints_data]
  rfl
theorem sh_ints (gs : List Int) : SeqAt.shaped (.list (gs.map PyData.int)) = true := by
  unfold SeqAt.shaped
  rw [PyData.canLay0, (ints_lay gs).1, PyData.depth, (ints_lay gs).2]
  rfl
theorem ne_ints {h : DH} {a b : Nat} {gs ks : List Int} (ea : listAt h a = some (gs.map D.int)) (eb : listAt h b = some (ks.map D.int)) : gNe (.ref a) (.ref b) h = .val (.bl (!PyData.eqv (.list (gs.map PyData.int)) (.list (ks.map PyData.int)))) h := by
  unfold gNe
  rw [if_neg (show ¬ (scalD (.ref a) (.ref b) = true) from Bool.false_ne_true), pd_ints ea, pd_ints eb]
  dsimp only
  rw [if_pos ⟨sh_ints gs, sh_ints ks⟩]
/-! ### what the law asks -/
def prD (x : Int × Int) : D := .tup [.int x.1, .int x.2]
def prP (x : Int × Int) : PyData := .tuple [.int x.1, .int x.2]
def lkP (c d g : Int) : Int × Int := (rtP (sht c d g) d, rtQ (sht c d g) d)
theorem dues_eq {c d : Int} (hd : 1 ≤ d) (gs : List Int) : gs.map (lackD c d) = (gs.map (lkP c d)).map prD := by
  rw [List.map_map]
  exact List.map_congr_left fun g _ => lackD_eq hd
theorem prs_data (h : DH) (k : Nat) : ∀ ws : List (Int × Int), pdAll (pd h (k + 1)) (ws.map prD) = some (ws.map prP)
  | [] => rfl
  | w :: ws => by
    show (match pd h (k + 1) (prD w), pdAll (pd h (k + 1)) (ws.map prD) with | some p, some ps => some (p :: ps) | _, _ => none) = _
    rw [prs_data h k ws]
    cases k <;> rfl
theorem prs_lay : ∀ ws : List (Int × Int), PyData.canLayAll0 (ws.map prP) = true ∧ PyData.depthAll (ws.map prP) ≤ 1
  | [] => by simp [PyData.canLayAll0, PyData.depthAll]
  | w :: ws => by
    have := prs_lay ws
    simp [PyData.canLayAll0, PyData.canLay0, PyData.depthAll, PyData.depth, prP, this]
theorem pd_prs {h : DH} {a k : Nat} {ws : List (Int × Int)} (e : listAt h a = some (ws.map prD)) : pd h (k + 2) (.ref a) = some (.list (ws.map prP)) := by
  show (match DL.listAt h a with | some ds => (pdAll (pd h (k + 1)) ds).map PyData.list | none => none) = _
  rw [e]
  dsimp only
  rw [prs_data]
  rfl
theorem lay_prs (ws : List (Int × Int)) : PyData.canLay0 (.list (ws.map prP)) = true := by rw [PyData.canLay0]; exact (prs_lay ws).1
theorem sh_prs (ws : List (Int × Int)) : SeqAt.shaped (.list (ws.map prP)) = true := by
  unfold SeqAt.shaped
  rw [lay_prs, PyData.depth]
  have := (prs_lay ws).2
  simp; omega
theorem same_prs {h : DH} {a b : Nat} {ws : List (Int × Int)} (ea : listAt h a = some (ws.map prD)) (eb : listAt h b = some (ws.map prD)) : gEq (.ref a) (.ref b) h = .val (.bl true) h ∧ gNe (.ref a) (.ref b) h = .val (.bl false) h := by
  have ev := SeqAt.eqv_refl _ (lay_prs ws)
  constructor
  · unfold gEq
    rw [if_neg (show ¬ (scalD (.ref a) (.ref b) = true) from Bool.false_ne_true), pd_prs (k := 14) ea, pd_prs (k := 14) eb]
    dsimp only
    rw [if_pos ⟨sh_prs ws, sh_prs ws⟩, ev]
  · unfold gNe
    rw [if_neg (show ¬ (scalD (.ref a) (.ref b) = true) from Bool.false_ne_true), pd_prs (k := 14) ea, pd_prs (k := 14) eb]
    dsimp only
    rw [if_pos ⟨sh_prs ws, sh_prs ws⟩, ev]
    rfl
/-- a level told twice -/
theorem same_told {h : DH} {a b : Nat} {c d : Int} {ws : List (Int × Int)} (ea : listAt h a = some (ws.map prD)) (eb : listAt h b = some (ws.map prD)) : gEq (.tup [.tup [.int c, .int d], .ref a]) (.tup [.tup [.int c, .int d], .ref b]) h = .val (.bl true) h := by
  have pp : ∀ {a : Nat}, listAt h a = some (ws.map prD) → pd h 16 (.tup [.tup [.int c, .int d], .ref a]) = some (.tuple [.tuple [.int c, .int d], .list (ws.map prP)]) := fun {a} ea => by
    show (match pd h 15 (.tup [.int c, .int d]), (match pd h 15 (.ref a), some ([] : List PyData) with | some p, some ps => some (p :: ps) | _, _ => none) with | some p, some ps => some (p :: ps) | _, _ => none).map PyData.tuple = _
    rw [pd_prs (k := 13) ea]
    rfl
  have cl : PyData.canLay0 (.tuple [.tuple [.int c, .int d], .list (ws.map prP)]) = true := by
    have := lay_prs ws
    simp [PyData.canLay0, PyData.canLayAll0] at this ⊢
    exact this
  have sh : SeqAt.shaped (.tuple [.tuple [.int c, .int d], .list (ws.map prP)]) = true := by
    unfold SeqAt.shaped
    rw [cl]
    have := (prs_lay ws).2
    simp [PyData.depth, PyData.depthAll]; omega
  have ev := SeqAt.eqv_refl _ cl
  unfold gEq
  rw [if_neg (show ¬ (scalD (.tup [.tup [.int c, .int d], .ref a]) (.tup [.tup [.int c, .int d], .ref b]) = true) from Bool.false_ne_true), pp ea, pp eb]
  dsimp only
  rw [if_pos ⟨sh, sh⟩, ev]
theorem listAt_set {h : DH} {k n : Nat} {o : DO} (ne : n ≠ k) : listAt (h.set k o) n = listAt h n := by
  unfold DL.listAt
  rw [List.getElem?_set_ne (Ne.symm ne)]
theorem same_ints {h : DH} {a b : Nat} {gs : List Int} (ea : listAt h a = some (gs.map D.int)) (eb : listAt h b = some (gs.map D.int)) : gNe (.ref a) (.ref b) h = .val (.bl false) h := by
  rw [ne_ints ea eb, SeqAt.eqv_refl _ (by rw [PyData.canLay0]; exact (ints_lay gs).1)]
  rfl
theorem rev_call {k : Nat} {i : Nat} {xs : List D} {ρ : DEnv} {h : DH} (hv : mVar i ρ h = .val (.ref k) h) (e : listAt h k = some xs) : mListRev (mVar i) ρ h = .val (.ref h.length) (h ++ [.lst xs.reverse]) := by
  unfold mListRev
  rw [hv]
  simp only [Out.bind_val]
  rw [e]
theorem listOf_call {k : Nat} {xs : List D} {h : DH} (e : listAt h k = some xs) : gListOf [.ref k] h = .val (.ref h.length) (h ++ [.lst xs]) := by
  unfold gListOf
  dsimp only
  rw [e]
theorem lt_of_at {h : DH} {n : Nat} {xs : List D} (e : listAt h n = some xs) : n < h.length := by
  unfold DL.listAt at e
  cases q : h[n]? with
  | none => rw [q] at e; cases e
  | some o => exact (List.getElem?_eq_some_iff.mp q).1
theorem lst_at {h : DH} {k : Nat} {xs : List D} (e : h[k]? = some (.lst xs)) : listAt h k = some xs := by
  unfold DL.listAt; rw [e]
theorem get_app {h j : DH} {k : Nat} {o : DO} (e : h[k]? = some o) : (h ++ j)[k]? = some o := by
  rw [List.getElem?_append_left (List.getElem?_eq_some_iff.mp e).1]; exact e
/-! ### one level alone -/
theorem sht_lt {c d c' d' g : Int} (hd : 1 ≤ d) (hd' : 1 ≤ d') (lt : c * d' < c' * d) : sht c d g * d' ≤ sht c' d' g * d ∧ (g * d ≤ c → sht c d g * d' < sht c' d' g * d) := by
  have e1 : (c - g * d) * d' = c * d' - g * d * d' := Int.sub_mul _ _ _
  have e2 : (c' - g * d') * d = c' * d - g * d * d' := by
    rw [Int.sub_mul, Int.mul_assoc g d' d, Int.mul_comm d' d, ← Int.mul_assoc]
  have key : (c - g * d) * d' < (c' - g * d') * d := by omega
  have pos : ∀ x : Int, 0 < x → 0 < x * d := fun x hx => Int.mul_pos hx (by omega)
  unfold sht
  by_cases h1 : 0 < c - g * d
  · have h2 : 0 < (c - g * d) * d' := Int.mul_pos h1 (by omega)
    have h3 : 0 < c' - g * d' := by
      by_cases z : 0 < c' - g * d'
      · exact z
      · exfalso
        have := Int.mul_nonpos_of_nonpos_of_nonneg (show c' - g * d' ≤ 0 by omega) (show 0 ≤ d by omega)
        omega
    rw [if_pos h1, if_pos h3]
    exact ⟨Int.le_of_lt key, fun _ => key⟩
  · rw [if_neg h1, Int.zero_mul]
    by_cases h3 : 0 < c' - g * d'
    · rw [if_pos h3]
      have := pos _ h3
      exact ⟨Int.le_of_lt this, fun _ => this⟩
    · rw [if_neg h3, Int.zero_mul]
      refine ⟨Int.le_refl _, fun z => ?_⟩
      exfalso
      have z0 : c - g * d = 0 := by omega
      rw [z0, Int.zero_mul] at key
      have := Int.mul_nonpos_of_nonpos_of_nonneg (show c' - g * d' ≤ 0 by omega) (show 0 ≤ d by omega)
      omega
theorem sum_lt {c d c' d' : Int} (hd : 1 ≤ d) (hd' : 1 ≤ d') (lt : c * d' < c' * d) : ∀ gs : List Int, (gs.map (sht c d)).sum * d' ≤ (gs.map (sht c' d')).sum * d ∧ ((∃ g ∈ gs, g * d ≤ c) → (gs.map (sht c d)).sum * d' < (gs.map (sht c' d')).sum * d)
  | [] => by simp
  | g :: gs => by
    obtain ⟨h1, h2⟩ := sum_lt hd hd' lt gs
    obtain ⟨k1, k2⟩ := sht_lt (g := g) hd hd' lt
    rw [List.map_cons, List.map_cons, List.sum_cons, List.sum_cons, Int.add_mul, Int.add_mul]
    refine ⟨by omega, ?_⟩
    rintro ⟨x, hx, hl⟩
    rcases List.mem_cons.mp hx with rfl | hx
    · have := k2 hl; omega
    · have := h2 ⟨x, hx, hl⟩; omega
theorem level_uniq {S q c d c' d' : Int} {gs : List Int} (h0 : gs ≠ []) (hq : 1 ≤ q) (hd : 1 ≤ d) (hd' : 1 ≤ d') (e : (gs.map (sht c d)).sum * q = S * d) (e' : (gs.map (sht c' d')).sum * q = S * d') (m : minI gs * d ≤ c) (m' : minI gs * d' ≤ c') : c * d' = c' * d := by
  obtain ⟨k1, _⟩ := minI_ok h0
  have one : ∀ {c d c' d' : Int}, 1 ≤ d → 1 ≤ d' → (gs.map (sht c d)).sum * q = S * d → (gs.map (sht c' d')).sum * q = S * d' → minI gs * d ≤ c → ¬ c * d' < c' * d := by
    intro c d c' d' hd hd' e e' m lt
    have h := (sum_lt hd hd' lt gs).2 ⟨_, k1, m⟩
    have h2 := Int.mul_lt_mul_of_pos_right h (show 0 < q by omega)
    have a1 : (gs.map (sht c d)).sum * d' * q = S * d * d' := by rw [Int.mul_assoc, Int.mul_comm d' q, ← Int.mul_assoc, e]
    have a2 : (gs.map (sht c' d')).sum * d * q = S * d * d' := by rw [Int.mul_assoc, Int.mul_comm d q, ← Int.mul_assoc, e', Int.mul_assoc, Int.mul_comm d' d, ← Int.mul_assoc]
    omega
  have n1 := one hd hd' e e' m
  have n2 := one hd' hd e' e m'
  omega
theorem lowest_eq (A : Ad) {t b : Int} (ht : 0 ≤ t) (hb : 1 ≤ b) (bb : Bd 2000 b) (h : DH) : f__law_lowest A [.int t, .int b] h = .val (.tup [.int (rtP t b), .int (rtQ t b)]) h := by
  have e3 := div_eq A t.natAbs b.natAbs h
  have ht2 : (t.natAbs : Int) = t := by omega
  have hb2 : (b.natAbs : Int) = b := by omega
  rw [ht2, hb2] at e3
  have sg : rtS t b = ((Nat.gcd t.natAbs b.natAbs : Nat) : Int) := by
    unfold rtS
    rw [if_neg (by omega), Nat.gcd_comm]
  have hs : rtS t b ≠ 0 := rtS_ne (by omega)
  have hz : (rtS t b).natAbs < 2 ^ 9000 := Nat.lt_of_le_of_lt (rtS_le (by omega)) (Nat.lt_of_lt_of_le bb (Nat.pow_le_pow_right (by decide) (by decide)))
  have e1 : gFdiv (.int t) (.int (rtS t b)) h = .val (.int (rtP t b)) h := r_fdivG hs hz
  have e2 : gFdiv (.int b) (.int (rtS t b)) h = .val (.int (rtQ t b)) h := r_fdivG hs hz
  rw [sg] at e1 e2
  unfold f__law_lowest m__law_lowest
  refine fin_step (ρ := [some (.int t), some (.int b), some (.int ((Nat.gcd t.natAbs b.natAbs : Nat) : Int))]) (h := h) ?_ ?_
  · exact asg_step (e_callT (e_cons rfl (e_cons rfl e_nil)) e3) rfl
  · exact congrArg SOut.fin (e_ret (e_tup2 (e_cons (e_opT rfl rfl e1) (e_cons (e_opT rfl rfl e2) e_nil))))
theorem dues_call (A : Ad) {c d : Int} {n : Nat} {gs : List Int} (hd : 1 ≤ d) (bd : Bd 400 d) (hl : gs.length ≤ 100) (bg : ∀ g ∈ gs, Bd 400 g) {h : DH} (e : listAt h n = some (gs.map D.int)) : ∃ j, f__law_dues A [.ref n, .tup [.int c, .int d]] h = .val (.ref h.length) (h ++ .lst ((gs.map (lkP c d)).map prD) :: j) := by
  obtain ⟨j1, ej⟩ := mLc_map (mi := iAny (mVar 0)) (c := .nm 2) (mt := mC true) (me := mCall (f__law_lowest A) (mCons (mCall gMax2 (mCons (mC (.int 0)) (mCons (mOp gSub (mOp gIx (mVar 1) (mC (.int 0))) (mOp gMul (mVar 2) (mOp gIx (mVar 1) (mC (.int 1))))) mNil))) (mCons (mOp gIx (mVar 1) (mC (.int 1))) mNil))) (vs := [2])
    (ρ := [some (.ref n), some (.tup [.int c, .int d]), none]) (h0 := h) (h := h) (it := fun h => listAt h n) (ds := gs.map D.int) (p := fun _ => true) (g := fun x => match x with | .int g => prD (lkP c d g) | x => x)
    (by simp [iAny, iSeqL, e]) e (fun acc j => listAt_app e) (small100 (by simpa using hl)) (by
      intro x hx
      obtain ⟨g, hg, rfl⟩ := List.mem_map.mp hx
      refine ⟨_, rfl, fun acc j => ⟨[], by simp, fun _ j => ⟨[], ?_⟩⟩⟩
      have mu : gMul (.int g) (.int d) (h ++ .lst acc :: j) = .val (.int (g * d)) (h ++ .lst acc :: j) := r_mulB (bg g hg) bd
      have mx : gMax2 [.int 0, .int (c - g * d)] (h ++ .lst acc :: j) = .val (.int (sht c d g)) (h ++ .lst acc :: j) := by rw [r_max2]; rfl
      have le := lowest_eq A (sht_nn c d g) hd (bd.mono (by decide)) (h ++ .lst acc :: j)
      rw [List.append_nil]
      exact e_callT (e_cons (e_callT (e_cons rfl (e_cons (e_opT (e_opT rfl rfl r_ix0) (e_opT rfl (e_opT rfl rfl r_ix1) mu) rfl) e_nil)) mx) (e_cons (e_opT rfl rfl r_ix1) e_nil)) le)
  have eg : ((gs.map D.int).filter (fun _ => true)).map (fun x => match x with | .int g => prD (lkP c d g) | x => x) = (gs.map (lkP c d)).map prD := by
    simp [filter_true, Function.comp_def]
  rw [eg] at ej
  refine ⟨j1, ?_⟩
  unfold f__law_dues m__law_dues
  exact congrArg SOut.fin (e_ret ej)
def tops2 : List Int := [21, 10 ^ 6, 10 ^ 18]
theorem rtP_nn {t b : Int} (ht : 0 ≤ t) (hb : 1 ≤ b) : 0 ≤ rtP t b := by
  have h1 := rtP_mul t b
  have sg : rtS t b = ((Nat.gcd b.natAbs t.natAbs : Nat) : Int) := by
    unfold rtS
    rw [if_neg (by omega)]
  rw [sg] at h1
  by_cases z : 0 ≤ rtP t b
  · exact z
  · exfalso
    have g0 : (0 : Int) < ((Nat.gcd b.natAbs t.natAbs : Nat) : Int) := by
      have := Nat.gcd_pos_of_pos_left t.natAbs (show 0 < b.natAbs by omega)
      omega
    have := Int.mul_neg_of_neg_of_pos (show rtP t b < 0 by omega) g0
    omega
theorem high_eq (A : Ad) (ns : List Int) (h : DH) (l0 : listAt h 0 = some (ns.map D.int)) : ∃ j c d, 0 ≤ c ∧ 1 ≤ d ∧ Nat.gcd c.natAbs d.natAbs = 1 ∧ c.natAbs ≤ 2 ^ 90 ∧ d.natAbs ≤ 2 ^ 90 ∧ f__law_high A [.ref 0] h = .val (.tup [.int c, .int d]) (h ++ j) := by
  obtain ⟨u, eu⟩ := cell_eq A ns h l0 0
  let h1 : DH := h ++ [.lst (tops2.map D.int)]
  obtain ⟨v, ev⟩ := cell_eq A ns h1 (listAt_app l0) 1
  let h2 : DH := h1 ++ [.lst (bots.map D.int)]
  obtain ⟨T, hT, iT⟩ := pick (u := u) (h := h1) (n := h.length) (xs := tops2) listAt_end (show (0 : Int) < 3 by decide) rfl
  obtain ⟨B, hB, iB⟩ := pick (u := v) (h := h2) (n := h1.length) (xs := bots) listAt_end (show (0 : Int) < 3 by decide) rfl
  have T1 : 1 ≤ T ∧ T ≤ 10 ^ 18 := by
    have : ∀ t ∈ tops2, 1 ≤ t ∧ t ≤ 10 ^ 18 := by decide +kernel
    exact this T hT
  have B1 : 1 ≤ B ∧ B ≤ 10 ^ 9 := by
    have : ∀ t ∈ bots, 1 ≤ t ∧ t ≤ 10 ^ 9 := by decide +kernel
    exact this B hB
  let t := u / 3 % T
  let b := 1 + v / 3 % B
  have t0 : 0 ≤ t := Int.emod_nonneg _ (by omega)
  have t1 : t < T := Int.emod_lt_of_pos _ (by omega)
  have b0 : 0 ≤ v / 3 % B := Int.emod_nonneg _ (by omega)
  have b1 : v / 3 % B < B := Int.emod_lt_of_pos _ (by omega)
  have hb : 1 ≤ b := by show 1 ≤ 1 + v / 3 % B; omega
  have rl := rt_le (t := t) (show b ≠ 0 by omega)
  have bn : b.natAbs ≤ 2 ^ 90 := by
    have : b ≤ 10 ^ 9 := by show 1 + v / 3 % B ≤ _; omega
    exact Nat.le_trans (show b.natAbs ≤ 10 ^ 9 by omega) (by decide)
  have tn : t.natAbs ≤ 2 ^ 90 := Nat.le_trans (show t.natAbs ≤ 10 ^ 18 by omega) (by decide)
  have le := lowest_eq A t0 hb (bd400s bn (by decide) |>.mono (by decide)) h2
  have eu' : f__law_cell_at A [.ref 0, .int 0] h = .val (.int u) h := eu
  have ev' : f__law_cell_at A [.ref 0, .int 1] h1 = .val (.int v) h1 := ev
  refine ⟨[.lst (tops2.map D.int), .lst (bots.map D.int)], rtP t b, rtQ t b, rtP_nn t0 hb, rtQ_pos (by omega), rt_cop (by omega), Nat.le_trans rl.1 tn, Nat.le_trans rl.2 bn, ?_⟩
  have hh : h ++ [.lst (tops2.map D.int), .lst (bots.map D.int)] = h2 := by simp [h2, h1]
  rw [hh]
  unfold f__law_high m__law_high
  have n0 : startD N__law_high [.ref 0] = [some (.ref 0), none, none, none] := rfl
  rw [n0]
  refine fin_step (ρ := [some (.ref 0), some (.int u), none, none]) (h := h) ?_ ?_
  · exact asg_step (e_callT (e_cons rfl (e_cons rfl e_nil)) eu') rfl
  refine fin_step (ρ := [some (.ref 0), some (.int u), some (.int t), none]) (h := h1) ?_ ?_
  · exact asg_step (e_opT (e_opT rfl rfl (fd_small (by decide) (by decide) h)) (e_opT (e_lst (xs := tops2.map D.int) (e_cons rfl (e_cons (e_opT rfl rfl (ten_pow 6 (by decide) h)) (e_cons (e_opT rfl rfl (ten_pow 18 (by decide) h)) e_nil))) (by decide)) (e_opT rfl rfl (r_mod (by decide))) iT) (r_mod (by omega))) rfl
  refine fin_step (ρ := [some (.ref 0), some (.int u), some (.int t), some (.int v)]) (h := h1) ?_ ?_
  · exact asg_step (e_callT (e_cons rfl (e_cons rfl e_nil)) ev') rfl
  · exact congrArg SOut.fin (e_ret (e_callT (e_cons rfl (e_cons (e_opT rfl (e_opT (e_opT rfl rfl (fd_small (by decide) (by decide) h1)) (e_opT (e_lst (xs := bots.map D.int) (e_cons rfl (e_cons rfl (e_cons (e_opT rfl rfl (ten_pow 9 (by decide) h1)) e_nil))) (by decide)) (e_opT rfl rfl (r_mod (by decide))) iB) (r_mod (by omega))) rfl) e_nil)) le))
theorem gifts_eq (A : Ad) {c d : Int} (hc : 0 ≤ c) (hd : 1 ≤ d) (bc : c.natAbs ≤ 2 ^ 90) (bd : d.natAbs ≤ 2 ^ 90) {n : Nat} {cs : List Int} (hl : cs.length ≤ 60) {h : DH} (e : listAt h n = some (cs.map D.int)) : ∃ (j : DH) (gs : List Int), (∀ g ∈ gs, 0 ≤ g ∧ g.natAbs ≤ 2 ^ 91) ∧ gs.length = cs.length ∧ f__law_gifts A [.ref n, .tup [.int c, .int d]] h = .val (.ref h.length) (h ++ .lst (gs.map D.int) :: j) := by
  have key : (fun r : Out D => ∃ (j : DH) (gs : List Int), (∀ g ∈ gs, 0 ≤ g ∧ g.natAbs ≤ 2 ^ 91) ∧ gs.length = cs.length ∧ r = .val (.ref h.length) (h ++ .lst (gs.map D.int) :: j)) (f__law_gifts A [.ref n, .tup [.int c, .int d]] h) := by
    unfold f__law_gifts m__law_gifts
    have n0 : startD N__law_gifts [.ref n, .tup [.int c, .int d]] = [some (.ref n), some (.tup [.int c, .int d]), none, none, none] := rfl
    rw [n0]
    have s1 : sAsg (mLst mNil) (gSet 2) [some (.ref n), some (.tup [.int c, .int d]), none, none, none] h = .nx [some (.ref n), some (.tup [.int c, .int d]), some (.ref h.length), none, none] (h ++ [.lst []]) := by simp
    rw [r_sSeq, s1, SOut.thn_nx, r_sSeq]
    refine for_end (P := fun r : Out D => ∃ (j : DH) (gs : List Int), (∀ g ∈ gs, 0 ≤ g ∧ g.natAbs ≤ 2 ^ 91) ∧ gs.length = cs.length ∧ r = .val (.ref h.length) (h ++ .lst (gs.map D.int) :: j)) (it := fun h' => listAt h' n) (all := cs.map D.int) (h1 := h ++ [.lst []])
      (fun i ρ h' => ∃ j gs o2 o3, h' = h ++ DO.lst (gs.map D.int) :: j ∧ (∀ g ∈ gs, (0 : Int) ≤ g ∧ g.natAbs ≤ 2 ^ 91) ∧ gs.length = i ∧ ρ = [some (.ref n), some (.tup [.int c, .int d]), some (.ref h.length), o2, o3]) (fun _ => False) ?_ (listAt_app e) ?_ ?_ ⟨[], [], none, none, rfl, by simp, rfl, rfl⟩ ?_ (fun _ z => z.elim)
    · simp [iAny, iSeqL, listAt_app e]
    · rintro i ρ h' ⟨j, gs, o2, o3, rfl, _⟩; exact listAt_app e
    · rintro i x ρ h' hx ⟨j, gs, o2, o3, rfl, hg, hlen, rfl⟩
      rw [List.getElem?_map, Option.map_eq_some_iff] at hx
      obtain ⟨u, hu, rfl⟩ := hx
      have hi := (List.getElem?_eq_some_iff.mp hu).1
      let ha : DH := h ++ DO.lst (gs.map D.int) :: j
      let near : Int := if c / d - 1 + u / 4 % 3 > 0 then c / d - 1 + u / 4 % 3 else 0
      let some4 : List Int := [u / 4 % 5, u / 4 % 1000, u / 4 % 10 ^ 18, near]
      let hb : DH := ha ++ [.lst (some4.map D.int)]
      obtain ⟨g, hT, iT⟩ := pick (u := u) (h := hb) (n := ha.length) (xs := some4) listAt_end (show (0 : Int) < 4 by decide) rfl
      have q0 : 0 ≤ c / d := Int.ediv_nonneg hc (by omega)
      have q1 : c / d ≤ c := Int.ediv_le_self _ hc
      have B91 : (2 : Nat) ^ 91 = 2 ^ 90 + 2 ^ 90 := by decide
      have B18 : 10 ^ 18 ≤ (2 : Nat) ^ 90 := by decide
      have all : ∀ x ∈ some4, 0 ≤ x ∧ x.natAbs ≤ 2 ^ 91 := by
        intro x hx
        simp only [some4, List.mem_cons, List.not_mem_nil, or_false] at hx
        have c1 : (c.natAbs : Int) = c := by omega
        generalize hB : (2 : Nat) ^ 90 = B at *
        rw [B91]
        have hB2 : 10 ^ 18 ≤ B := B18
        rcases hx with rfl | rfl | rfl | rfl
        · omega
        · omega
        · omega
        · show 0 ≤ (if c / d - 1 + u / 4 % 3 > 0 then c / d - 1 + u / 4 % 3 else 0) ∧ (if c / d - 1 + u / 4 % 3 > 0 then c / d - 1 + u / 4 % 3 else 0).natAbs ≤ B + B
          split <;> omega
      obtain ⟨g0, g1⟩ := all g hT
      have fcd : gFdiv (.int c) (.int d) ha = .val (.int (c / d)) ha := r_fdiv (by omega) (Nat.lt_of_le_of_lt bd (Nat.pow_lt_pow_right (by decide) (by decide)))
      have u4 : ∀ ρ' : DEnv, mVar 3 ρ' ha = .val (.int u) ha → mOp gFdiv (mVar 3) (mC (.int 4)) ρ' ha = .val (.int (u / 4)) ha := fun ρ' hv => e_opT hv rfl (fd_small (by decide) (by decide) ha)
      have mx : gMax2 [.int 0, .int (c / d - 1 + u / 4 % 3)] ha = .val (.int near) ha := r_max2
      have st1 : sAsg (mCall gMax2 (mCons (mC (.int 0)) (mCons (mOp gAdd (mOp gSub (mOp gFdiv (mOp gIx (mVar 1) (mC (.int 0))) (mOp gIx (mVar 1) (mC (.int 1)))) (mC (.int 1))) (mOp gMod (mOp gFdiv (mVar 3) (mC (.int 4))) (mC (.int 3)))) mNil))) (gSet 4) [some (.ref n), some (.tup [.int c, .int d]), some (.ref h.length), some (.int u), o3] ha = .nx [some (.ref n), some (.tup [.int c, .int d]), some (.ref h.length), some (.int u), some (.int near)] ha :=
        asg_step (e_callT (e_cons rfl (e_cons (e_opT (e_opT (e_opT (e_opT rfl rfl r_ix0) (e_opT rfl rfl r_ix1) fcd) rfl rfl) (e_opT (u4 _ rfl) rfl (r_mod (by decide))) rfl) e_nil)) mx) rfl
      have ll : mLst (mCons (mOp gMod (mOp gFdiv (mVar 3) (mC (.int 4))) (mC (.int 5))) (mCons (mOp gMod (mOp gFdiv (mVar 3) (mC (.int 4))) (mC (.int 1000))) (mCons (mOp gMod (mOp gFdiv (mVar 3) (mC (.int 4))) (mOp gPow (mC (.int 10)) (mC (.int 18)))) (mCons (mVar 4) mNil)))) [some (.ref n), some (.tup [.int c, .int d]), some (.ref h.length), some (.int u), some (.int near)] ha = .val (.ref ha.length) hb :=
        e_lst (xs := some4.map D.int) (e_cons (e_opT (u4 _ rfl) rfl (r_mod (by decide))) (e_cons (e_opT (u4 _ rfl) rfl (r_mod (by decide))) (e_cons (e_opT (u4 _ rfl) (e_opT rfl rfl (ten_pow 18 (by decide) ha)) (r_mod (by decide))) (e_cons rfl e_nil)))) (show 4 ≤ 100 by decide)
      have arg : mCons (mOp gIx (mLst (mCons (mOp gMod (mOp gFdiv (mVar 3) (mC (.int 4))) (mC (.int 5))) (mCons (mOp gMod (mOp gFdiv (mVar 3) (mC (.int 4))) (mC (.int 1000))) (mCons (mOp gMod (mOp gFdiv (mVar 3) (mC (.int 4))) (mOp gPow (mC (.int 10)) (mC (.int 18)))) (mCons (mVar 4) mNil))))) (mOp gMod (mVar 3) (mC (.int 4)))) mNil [some (.ref n), some (.tup [.int c, .int d]), some (.ref h.length), some (.int u), some (.int near)] ha = .val [.int g] hb :=
        e_cons (e_opT ll (e_opT rfl rfl (r_mod (by decide))) iT) e_nil
      have hbk : hb = h ++ DO.lst (gs.map D.int) :: (j ++ [.lst (some4.map D.int)]) := by simp [hb, ha]
      have ap : gAppend (.ref h.length) [.int g] hb = .val .non (h ++ DO.lst ((gs ++ [g]).map D.int) :: (j ++ [.lst (some4.map D.int)])) := by
        rw [hbk]
        unfold gAppend
        dsimp only
        rw [get_mid]
        dsimp only
        rw [if_pos (small100 (by rw [List.length_map]; omega)), set_mid]
        simp
      have gm : ha[h.length]? = some (.lst (gs.map D.int)) := get_mid
      refine ⟨[some (.ref n), some (.tup [.int c, .int d]), some (.ref h.length), some (.int u), o3], ha, rfl, .inl ⟨[some (.ref n), some (.tup [.int c, .int d]), some (.ref h.length), some (.int u), some (.int near)], h ++ DO.lst ((gs ++ [g]).map D.int) :: (j ++ [.lst (some4.map D.int)]), .inl (nx_step st1 ?_), _, gs ++ [g], _, _, rfl, ?_, by simp [hlen], rfl⟩⟩
      · unfold sExpr mBM
        rw [show mVar 2 [some (.ref n), some (.tup [.int c, .int d]), some (.ref h.length), some (.int u), some (.int near)] ha = .val (.ref h.length) ha from rfl]
        simp only [Out.bind_val]
        rw [gm]
        simp only [arg, Out.bind_val, ap]
        rfl
      · intro x hx
        rcases List.mem_append.mp hx with hx | hx
        · exact hg x hx
        · rw [List.mem_singleton] at hx; subst hx; exact ⟨g0, g1⟩
    · rintro ρ' h' ⟨j, gs, o2, o3, rfl, hg, hlen, rfl⟩
      rw [List.length_map] at hlen
      exact ⟨j, gs, hg, hlen, rfl⟩
  obtain ⟨j, gs, a, b, c⟩ := key
  exact ⟨j, gs, a, b, c⟩
/-- a level that is known is found -/
theorem known {P Q c d c' d' : Int} {gs : List Int} (L : Lev P Q gs c' d') (h0 : gs ≠ []) (hP : 0 ≤ P) (hQ : 1 ≤ Q) (hd : 1 ≤ d) (g : Nat.gcd c.natAbs d.natAbs = 1) (e : (gs.map (sht c d)).sum * Q = P * d) (m : minI gs * d ≤ c) : c' = c ∧ d' = d := by
  obtain ⟨d1, cop, F1, F2, _⟩ := L.facts h0 hP hQ
  have u := level_uniq h0 hQ d1 hd F1 e F2 m
  exact low_eq d1 hd cop g u
theorem sum_nn {c d : Int} : ∀ gs : List Int, 0 ≤ (gs.map (sht c d)).sum
  | [] => by simp
  | g :: gs => by
    have := sum_nn (c := c) (d := d) gs
    have := sht_nn c d g
    rw [List.map_cons, List.sum_cons]; omega
/-- half of the amount leads no higher -/
theorem half_le {P Q S c d c' d' : Int} {gs : List Int} (L : Lev P Q gs c' d') (h0 : gs ≠ []) (hP : 0 ≤ P) (hQ : 1 ≤ Q) (hd : 1 ≤ d) (e : (gs.map (sht c d)).sum = S) (hPQ : P * (2 * d) = S * Q) (m : minI gs * d ≤ c) : ¬ c * d' < c' * d := by
  obtain ⟨d1, cop, F1, F2, _⟩ := L.facts h0 hP hQ
  intro lt
  obtain ⟨k1, _⟩ := minI_ok h0
  have h := (sum_lt hd d1 lt gs).2 ⟨_, k1, m⟩
  have s0 : 0 ≤ S := by rw [← e]; exact sum_nn gs
  rw [e] at h
  have h2 := Int.mul_lt_mul_of_pos_right h (show 0 < 2 * Q by omega)
  have a2 : (gs.map (sht c' d')).sum * d * (2 * Q) = S * Q * d' := by
    have : (gs.map (sht c' d')).sum * d * (2 * Q) = ((gs.map (sht c' d')).sum * Q) * (2 * d) := by
      rw [Int.mul_assoc, Int.mul_assoc, Int.mul_left_comm d 2 Q, Int.mul_comm d Q, Int.mul_left_comm 2 Q d]
    rw [this, F1, Int.mul_assoc, Int.mul_comm d' (2 * d), ← Int.mul_assoc, hPQ]
  have a1 : S * d' * (2 * Q) = S * Q * d' + S * Q * d' := by
    have : S * d' * (2 * Q) = 2 * (S * Q * d') := by
      rw [Int.mul_assoc, Int.mul_left_comm d' 2 Q, Int.mul_left_comm S 2, Int.mul_comm d' Q, ← Int.mul_assoc S Q d']
    omega
  have nn : 0 ≤ S * Q * d' := Int.mul_nonneg (Int.mul_nonneg s0 (by omega)) (by omega)
  omega
theorem nx_ret {a : SOut} {n : SM} {d : D} {h : DH} (e : a = .ret d h) : a.thn n = .ret d h := by rw [e]; rfl
theorem flat_rep (x : D) : ∀ n : Nat, (List.replicate n [x]).flatten = List.replicate n x
  | 0 => rfl
  | n + 1 => by rw [List.replicate_succ, List.replicate_succ, List.flatten_cons, flat_rep x n]; rfl
theorem lk_one {c d g : Int} (hd : 1 ≤ d) (h : (lkP c d g).2 = 1) : (g + (lkP c d g).1) * d = g * d + sht c d g := by
  have h1 := rt_cross (sht c d g) d
  unfold lkP at h ⊢
  dsimp only at h ⊢
  rw [h, Int.mul_one] at h1
  rw [Int.add_mul, h1]
theorem refilled_eq (A : Ad) {c d : Int} {n k : Nat} {gs : List Int} (h0 : gs ≠ []) (hl : gs.length ≤ 60) (hd : 1 ≤ d) (cop : Nat.gcd c.natAbs d.natAbs = 1) (m : minI gs * d ≤ c) (bg : ∀ g ∈ gs, 0 ≤ g ∧ g.natAbs ≤ 2 ^ 91) (bc : c.natAbs ≤ 2 ^ 92) {h : DH} (hc : 0 ≤ c)
    (en : listAt h n = some (gs.map D.int)) (ek : listAt h k = some ((gs.map (lkP c d)).map prD)) : ∃ h', f__law_refilled A [.ref n, .ref k, .tup [.int c, .int d]] h = .val (.bl true) h' := by
  have key : (fun r : Out D => ∃ h', r = .val (.bl true) h') (f__law_refilled A [.ref n, .ref k, .tup [.int c, .int d]] h) := by
    unfold f__law_refilled m__law_refilled
    have n0 : startD N__law_refilled [.ref n, .ref k, .tup [.int c, .int d]] = [some (.ref n), some (.ref k), some (.tup [.int c, .int d]), none, none, none] := rfl
    rw [n0]
    have s1 : sAsg (mLst mNil) (gSet 3) [some (.ref n), some (.ref k), some (.tup [.int c, .int d]), none, none, none] h = .nx [some (.ref n), some (.ref k), some (.tup [.int c, .int d]), some (.ref h.length), none, none] (h ++ [.lst []]) := by simp
    rw [r_sSeq, s1, SOut.thn_nx, r_sSeq]
    let all : List D := ((gs.map D.int).zip ((gs.map (lkP c d)).map prD)).map fun x => .tup [x.1, x.2]
    have hal : all.length = gs.length := by simp [all]
    have hall : ∀ (i : Nat) (x : D), all[i]? = some x → ∃ g, gs[i]? = some g ∧ x = D.tup [.int g, prD (lkP c d g)] := by
      intro i x hx
      rw [List.getElem?_map, Option.map_eq_some_iff] at hx
      obtain ⟨⟨u, v⟩, hz, rfl⟩ := hx
      rw [List.getElem?_zip_eq_some, List.getElem?_map, List.map_map, List.getElem?_map, Option.map_eq_some_iff, Option.map_eq_some_iff] at hz
      obtain ⟨⟨g, h1, rfl⟩, g', h2, rfl⟩ := hz
      rw [h1] at h2; cases h2
      exact ⟨g, h1, rfl⟩
    let fl : Int → Int := fun g => g + (lkP c d g).1
    refine for_end (P := fun r : Out D => ∃ h', r = .val (.bl true) h') (it := zipD (fun h => listAt h n) (fun h => listAt h k)) (all := all) (h1 := h ++ [.lst []])
      (fun i ρ h' => h' = h ++ [DO.lst (((gs.take i).map fl).map D.int)] ∧ (∀ g ∈ gs.take i, (lkP c d g).2 = 1) ∧ ∃ o1 o2, ρ = [some (.ref n), some (.ref k), some (.tup [.int c, .int d]), some (.ref h.length), o1, o2]) (fun o => ∃ h', o = .ret (.bl true) h') ?_ ?_ ?_ ?_ ⟨by simp, by simp, none, none, rfl⟩ ?_ ?_
    · simp [iZipD, seqD, listAt_app en, listAt_app ek]
    · unfold zipD; dsimp only; rw [listAt_app en, listAt_app ek]
    · rintro i ρ h' ⟨rfl, _⟩; unfold zipD; dsimp only; rw [listAt_app en, listAt_app ek]
    · rintro i x ρ h' hx ⟨rfl, h1, o1, o2, rfl⟩
      obtain ⟨g, hg, rfl⟩ := hall i x hx
      have hgm := List.mem_of_getElem? hg
      have ht : gs.take (i + 1) = gs.take i ++ [g] := by rw [List.take_succ, hg]; rfl
      let H : DH := h ++ [DO.lst (((gs.take i).map fl).map D.int)]
      refine ⟨[some (.ref n), some (.ref k), some (.tup [.int c, .int d]), some (.ref h.length), some (.int g), some (prD (lkP c d g))], H, by simp [gTupD, gsCons, gsNil, H], ?_⟩
      have tst : mB (mOp gNe (mOp gIx (mVar 5) (mC (.int 1))) (mC (.int 1))) [some (.ref n), some (.ref k), some (.tup [.int c, .int d]), some (.ref h.length), some (.int g), some (prD (lkP c d g))] H = .val (!((lkP c d g).2 == 1)) H := e_B (e_opT (e_opT rfl rfl r_ix1) rfl rfl)
      by_cases h2 : (lkP c d g).2 = 1
      · refine .inl ⟨[some (.ref n), some (.ref k), some (.tup [.int c, .int d]), some (.ref h.length), some (.int g), some (prD (lkP c d g))], h ++ [DO.lst (((gs.take (i + 1)).map fl).map D.int)], .inl ?_, rfl, ?_, _, _, rfl⟩
        · refine nx_step (ρ := [some (.ref n), some (.ref k), some (.tup [.int c, .int d]), some (.ref h.length), some (.int g), some (prD (lkP c d g))]) (h := H) (if_step (b := false) (tst.trans (by rw [h2]; rfl)) rfl) ?_
          have ap : gAppend (.ref h.length) [.int (fl g)] H = .val .non (h ++ [DO.lst (((gs.take (i + 1)).map fl).map D.int)]) := by
            unfold gAppend
            dsimp only
            rw [show H[h.length]? = some (.lst (((gs.take i).map fl).map D.int)) from get_mid]
            dsimp only
            rw [if_pos (small100 (by rw [List.length_map, List.length_map, List.length_take]; omega)), show H.set h.length (.lst (((gs.take i).map fl).map D.int ++ [.int (fl g)])) = h ++ [.lst (((gs.take i).map fl).map D.int ++ [.int (fl g)])] from set_mid, ht]
            simp
          have arg : mCons (mOp gAdd (mVar 4) (mOp gIx (mVar 5) (mC (.int 0)))) mNil [some (.ref n), some (.ref k), some (.tup [.int c, .int d]), some (.ref h.length), some (.int g), some (prD (lkP c d g))] H = .val [.int (fl g)] H := e_cons (e_opT rfl (e_opT rfl rfl r_ix0) rfl) e_nil
          unfold sExpr mBM
          rw [show mVar 3 [some (.ref n), some (.ref k), some (.tup [.int c, .int d]), some (.ref h.length), some (.int g), some (prD (lkP c d g))] H = .val (.ref h.length) H from rfl]
          simp only [Out.bind_val]
          rw [show H[h.length]? = some (.lst (((gs.take i).map fl).map D.int)) from get_mid]
          simp only [arg, Out.bind_val, ap]
          rfl
        · rw [ht]
          intro x hx
          rcases List.mem_append.mp hx with hx | hx
          · exact h1 x hx
          · rw [List.mem_singleton] at hx; subst hx; exact h2
      · refine .inr (.inr (.inl ⟨.bl true, H, nx_ret (if_step (b := true) (h' := H) (tst.trans ?_) ?_), _, rfl⟩))
        · rw [beq_eq_false_iff_ne.mpr h2]; rfl
        · rfl
    · rintro ρ' h' ⟨rfl, h1, o1, o2, rfl⟩
      rw [hal, List.take_of_length_le (Nat.le_refl _)] at h1 ⊢
      let F : List Int := gs.map fl
      have fd : ∀ g ∈ gs, fl g * d = g * d + sht c d g := fun g hg => lk_one hd (h1 g hg)
      have F0 : F ≠ [] := by simpa [F] using h0
      have sh0 : ∀ f ∈ F, ¬ f * d < c := by
        intro f hf
        obtain ⟨g, hg, rfl⟩ := List.mem_map.mp hf
        rw [fd g hg]
        unfold sht
        split <;> omega
      have sum0 : ∀ l : List Int, (∀ f ∈ l, ¬ f * d < c) → (l.map (sht c d)).sum = 0 := by
        intro l
        induction l with
        | nil => intro _; simp
        | cons f l ih =>
          intro hh
          have h2 := hh f List.mem_cons_self
          have h3 : sht c d f = 0 := by unfold sht; rw [if_neg (by omega)]
          rw [List.map_cons, List.sum_cons, h3, ih fun x hx => hh x (List.mem_cons_of_mem _ hx)]; rfl
      obtain ⟨k1, k2⟩ := minI_ok h0
      obtain ⟨f1, f2⟩ := minI_ok F0
      have mF : minI F * d ≤ c := by
        have hm : fl (minI gs) ∈ F := List.mem_map.mpr ⟨_, k1, rfl⟩
        have := Int.mul_le_mul_of_nonneg_right (f2 _ hm) (show 0 ≤ d by omega)
        rw [fd _ k1] at this
        unfold sht at this
        split at this <;> omega
      have B : ∀ f ∈ F, f.natAbs ≤ 2 ^ 100 := by
        intro f hf
        obtain ⟨g, hg, rfl⟩ := List.mem_map.mp hf
        have hb := bg g hg
        have e3 : (lkP c d g).1.natAbs ≤ (sht c d g).natAbs := (rt_le (by omega)).1
        have e4 : (sht c d g).natAbs ≤ c.natAbs := by
          have := Int.mul_nonneg hb.1 (show 0 ≤ d by omega)
          unfold sht
          split <;> omega
        have e5 := Int.natAbs_add_le g (lkP c d g).1
        have e6 : (2 : Nat) ^ 91 + 2 ^ 92 ≤ 2 ^ 100 := by decide
        show (g + (lkP c d g).1).natAbs ≤ _
        omega
      let H : DH := h ++ [DO.lst (F.map D.int)]
      obtain ⟨c', d', j, k', L, e4, q4, d1, _, _, _⟩ := level_eq A (p := 0) (q := 1) (n := h.length) (h := H) (Int.le_refl 0) (Int.le_refl 1) (by decide) (by decide) B F0 (by simpa [F] using hl) listAt_end
      obtain ⟨rfl, rfl⟩ := known L F0 (Int.le_refl 0) (Int.le_refl 1) hd cop (by rw [sum0 F sh0]; simp) mF
      have du : F.map (lackD c' d') = (List.replicate gs.length ((0 : Int), (1 : Int))).map prD := by
        have : ∀ l : List Int, (∀ f ∈ l, ¬ f * d' < c') → l.map (lackD c' d') = (List.replicate l.length ((0 : Int), (1 : Int))).map prD := by
          intro l
          induction l with
          | nil => intro _; rfl
          | cons f l ih =>
            intro hh
            rw [List.map_cons, ih fun x hx => hh x (List.mem_cons_of_mem _ hx), List.length_cons, List.replicate_succ, List.map_cons]
            congr 1
            exact if_neg (hh f List.mem_cons_self)
        rw [this F sh0]
        simp [F]
      rw [du] at q4
      let H1 : DH := H ++ j
      let H2 : DH := H1 ++ [.lst [prD (0, 1)]]
      let H3 : DH := H2 ++ [.lst ((List.replicate gs.length ((0 : Int), (1 : Int))).map prD)]
      have rp : gRep (.ref H1.length) (.int (gs.length : Int)) H2 = .val (.ref H2.length) H3 := by
        unfold gRep
        dsimp only
        rw [show H2[H1.length]? = some (.lst [prD (0, 1)]) from get_mid]
        dsimp only
        rw [if_pos ⟨by omega, by omega, Nat.le_of_lt (small100 (by simp; omega))⟩, Int.toNat_natCast, flat_rep]
        simp [H3]
      have st := same_told (h := H3) (a := k') (b := H2.length) (c := c') (d := d') (ws := List.replicate gs.length ((0 : Int), (1 : Int))) (listAt_app (listAt_app (lst_at q4))) listAt_end
      have tl : mLst (mCons (mTup (mCons (mC (.int 0)) (mCons (mC (.int 1)) mNil))) mNil) [some (.ref n), some (.ref k), some (.tup [.int c', .int d']), some (.ref h.length), o1, o2] H1 = .val (.ref H1.length) H2 := e_lst (xs := [prD (0, 1)]) (e_cons (e_tup2 (e_cons rfl (e_cons rfl e_nil))) e_nil) (by decide)
      refine ⟨H3, congrArg SOut.fin (e_ret (e_opT (e_callT (e_cons (e_tup2 (e_cons rfl (e_cons rfl e_nil))) (e_cons rfl e_nil)) e4) (e_tup2 (e_cons rfl (e_cons (e_opT tl (e_callT (e_cons rfl e_nil) (r_len_lst (k := n) (xs := gs.map D.int) (listAt_app (listAt_app (listAt_app en))))) ?_) e_nil))) st))⟩
      rw [List.length_map]
      exact rp
    · rintro o ⟨h', rfl⟩
      exact ⟨h', rfl⟩
  exact key
theorem same_toldN {h : DH} {a b : Nat} {c d : Int} {ws : List (Int × Int)} (ea : listAt h a = some (ws.map prD)) (eb : listAt h b = some (ws.map prD)) : gNe (.tup [.tup [.int c, .int d], .ref a]) (.tup [.tup [.int c, .int d], .ref b]) h = .val (.bl false) h := by
  have q := same_told (c := c) (d := d) ea eb
  unfold gEq at q
  unfold gNe
  rw [if_neg (show ¬ (scalD (.tup [.tup [.int c, .int d], .ref a]) (.tup [.tup [.int c, .int d], .ref b]) = true) from Bool.false_ne_true)] at q ⊢
  split at q
  · split at q
    · rename_i hs
      rw [if_pos hs]
      injection q with q1 q2
      injection q1 with q3
      rw [q3]; rfl
    · cases q
  · cases q
theorem cat_call {a b : Nat} {xs ys : List D} {h : DH} (ea : h[a]? = some (.lst xs)) (eb : h[b]? = some (.lst ys)) (hz : xs.length + ys.length ≤ 100) : gAdd (.ref a) (.ref b) h = .val (.ref h.length) (h ++ [.lst (xs ++ ys)]) := by
  unfold gAdd
  dsimp only
  rw [ea, eb]
  dsimp only
  rw [if_pos (Nat.le_of_lt (small100 hz))]
theorem cut_lo {α : Type} (f : α → D) (xs : List α) (k : Nat) (hk : k ≤ xs.length) : DL.cutD (xs.map f) none (some (k : Int)) = (xs.take k).map f := by
  unfold DL.cutD
  rw [HT.sIx_none, HT.sIx_nat, List.length_map, Nat.min_eq_left hk]
  simp [List.map_take]
theorem cut_hi {α : Type} (f : α → D) (xs : List α) (k : Nat) (hk : k ≤ xs.length) : DL.cutD (xs.map f) (some (k : Int)) none = (xs.drop k).map f := by
  unfold DL.cutD
  rw [HT.sIx_none, HT.sIx_nat, List.length_map, Nat.min_eq_left hk, List.map_drop]
  exact List.take_of_length_le (by simp)
theorem sum_call {c d : Int} {n k : Nat} {gs : List Int} {ρ : DEnv} {h : DH} (hr : ρ = [some (.ref 0), some (.tup [.int c, .int d]), some (.ref n), none, none, none, none, none, none, none, none]) (bd : Bd 400 d) (bg : ∀ g ∈ gs, Bd 400 g) (hl : gs.length ≤ 100) (e : listAt h n = some (gs.map D.int)) :
    ∃ j, mCall gSumL (mCons (mLc (iAny (mVar 2)) (.nm 10) (mC true) (mCall gMax2 (mCons (mC (.int 0)) (mCons (mOp gSub (mOp gIx (mVar 1) (mC (.int 0))) (mOp gMul (mVar 10) (mOp gIx (mVar 1) (mC (.int 1))))) mNil))) [10]) mNil) ρ h = .val (.int (gs.map (sht c d)).sum) (h ++ j) := by
  subst hr
  obtain ⟨j1, ej⟩ := mLc_map (mi := iAny (mVar 2)) (c := .nm 10) (mt := mC true) (me := mCall gMax2 (mCons (mC (.int 0)) (mCons (mOp gSub (mOp gIx (mVar 1) (mC (.int 0))) (mOp gMul (mVar 10) (mOp gIx (mVar 1) (mC (.int 1))))) mNil))) (vs := [10])
    (ρ := [some (.ref 0), some (.tup [.int c, .int d]), some (.ref n), none, none, none, none, none, none, none, none]) (h0 := h) (h := h) (it := fun h => listAt h n) (ds := gs.map D.int) (p := fun _ => true) (g := fun x => match x with | .int g => .int (sht c d g) | x => x)
    (by simp [iAny, iSeqL, e]) e (fun acc j => listAt_app e) (small100 (by simpa using hl)) (by
      intro x hx
      obtain ⟨g, hg, rfl⟩ := List.mem_map.mp hx
      refine ⟨_, rfl, fun acc j => ⟨[], by simp, fun _ j => ⟨[], ?_⟩⟩⟩
      have mu : gMul (.int g) (.int d) (h ++ .lst acc :: j) = .val (.int (g * d)) (h ++ .lst acc :: j) := r_mulB (bg g hg) bd
      have mx : gMax2 [.int 0, .int (c - g * d)] (h ++ .lst acc :: j) = .val (.int (sht c d g)) (h ++ .lst acc :: j) := by rw [r_max2]; rfl
      rw [List.append_nil]
      exact e_callT (e_cons rfl (e_cons (e_opT (e_opT rfl rfl r_ix0) (e_opT rfl (e_opT rfl rfl r_ix1) mu) rfl) e_nil)) mx)
  have eg : ((gs.map D.int).filter (fun _ => true)).map (fun x => match x with | .int g => .int (sht c d g) | x => x) = (gs.map (sht c d)).map D.int := by
    simp [filter_true, Function.comp_def]
  rw [eg] at ej
  refine ⟨.lst ((gs.map (sht c d)).map D.int) :: j1, e_callT (e_cons ej e_nil) ?_⟩
  unfold gSumL
  dsimp only
  rw [listAt_mid]
  show (match intsOf ((gs.map (sht c d)).map D.int) with | some ns => _ | none => _) = _
  rw [intsOf_map]
theorem min_le {gs hs : List Int} (h0 : gs ≠ []) (sub : ∀ g ∈ gs, g ∈ hs) : minI hs ≤ minI gs := by
  obtain ⟨k1, _⟩ := minI_ok h0
  have hh : hs ≠ [] := fun z => by
    have := sub _ k1
    rw [z] at this; cases this
  exact (minI_ok hh).2 _ (sub _ k1)
/-- the height, once it is settled, and what the law asks behind it -/
theorem far_ge {c d y : Int} (hd : 1 ≤ d) (hy : 0 ≤ y) : c ≤ (0 - (0 - c) / d + y) * d := by
  have h1 := Int.ediv_mul_le (0 - c) (show d ≠ 0 by omega)
  have h2 : (0 - (0 - c) / d + y) * d = y * d - (0 - c) / d * d := by rw [Int.add_mul, Int.sub_mul]; omega
  have h3 : 0 ≤ y * d := Int.mul_nonneg hy (by omega)
  omega
theorem cell_same (A : Ad) (ns : List Int) (h h2 : DH) (e : listAt h 0 = some (ns.map D.int)) (e2 : listAt h2 0 = some (ns.map D.int)) (k : Nat) {v v2 : Int} (q : f__law_cell_at A [.ref 0, .int k] h = .val (.int v) h) (q2 : f__law_cell_at A [.ref 0, .int k] h2 = .val (.int v2) h2) : v2 = v := by
  have key : ∀ h : DH, listAt h 0 = some (ns.map D.int) → f__law_cell_at A [.ref 0, .int k] h = .val (.int (ns[k]?.getD 0)) h := by
    intro h e
    unfold f__law_cell_at m__law_cell_at
    by_cases hk : k < ns.length
    · have lt : gLt (.int (k : Int)) (.int (ns.length : Int)) h = .val (.bl true) h := by rw [r_lt_int, decide_eq_true (by omega)]
      have e2 : ns[k]? = some ns[k] := List.getElem?_eq_getElem hk
      have ix := r_ix_lst (h := h) (p := 0) (xs := ns.map D.int) (k := k) (x := .int ns[k]) e (by rw [List.getElem?_map, e2]; rfl)
      have c1 : sIf (mB (mOp gLt (mVar 1) (mCall gLen (mCons (mVar 0) mNil)))) (sRet (mOp gIx (mVar 0) (mVar 1))) sNil (startD N__law_cell_at [.ref 0, .int k]) h = .ret (.int ns[k]) h := by
        refine if_step (b := true) (e_B (e_opT rfl (e_callT (e_cons rfl e_nil) ((r_len_lst e).trans (by rw [List.length_map]))) lt)) ?_
        rw [if_pos rfl]
        exact e_ret (e_opT rfl rfl ix)
      rw [e2]
      show (SOut.thn _ _).fin = _
      rw [c1]; rfl
    · have lt : gLt (.int (k : Int)) (.int (ns.length : Int)) h = .val (.bl false) h := by rw [r_lt_int, decide_eq_false (by omega)]
      rw [List.getElem?_eq_none (by omega)]
      refine fin_step (if_step (b := false) (e_B (e_opT rfl (e_callT (e_cons rfl e_nil) ((r_len_lst e).trans (by rw [List.length_map]))) lt)) rfl) rfl
  have r1 := (key h e).symm.trans q
  have r2 := (key h2 e2).symm.trans q2
  injection r1 with r1 _
  injection r1 with r1
  injection r2 with r2 _
  injection r2 with r2
  rw [← r2, ← r1]
theorem e_sl {ma : EM D} {ml mh : EM (Option Int)} {ρ : DEnv} {h h1 h2 h3 : DH} {d : D} {lo hi : Option Int} {r : Out D} (e : ma ρ h = .val d h1) (e1 : ml ρ h1 = .val lo h2) (e2 : mh ρ h2 = .val hi h3) (k : gSl d lo hi h3 = r) : mSl ma ml mh ρ h = r := by
  rw [r_mSl, e]
  show ((ml ρ h1).bind _) = _
  rw [e1]
  show ((mh ρ h2).bind _) = _
  rw [e2]; exact k
set_option maxHeartbeats 8000000 in
theorem plain (A : Ad) (hA : AdOk A) (ns : List Int) (hl : ns.length ≤ 63) : ∃ h', f_law A [.ref 0] [.scr (ns.map D.int)] = .val (.bl true) h' := by
  let h0 : DH := [.scr (ns.map D.int)]
  have l0 : listAt h0 0 = some (ns.map D.int) := rfl
  obtain ⟨j1, c0, d0, c00, d01, cop0, bc0, bd0, e1⟩ := high_eq A ns h0 l0
  let h1 : DH := h0 ++ j1
  have l1 : listAt h1 0 = some (ns.map D.int) := listAt_app l0
  obtain ⟨w, ew⟩ := cell_eq A ns h1 l1 3
  let h1a : DH := h1 ++ [.lst [.int w]]
  let cs := ((ns.drop (min 4 ns.length)).take (min 62 ns.length - min 4 ns.length))
  have hcs : DL.cutD (ns.map D.int) (some 4) (some 62) = cs.map D.int := by
    unfold DL.cutD
    have := HT.sIx_nat ns.length 0 4
    have := HT.sIx_nat ns.length ns.length 62
    simp only [List.length_map, cs, List.map_take, List.map_drop]
    congr 1
  have hcl : cs.length ≤ 58 := by
    show ((ns.drop (min 4 ns.length)).take (min 62 ns.length - min 4 ns.length)).length ≤ 58
    rw [List.length_take, List.length_drop]; omega
  generalize cs = cs at hcs hcl
  let h1b : DH := h1a ++ [.lst (cs.map D.int)]
  have esl : gSl (.ref 0) (some 4) (some 62) h1a = .val (.ref h1a.length) h1b := (r_sl_lst (listAt_app l1)).trans (by rw [hcs])
  let h1c : DH := h1b ++ [.lst ((w :: cs).map D.int)]
  have ead : gAdd (.ref h1.length) (.ref h1a.length) h1b = .val (.ref h1b.length) h1c := cat_call (get_app get_mid) get_mid (by rw [List.length_map]; show 1 + cs.length ≤ 100; omega)
  obtain ⟨j2, gs, hg, gl, e2⟩ := gifts_eq A c00 d01 bc0 bd0 (n := h1b.length) (cs := w :: cs) (by rw [List.length_cons]; omega) (h := h1c) listAt_end
  have g0 : gs ≠ [] := fun z => by rw [z] at gl; simp at gl
  have gl59 : gs.length ≤ 59 := by rw [gl, List.length_cons]; omega
  have gb : ∀ g ∈ gs, g.natAbs ≤ 2 ^ 100 := fun g hh => Nat.le_trans (hg g hh).2 (by decide)
  have gB : ∀ g ∈ gs, Bd 400 g := fun g hh => bd400s (gb g hh) (by decide)
  obtain ⟨k1, k2⟩ := minI_ok g0
  let h2 : DH := h1c ++ .lst (gs.map D.int) :: j2
  let n2 := h1c.length
  have l2 : listAt h2 n2 = some (gs.map D.int) := listAt_mid
  have ml : gMinL [.ref n2] h2 = .val (.int (minI gs)) h2 := by
    unfold gMinL
    dsimp only
    rw [l2]
    show (match intsOf (gs.map D.int) with | some ns => _ | none => _) = _
    rw [intsOf_map]
    exact if_pos (List.length_pos_iff.mpr g0)
  have Bd0 : Bd 400 d0 := bd400s bd0 (by decide)
  -- the height
  have hgt : ∃ c d, 0 ≤ c ∧ 1 ≤ d ∧ Nat.gcd c.natAbs d.natAbs = 1 ∧ minI gs * d ≤ c ∧ c.natAbs ≤ 2 ^ 92 ∧ d.natAbs ≤ 2 ^ 90 ∧
      sIf (mB (mOp gGe (mOp gMul (mCall gMinL (mCons (mVar 2) mNil)) (mOp gIx (mVar 1) (mC (.int 1)))) (mOp gIx (mVar 1) (mC (.int 0))))) (sAsg (mTup (mCons (mCall gMinL (mCons (mVar 2) mNil)) (mCons (mC (.int 1)) mNil))) (gSet 1)) sNil
        [some (.ref 0), some (.tup [.int c0, .int d0]), some (.ref n2), none, none, none, none, none, none, none, none] h2 = .nx [some (.ref 0), some (.tup [.int c, .int d]), some (.ref n2), none, none, none, none, none, none, none, none] h2 := by
    have mu : gMul (.int (minI gs)) (.int d0) h2 = .val (.int (minI gs * d0)) h2 := r_mulB (gB _ k1) Bd0
    have ge : gGe (.int (minI gs * d0)) (.int c0) h2 = .val (.bl (decide (c0 ≤ minI gs * d0))) h2 := by
      show gI0 _ _ _ _ = _
      rw [r_I0]
    have tst : mB (mOp gGe (mOp gMul (mCall gMinL (mCons (mVar 2) mNil)) (mOp gIx (mVar 1) (mC (.int 1)))) (mOp gIx (mVar 1) (mC (.int 0)))) [some (.ref 0), some (.tup [.int c0, .int d0]), some (.ref n2), none, none, none, none, none, none, none, none] h2 = .val (decide (c0 ≤ minI gs * d0)) h2 :=
      e_B (e_opT (e_opT (e_callT (e_cons rfl e_nil) ml) (e_opT rfl rfl r_ix1) mu) (e_opT rfl rfl r_ix0) ge)
    by_cases q : c0 ≤ minI gs * d0
    · refine ⟨minI gs, 1, (hg _ k1).1, Int.le_refl _, Nat.gcd_one_right _, by omega, Nat.le_trans (hg _ k1).2 (by decide), by decide, if_step (tst.trans (by rw [decide_eq_true q])) ?_⟩
      rw [if_pos rfl]
      exact asg_step (e_tup2 (e_cons (e_callT (e_cons rfl e_nil) ml) (e_cons rfl e_nil))) rfl
    · exact ⟨c0, d0, c00, d01, cop0, by omega, Nat.le_trans bc0 (by decide), bd0, if_step (tst.trans (by rw [decide_eq_false q])) rfl⟩
  obtain ⟨c, d, c1, d1, cop, mn, bc, bd, s3⟩ := hgt
  have Bc : Bd 400 c := bd400s bc (by decide)
  have Bd' : Bd 400 d := bd400s bd (by decide)
  -- the amount
  obtain ⟨j3, e3⟩ := sum_call (k := 0) (c := c) (d := d) (n := n2) (gs := gs) rfl Bd' gB (by omega) l2
  let S := (gs.map (sht c d)).sum
  have S0 : 0 ≤ S := sum_nn gs
  let h3 : DH := h2 ++ j3
  have l3 : listAt h3 n2 = some (gs.map D.int) := listAt_app l2
  have Sb : S.natAbs ≤ 2 ^ 100 := by
    have : ∀ l : List Int, (∀ g ∈ l, 0 ≤ g) → (l.map (sht c d)).sum ≤ (l.length : Int) * c := by
      intro l
      induction l with
      | nil => intro _; simp
      | cons g l ih =>
        intro hh
        have h1 := ih fun x hx => hh x (List.mem_cons_of_mem _ hx)
        have h2 := Int.mul_nonneg (hh g List.mem_cons_self) (show 0 ≤ d by omega)
        have h3 : sht c d g ≤ c := by unfold sht; split <;> omega
        rw [List.map_cons, List.sum_cons, List.length_cons]
        have : ((l.length + 1 : Nat) : Int) * c = (l.length : Int) * c + c := by rw [Int.natCast_add, Int.add_mul]; simp
        omega
    have h1 := this gs (fun g hh => (hg g hh).1)
    have h2 : (gs.length : Int) * c ≤ 64 * c := Int.mul_le_mul_of_nonneg_right (by omega) c1
    have e6 : 64 * (2 : Nat) ^ 92 ≤ 2 ^ 100 := by decide
    have h3 : S ≤ 64 * c := Int.le_trans h1 h2
    generalize (2 : Nat) ^ 92 = X at *
    omega
  have e4 := lowest_eq A S0 d1 (Bd'.mono (by decide)) h3
  let P := rtP S d
  let Q := rtQ S d
  have P0 : 0 ≤ P := rtP_nn S0 d1
  have Q1 : 1 ≤ Q := rtQ_pos (by omega)
  have rl := rt_le (t := S) (show d ≠ 0 by omega)
  have cr : P * d = S * Q := rt_cross S d
  have Pb : P.natAbs ≤ 2 ^ 100 := Nat.le_trans rl.1 Sb
  have Qb : Q.natAbs ≤ 2 ^ 100 := Nat.le_trans rl.2 (Nat.le_trans bd (by decide))
  -- the dues
  obtain ⟨j4, e5⟩ := dues_call A (c := c) d1 Bd' (by omega) gB (n := n2) (h := h3) l3
  let W := gs.map (lkP c d)
  let h4 : DH := h3 ++ .lst (W.map prD) :: j4
  have q4 : h4[h3.length]? = some (.lst (W.map prD)) := get_mid
  have l4 : listAt h4 n2 = some (gs.map D.int) := listAt_app l3
  let h5 : DH := h4 ++ [.lst (gs.map D.int)]
  obtain ⟨ca, da, j5, ka, La, e6, q6, _, _, _, _⟩ := level_eq A P0 Q1 Pb Qb gb g0 (by omega) (n := h4.length) (h := h5) listAt_end
  obtain ⟨rfl, rfl⟩ := known La g0 P0 Q1 d1 cop cr.symm mn
  have D5 := dues_eq (c := ca) d1 gs
  let h6 : DH := h5 ++ j5
  have ne6 := same_toldN (h := h6) (a := ka) (b := h3.length) (c := ca) (d := da) (ws := W) (by rw [← D5]; exact lst_at q6) (listAt_app (listAt_app (lst_at q4)))
  have l6 : listAt h6 n2 = some (gs.map D.int) := listAt_app (listAt_app l4)
  have s6 : listAt h6 0 = some (ns.map D.int) := listAt_app (listAt_app (listAt_app (listAt_app (listAt_app (listAt_app (listAt_app (listAt_app l1)))))))
  have w6 : listAt h6 h3.length = some (W.map prD) := listAt_app (listAt_app (lst_at q4))
  obtain ⟨w2, ew2⟩ := cell_eq A ns h6 s6 2
  have k0 : 0 ≤ w2 % ((gs.length : Int) + 1) := Int.emod_nonneg _ (by omega)
  have kl : w2 % ((gs.length : Int) + 1) < gs.length + 1 := Int.emod_lt_of_pos _ (by omega)
  obtain ⟨k, hk⟩ := Int.eq_ofNat_of_zero_le k0
  have kle : k ≤ gs.length := by omega
  let ρ1 : Option D := some (.ref 0)
  -- far
  let h7 : DH := h6 ++ [.lst ([0, w2 / 64 % 10 ^ 18].map D.int)]
  obtain ⟨t, ht, et⟩ := pick (xs := [0, w2 / 64 % 10 ^ 18]) (u := w2) (k := 2) (n := h6.length) (h := h7) listAt_end (by decide) rfl
  have t0 : 0 ≤ t ∧ t ≤ 10 ^ 18 := by
    rcases List.mem_cons.mp ht with rfl | ht
    · exact ⟨Int.le_refl _, by decide⟩
    · rw [List.mem_singleton] at ht
      subst ht
      have a1 := Int.emod_nonneg (w2 / 64) (show (10 ^ 18 : Int) ≠ 0 by decide)
      have a2 := Int.emod_lt_of_pos (w2 / 64) (show (0 : Int) < 10 ^ 18 by decide)
      exact ⟨a1, Int.le_of_lt a2⟩
  let far : Int := 0 - (0 - ca) / da + t
  have fg : ca ≤ far * da := far_ge d1 t0.1
  have fb : far.natAbs ≤ 2 ^ 100 := by
    have b1 : (0 - ca) / da ≤ 0 := Int.ediv_nonpos_of_nonpos_of_neg (by omega) (by omega)
    have b2 : 0 - ca ≤ (0 - ca) / da := by
      have z1 := Int.lt_ediv_add_one_mul_self (0 - ca) (show 0 < da by omega)
      have z2 := Int.ediv_mul_le (0 - ca) (show da ≠ 0 by omega)
      have z3 : ((0 - ca) / da) * da ≥ ((0 - ca) / da) * da := Int.le_refl _
      by_cases z : (0 - ca) / da < 0 - ca
      · exfalso
        have z4 : ((0 - ca) / da + 1) * da ≤ (0 - ca) * 1 := by
          have : (0 - ca) / da + 1 ≤ 0 - ca := by omega
          have y1 : ((0 - ca) / da + 1) * da ≤ (0 - ca) * da := Int.mul_le_mul_of_nonneg_right this (by omega)
          have y2 : (0 - ca) * da ≤ (0 - ca) * 1 := Int.mul_le_mul_of_nonpos_left (by omega) (by omega)
          omega
        omega
      · omega
    have b3 : (2 : Nat) ^ 92 + 10 ^ 18 ≤ 2 ^ 100 := by decide
    have t1 := t0.2
    have t2 := t0.1
    show (0 - (0 - ca) / da + t).natAbs ≤ _
    have b4 : ca.natAbs ≤ 2 ^ 92 := bc
    have b5 : (10 ^ 18 : Int) = ((10 ^ 18 : Nat) : Int) := by decide
    rw [b5] at t1
    generalize (2 : Nat) ^ 92 = X at *
    generalize (10 : Nat) ^ 18 = Y at *
    generalize (2 : Nat) ^ 100 = Z at *
    omega
  have e9 : mOp gAdd (mOp gSub (mC (.int 0)) (mOp gFdiv (mOp gSub (mC (.int 0)) (mOp gIx (mVar 1) (mC (.int 0)))) (mOp gIx (mVar 1) (mC (.int 1))))) (mOp gIx (mLst (mCons (mC (.int 0)) (mCons (mOp gMod (mOp gFdiv (mCall (f__law_cell_at A) (mCons (mVar 0) (mCons (mC (.int 2)) mNil))) (mC (.int 64))) (mOp gPow (mC (.int 10)) (mC (.int 18)))) mNil))) (mOp gMod (mCall (f__law_cell_at A) (mCons (mVar 0) (mCons (mC (.int 2)) mNil))) (mC (.int 2))))
      [some (.ref 0), some (.tup [.int ca, .int da]), some (.ref n2), some (.int S), some (.tup [.int P, .int Q]), some (.tup [.tup [.int ca, .int da], .ref h3.length]), some (.int (k : Int)), none, none, none, none] h6 = .val (.int far) h7 := by
    have f1 : gFdiv (.int (0 - ca)) (.int da) h6 = .val (.int ((0 - ca) / da)) h6 := r_fdiv (by omega) (Nat.lt_of_lt_of_le Bd' (Nat.pow_le_pow_right (by decide) (by decide)))
    have cl : mCall (f__law_cell_at A) (mCons (mVar 0) (mCons (mC (.int 2)) mNil)) [some (.ref 0), some (.tup [.int ca, .int da]), some (.ref n2), some (.int S), some (.tup [.int P, .int Q]), some (.tup [.tup [.int ca, .int da], .ref h3.length]), some (.int (k : Int)), none, none, none, none] h6 = .val (.int w2) h6 := e_callT (e_cons rfl (e_cons rfl e_nil)) ew2
    obtain ⟨w2', ew2'⟩ := cell_eq A ns h7 (listAt_app s6) 2
    have cl' : w2' = w2 := cell_same A ns h6 h7 s6 (listAt_app s6) 2 ew2 ew2'
    subst cl'
    refine e_opT (e_opT rfl (e_opT (e_opT rfl (e_opT rfl rfl r_ix0) rfl) (e_opT rfl rfl r_ix1) f1) rfl) (e_opT (e_lst (e_cons rfl (e_cons (e_opT (e_opT cl rfl (fd_small (by decide) (by decide) _)) (e_opT rfl rfl (ten_pow 18 (by decide) _)) (r_mod (by decide))) e_nil)) (by simp)) (e_opT (e_callT (e_cons rfl (e_cons rfl e_nil)) ew2') rfl (r_mod (by decide))) et) rfl
  have l7 : listAt h7 n2 = some (gs.map D.int) := listAt_app l6
  -- with the far gift
  let gs2 : List Int := (gs.take k ++ [far]) ++ gs.drop k
  let h8 : DH := h7 ++ [.lst ((gs.take k).map D.int)]
  let h9 : DH := h8 ++ [.lst ([far].map D.int)]
  let h10 : DH := h9 ++ [.lst ((gs.take k ++ [far]).map D.int)]
  let h11 : DH := h10 ++ [.lst ((gs.drop k).map D.int)]
  let h12 : DH := h11 ++ [.lst (gs2.map D.int)]
  have tl : (gs.take k).length = k := by rw [List.length_take]; omega
  have dl : (gs.drop k).length = gs.length - k := List.length_drop
  have s8 : gSl (.ref n2) none (some (k : Int)) h7 = .val (.ref h7.length) h8 := (r_sl_lst l7).trans (by rw [cut_lo _ _ _ kle])
  have a10 : gAdd (.ref h7.length) (.ref h8.length) h9 = .val (.ref h9.length) h10 := (cat_call (get_app get_mid) get_mid (by rw [List.length_map, List.length_map, tl]; show k + 1 ≤ 100; omega)).trans (by rw [← List.map_append])
  have s11 : gSl (.ref n2) (some (k : Int)) none h10 = .val (.ref h10.length) h11 := (r_sl_lst (listAt_app (listAt_app (listAt_app l7)))).trans (by rw [cut_hi _ _ _ kle])
  have a12 : gAdd (.ref h9.length) (.ref h10.length) h11 = .val (.ref h11.length) h12 := (cat_call (get_app get_mid) get_mid (by rw [List.length_map, List.length_map, List.length_append, tl, dl]; show k + 1 + (gs.length - k) ≤ 100; omega)).trans (by rw [← List.map_append])
  have gl2 : gs2.length = gs.length + 1 := by
    show ((gs.take k ++ [far]) ++ gs.drop k).length = _
    rw [List.length_append, List.length_append, tl, dl]; show k + 1 + (gs.length - k) = _; omega
  have g20 : gs2 ≠ [] := fun z => by rw [z] at gl2; simp at gl2
  have in2 : ∀ g ∈ gs2, g ∈ gs ∨ g = far := fun g hh => by
    rcases List.mem_append.mp hh with hh | hh
    · rcases List.mem_append.mp hh with hh | hh
      · exact .inl (List.mem_of_mem_take hh)
      · exact .inr (List.mem_singleton.mp hh)
    · exact .inl (List.mem_of_mem_drop hh)
  have in3 : ∀ g ∈ gs, g ∈ gs2 := fun g hh => by
    rw [← List.take_append_drop k gs, List.mem_append] at hh
    rcases hh with hh | hh
    · exact List.mem_append_left _ (List.mem_append_left _ hh)
    · exact List.mem_append_right _ hh
  have gb2 : ∀ g ∈ gs2, g.natAbs ≤ 2 ^ 100 := fun g hh => by
    rcases in2 g hh with hh | rfl
    · exact gb g hh
    · exact fb
  have sf : sht ca da far = 0 := by unfold sht; split <;> omega
  have sum2 : (gs2.map (sht ca da)).sum = S := by
    show (((gs.take k ++ [far]) ++ gs.drop k).map (sht ca da)).sum = (gs.map (sht ca da)).sum
    conv => rhs; rw [← List.take_append_drop k gs]
    simp only [List.map_append, List.sum_append, List.map_cons, List.map_nil, List.sum_cons, List.sum_nil, sf]
    omega
  have mn2 : minI gs2 * da ≤ ca := by
    have m1 := Int.mul_le_mul_of_nonneg_right (min_le g0 in3) (show 0 ≤ da by omega)
    omega
  obtain ⟨cb, db, j13, kb, Lb, e13, q13, _, _, _, _⟩ := level_eq A P0 Q1 Pb Qb gb2 g20 (by omega) (n := h11.length) (h := h12) listAt_end
  obtain ⟨rfl, rfl⟩ := known Lb g20 P0 Q1 d1 cop (by rw [sum2]; exact cr.symm) mn2
  let h13 : DH := h12 ++ j13
  have w13 : listAt h13 h3.length = some (W.map prD) := listAt_app (listAt_app (listAt_app (listAt_app (listAt_app (listAt_app (listAt_app w6))))))
  let W2 := (W.take k ++ [((0 : Int), (1 : Int))]) ++ W.drop k
  have lkf : lkP cb db far = (0, 1) := by unfold lkP; rw [sf]; rw [(rt_zero d1).1, (rt_zero d1).2]
  have W2e : gs2.map (lkP cb db) = W2 := by
    show ((gs.take k ++ [far]) ++ gs.drop k).map (lkP cb db) = ((gs.map (lkP cb db)).take k ++ [((0 : Int), (1 : Int))]) ++ (gs.map (lkP cb db)).drop k
    rw [List.map_append, List.map_append, List.map_take, List.map_drop, List.map_cons, List.map_nil, lkf]
  let h14 : DH := h13 ++ [.lst ((W.take k).map prD)]
  let h15 : DH := h14 ++ [.lst ([((0 : Int), (1 : Int))].map prD)]
  let h16 : DH := h15 ++ [.lst ((W.take k ++ [((0 : Int), (1 : Int))]).map prD)]
  let h17 : DH := h16 ++ [.lst ((W.drop k).map prD)]
  let h18 : DH := h17 ++ [.lst (W2.map prD)]
  have wl : W.length = gs.length := List.length_map _
  have tlw : (W.take k).length = k := by rw [List.length_take]; omega
  have dlw : (W.drop k).length = gs.length - k := by rw [List.length_drop, wl]
  have s14 : gSl (.ref h3.length) none (some (k : Int)) h13 = .val (.ref h13.length) h14 := (r_sl_lst w13).trans (by rw [cut_lo _ _ _ (by omega)])
  have a16 : gAdd (.ref h13.length) (.ref h14.length) h15 = .val (.ref h15.length) h16 := (cat_call (get_app get_mid) get_mid (by rw [List.length_map, List.length_map, tlw]; show k + 1 ≤ 100; omega)).trans (by rw [← List.map_append])
  have s17 : gSl (.ref h3.length) (some (k : Int)) none h16 = .val (.ref h16.length) h17 := (r_sl_lst (listAt_app (listAt_app (listAt_app w13)))).trans (by rw [cut_hi _ _ _ (by omega)])
  have a18 : gAdd (.ref h15.length) (.ref h16.length) h17 = .val (.ref h17.length) h18 := (cat_call (get_app get_mid) get_mid (by rw [List.length_map, List.length_map, List.length_append, tlw, dlw]; show k + 1 + (gs.length - k) ≤ 100; omega)).trans (by rw [← List.map_append])
  have ne18 := same_toldN (h := h18) (a := kb) (b := h17.length) (c := cb) (d := db) (ws := W2) (by
    rw [← W2e, ← dues_eq d1]
    exact listAt_app (listAt_app (listAt_app (listAt_app (listAt_app (lst_at q13)))))) listAt_end
  -- half
  have l13 : listAt h13 n2 = some (gs.map D.int) := listAt_app (listAt_app (listAt_app (listAt_app (listAt_app (listAt_app l7)))))
  have l18 : listAt h18 n2 = some (gs.map D.int) := listAt_app (listAt_app (listAt_app (listAt_app (listAt_app l13))))
  have Bd2 : Bd 403 (2 * db) := Bd.mul (m := 3) (show Bd 3 (2 : Int) by unfold Bd; decide) Bd'
  have e18 := lowest_eq A S0 (show 1 ≤ 2 * db by omega) (Bd2.mono (by decide)) h18
  let P2 := rtP S (2 * db)
  let Q2 := rtQ S (2 * db)
  have P20 : 0 ≤ P2 := rtP_nn S0 (by omega)
  have Q21 : 1 ≤ Q2 := rtQ_pos (by omega)
  have rl2 := rt_le (t := S) (show 2 * db ≠ 0 by omega)
  have cr2 : P2 * (2 * db) = S * Q2 := rt_cross S (2 * db)
  have Pb2 : P2.natAbs ≤ 2 ^ 100 := Nat.le_trans rl2.1 Sb
  have Qb2 : Q2.natAbs ≤ 2 ^ 100 := Nat.le_trans rl2.2 (by
    rw [Int.natAbs_mul]
    have z1 : 2 * (2 : Nat) ^ 90 ≤ 2 ^ 100 := by decide
    have z2 : (2 : Int).natAbs = 2 := rfl
    rw [z2]
    exact Nat.le_trans (Nat.mul_le_mul_left 2 bd) z1)
  let h19 : DH := h18 ++ [.lst (gs.map D.int)]
  obtain ⟨c9, d9, j20, k20, L9, e20, _, d91, Bc9, Bd9, _⟩ := level_eq A P20 Q21 Pb2 Qb2 gb g0 (by omega) (n := h18.length) (h := h19) listAt_end
  have hlf := half_le L9 g0 P20 Q21 d1 rfl cr2 mn
  let h20 : DH := h19 ++ j20
  have gt20 : gGt (.int (c9 * db)) (.int (cb * d9)) h20 = .val (.bl false) h20 := by
    show gI0 _ _ _ _ = _
    rw [r_I0]
    have : decide (cb * d9 < c9 * db) = false := decide_eq_false hlf
    first | rw [this] | (show Out.val (D.bl (decide (cb * d9 < c9 * db))) h20 = _; rw [this])
  obtain ⟨h', e21⟩ := refilled_eq A g0 (by omega) d1 cop mn hg bc c1 (n := n2) (k := h3.length) (h := h20) (listAt_app (listAt_app l18)) (listAt_app (listAt_app (listAt_app (listAt_app (listAt_app (listAt_app (listAt_app w13)))))))
  refine ⟨h', ?_⟩
  have n0 : startD N_law [.ref 0] = [some (.ref 0), none, none, none, none, none, none, none, none, none, none] := rfl
  unfold f_law m_law
  show ((sSeq _ _) (startD N_law [.ref 0]) h0).fin = _
  rw [n0]
  refine fin_step (asg_step (e_callT (e_cons rfl e_nil) e1) rfl) ?_
  refine fin_step (asg_step (e_callT (e_cons (e_opT (e_lst (e_cons (e_callT (e_cons rfl (e_cons rfl e_nil)) ew) e_nil) (by simp)) esl ead) (e_cons rfl e_nil)) e2) rfl) ?_
  refine fin_step s3 ?_
  refine fin_step (asg_step e3 rfl) ?_
  refine fin_step (asg_step (e_callT (e_cons rfl (e_cons (e_opT rfl rfl r_ix1) e_nil)) e4) rfl) ?_
  refine fin_step (asg_step (e_tup2 (e_cons rfl (e_cons (e_callT (e_cons rfl (e_cons rfl e_nil)) e5) e_nil))) rfl) ?_
  refine fin_step (if_step (b := false) (e_B (e_opT (e_callT (e_cons rfl (e_cons (e_callT (e_cons rfl e_nil) (listOf_call l4)) e_nil)) e6) rfl ne6)) rfl) ?_
  refine fin_step (asg_step (e_opT (e_callT (e_cons rfl (e_cons rfl e_nil)) ew2) (e_opT (e_callT (e_cons rfl e_nil) (r_len_lst l6)) rfl rfl) ((r_mod (by rw [List.length_map]; omega)).trans (by rw [List.length_map, hk]))) rfl) ?_
  refine fin_step (asg_step e9 rfl) ?_
  refine fin_step (asg_step (e_callT (e_cons rfl (e_cons (e_opT (e_opT s8 (e_lst (e_cons rfl e_nil) (by simp)) a10) s11 a12) e_nil)) e13) rfl) ?_
  refine fin_step (if_step (b := false) (e_B (e_opT rfl (e_tup2 (e_cons rfl (e_cons (e_opT (e_opT (e_sl (e_opT rfl rfl r_ix1) rfl rfl s14) (e_lst (e_cons (e_tup2 (e_cons rfl (e_cons rfl e_nil))) e_nil) (by simp)) a16) (e_sl (e_opT rfl rfl r_ix1) rfl rfl s17) a18) e_nil))) ne18)) rfl) ?_
  refine fin_step (asg_step (e_callT (e_cons (e_callT (e_cons rfl (e_cons (e_opT rfl (e_opT rfl rfl r_ix1) (r_mulB (m := 3) (by unfold Bd; decide) Bd')) e_nil)) e18) (e_cons (e_callT (e_cons rfl e_nil) (listOf_call l18)) e_nil)) e20) rfl) ?_
  refine fin_step (if_step (b := false) (e_B (e_opT (e_opT (e_opT (e_opT rfl rfl r_ix0) rfl r_ix0) (e_opT rfl rfl r_ix1) (r_mulB Bc9 Bd')) (e_opT (e_opT rfl rfl r_ix0) (e_opT (e_opT rfl rfl r_ix0) rfl r_ix1) (r_mulB Bc Bd9)) gt20)) rfl) ?_
  exact congrArg SOut.fin (e_ret (e_callT (e_cons rfl (e_cons (e_opT rfl rfl r_ix1) (e_cons rfl e_nil))) e21))
end Wk82

open PySem PySem.W PyProof.Rows in
set_option maxRecDepth 100000 in
set_option maxHeartbeats 0 in
theorem PySem.Challenge.cw_heirbook_k82_whole_known_levels_holds : PySem.Challenge.rw_heirbook_k82_whole_known_levels.Holds := by
  w_on; o_law; k_head; (case hw => w_witness2)
  k_fill
  refine Wk82.walk (l := PySem.Challenge.rw_heirbook_k82_whole_known_levels) rfl rfl (fun w h Y => PySem.W.kIn_of Y) ?F
  case F =>
    intro w mg fa h KX G hmg
    refine' Wk82.all_mk KX G hmg ?a_is_whole ?l_is_whole ?co_is_whole ?ke_is_whole ?a_ratio ?l_ratio ?co_ratio ?ke_ratio ?a_plus ?l_plus ?co_plus ?ke_plus ?a_minus ?l_minus ?co_minus ?ke_minus ?a_over ?l_over ?co_over ?ke_over ?a_less ?l_less ?co_less ?ke_less ?a_lack ?l_lack ?co_lack ?ke_lack ?a_level ?l_level ?co_level ?ke_level ?a__law_cell_at ?l__law_cell_at ?co__law_cell_at ?ke__law_cell_at ?a__law_divisor ?l__law_divisor ?co__law_divisor ?ke__law_divisor ?a__law_lowest ?l__law_lowest ?co__law_lowest ?ke__law_lowest ?a__law_high ?l__law_high ?co__law_high ?ke__law_high ?a__law_gifts ?l__law_gifts ?co__law_gifts ?ke__law_gifts ?a__law_dues ?l__law_dues ?co__law_dues ?ke__law_dues ?a__law_refilled ?l__law_refilled ?co__law_refilled ?ke__law_refilled ?a_law ?l_law ?co_law ?ke_law ?z_abs ?z_bool ?z_int ?z_isinstance ?z_len ?z_list ?z_max ?z_min ?z_sorted ?z_sum ?z_zip ?gc_NoNumber ?xc_NoNumber ?kc_NoNumber ?sb_NoNumber ?tc_NoNumber ?plain
    (case a_is_whole => k_is)
    (case l_is_whole => k_is)
    (case co_is_whole => k_is)
    (case ke_is_whole => k_is)
    (case a_ratio => k_is)
    (case l_ratio => k_is)
    (case co_ratio => k_is)
    (case ke_ratio => k_is)
    (case a_plus => k_is)
    (case l_plus => k_is)
    (case co_plus => k_is)
    (case ke_plus => k_is)
    (case a_minus => k_is)
    (case l_minus => k_is)
    (case co_minus => k_is)
    (case ke_minus => k_is)
    (case a_over => k_is)
    (case l_over => k_is)
    (case co_over => k_is)
    (case ke_over => k_is)
    (case a_less => k_is)
    (case l_less => k_is)
    (case co_less => k_is)
    (case ke_less => k_is)
    (case a_lack => k_is)
    (case l_lack => k_is)
    (case co_lack => k_is)
    (case ke_lack => k_is)
    (case a_level => k_is)
    (case l_level => k_is)
    (case co_level => k_is)
    (case ke_level => k_is)
    (case a__law_cell_at => k_is)
    (case l__law_cell_at => k_is)
    (case co__law_cell_at => k_is)
    (case ke__law_cell_at => k_is)
    (case a__law_divisor => k_is)
    (case l__law_divisor => k_is)
    (case co__law_divisor => k_is)
    (case ke__law_divisor => k_is)
    (case a__law_lowest => k_is)
    (case l__law_lowest => k_is)
    (case co__law_lowest => k_is)
    (case ke__law_lowest => k_is)
    (case a__law_high => k_is)
    (case l__law_high => k_is)
    (case co__law_high => k_is)
    (case ke__law_high => k_is)
    (case a__law_gifts => k_is)
    (case l__law_gifts => k_is)
    (case co__law_gifts => k_is)
    (case ke__law_gifts => k_is)
    (case a__law_dues => k_is)
    (case l__law_dues => k_is)
    (case co__law_dues => k_is)
    (case ke__law_dues => k_is)
    (case a__law_refilled => k_is)
    (case l__law_refilled => k_is)
    (case co__law_refilled => k_is)
    (case ke__law_refilled => k_is)
    (case a_law => k_is)
    (case l_law => k_is)
    (case co_law => k_is)
    (case ke_law => k_is)
    (case z_abs => k_is)
    (case z_bool => k_is)
    (case z_int => k_is)
    (case z_isinstance => k_is)
    (case z_len => k_is)
    (case z_list => k_is)
    (case z_max => k_is)
    (case z_min => k_is)
    (case z_sorted => k_is)
    (case z_sum => k_is)
    (case z_zip => k_is)
    (case gc_NoNumber => k_is)
    (case xc_NoNumber => k_exc)
    (case kc_NoNumber => k_is)
    (case sb_NoNumber => k_is)
    (case tc_NoNumber => k_is)
    (case plain => exact Wk82.plain)
#print axioms PySem.Challenge.cw_heirbook_k82_whole_known_levels_holds
