import PyProof.Rows.All
import Wide.All
import OpenK.AllK
import Wide.FinOn
import HandS.ForMost
import HandS.ForExc
import HandS.Walk
import HandS.TupAny
import HandS.TupMul
import HandS.Wide
import HandS.Deep
import HandS.Text
import HandS.IsInst
import KE.GoesMore
import KE.GoesEnum
import HandS.Style
import HandS.Small
import HandS.DictComp
import HandS.SetFor
import HandS.Sort
import HandS.TupSets
import HandS.WordsExc
import HandS.EndBits
import PySem.Challenge.RW_lanerope_k01_what_are_halls
set_option Elab.async false
set_option linter.all false
set_option maxRecDepth 100000
set_option maxHeartbeats 2000000
/-! Data by value, owned cells, resources. -/
namespace LR
open PySem L2

/-- data by value: nothing of it is changed any more -/
inductive D where
  | non | bl (b : Bool) | int (i : Int) | str (s : Str)
  | tup (ds : List D) | lst (ds : List D)
  | scr (ns : List Int)
  | dK (ks : List Key) (ds : List D)
instance : Inhabited D := ⟨.non⟩

/-- what a name may hold, or an expression gives: data, or a cell of its own that nobody else knows -/
inductive O where
  | frz (d : D)
  | lst (ds : List D)
  | dK (kvs : List (Key × D))
  | dT (kvs : List (List Key × D))
instance : Inhabited O := ⟨.frz .non⟩

/-- what is told of an owned thing when it is let go as data -/
def O.data : O → D
  | .frz d => d
  | .lst ds => .lst ds
  | .dK kvs => .dK (kvs.map (·.1)) (kvs.map (·.2))
  | .dT _ => .non

def Le (F H : Hp) : Prop := ∀ a o, F a = some o → H a = some o
theorem Le.refl (H : Hp) : Le H H := fun _ _ h => h
theorem Le.trans {F G H : Hp} (a : Le F G) (b : Le G H) : Le F H := fun x o h => b x o (a x o h)
theorem Le.free {F H : Hp} (e : Le F H) {p : Addr} (h : H p = none) : F p = none := by
  cases q : F p with
  | none => rfl
  | some o =>
    rw [e p o q] at h
    cases h
theorem Le.put {F H : Hp} (e : Le F H) {p : Addr} {o : HO} (h : F p = none) : Le F (upd H p o) := fun a u q => by
  rw [upd_ne (ne_of_none q h)]
  exact e a u q
theorem Le.putB {F H : Hp} (e : Le F H) {p : Addr} {o : HO} : Le (upd F p o) (upd H p o) := fun a u q => by
  by_cases h : a = p
  · rw [h, upd_same] at q
    rw [h, upd_same]
    exact q
  · rw [upd_ne h] at q
    rw [upd_ne h]
    exact e a u q
theorem Le.add {F H : Hp} (e : Le F H) {p : Addr} {o : HO} (h : H p = some o) : Le (upd F p o) H := fun a u q => by
  by_cases k : a = p
  · rw [k, upd_same] at q
    rw [k, h]
    exact q
  · rw [upd_ne k] at q
    exact e a u q
theorem Le.rd {F H : Hp} (e : Le F H) {a : Addr} {u : HO} (h : Rd F a u) : Rd H a u := by
  rcases h with h | ⟨o, h⟩
  · exact .inl (e a _ h)
  · exact .inr ⟨o, e a _ h⟩
theorem Le.sqL {K : PySem.W.Frag} {F H : Hp} (e : Le F H) {a : Addr} {xs : List V} (h : SqL K F a xs) : SqL K H a xs := h.elim (fun q => .inl (e.rd q)) .inr
theorem Le.sqT {K : PySem.W.Frag} {F H : Hp} (e : Le F H) {a : Addr} {xs : List V} (h : SqT K F a xs) : SqT K H a xs := h.elim (fun q => .inl (e.rd q)) .inr

/-! ### data in the heap -/
section
variable (K : PySem.W.Frag)
mutual
def RD (F : Hp) : D → V → Prop
  | .non, v => v = .non
  | .bl b, v => v = .bl b
  | .int i, v => v = .int i
  | .str s, v => v = .str s
  | .tup ds, v => ∃ a vs, v = .ref a ∧ SqT K F a vs ∧ RDs F ds vs
  | .lst ds, v => ∃ a vs, v = .ref a ∧ F a = some (.lst vs) ∧ RDs F ds vs
  | .scr ns, v => ∃ a, v = .ref a ∧ SqL K F a (ns.map V.int)
  | .dK ks ds, v => ∃ a ws, v = .ref a ∧ F a = some (.dK ws) ∧ ws.map (·.1) = ks ∧ RDs F ds (ws.map (·.2))
def RDs (F : Hp) : List D → List V → Prop
  | [], vs => vs = []
  | d :: ds, vs => ∃ v r, vs = v :: r ∧ RD F d v ∧ RDs F ds r
end
end
section
variable {K : PySem.W.Frag} {F F' H : Hp}
mutual
theorem RD.mono (e : Le F F') : ∀ (d : D) (v : V), RD K F d v → RD K F' d v
  | .non, _, h => h
  | .bl _, _, h => h
  | .int _, _, h => h
  | .str _, _, h => h
  | .tup ds, v, h => by
    unfold RD at h ⊢
    obtain ⟨a, vs, e1, q, r⟩ := h
    exact ⟨a, vs, e1, e.sqT q, RDs.mono e ds vs r⟩
  | .lst ds, v, h => by
    unfold RD at h ⊢
    obtain ⟨a, vs, e1, q, r⟩ := h
    exact ⟨a, vs, e1, e a _ q, RDs.mono e ds vs r⟩
  | .scr ns, v, h => by
    unfold RD at h ⊢
    obtain ⟨a, e1, q⟩ := h
    exact ⟨a, e1, e.sqL q⟩
  | .dK ks ds, v, h => by
    unfold RD at h ⊢
    obtain ⟨a, ws, e1, q, k, r⟩ := h
    exact ⟨a, ws, e1, e a _ q, k, RDs.mono e ds _ r⟩
theorem RDs.mono (e : Le F F') : ∀ (ds : List D) (vs : List V), RDs K F ds vs → RDs K F' ds vs
  | [], _, h => h
  | d :: ds, vs, h => by
    unfold RDs at h ⊢
    obtain ⟨v, r, e1, q, t⟩ := h
    exact ⟨v, r, e1, RD.mono e d v q, RDs.mono e ds r t⟩
end
theorem RDs.length : ∀ {ds : List D} {vs : List V}, RDs K F ds vs → vs.length = ds.length
  | [], _, h => by unfold RDs at h; rw [h]; rfl
  | d :: ds, vs, h => by
    unfold RDs at h
    obtain ⟨v, r, e1, q, t⟩ := h
    rw [e1, List.length_cons, List.length_cons, RDs.length t]
theorem RDs.nil : RDs K F [] [] := by unfold RDs; rfl
theorem RDs.cons {d : D} {v : V} {ds : List D} {vs : List V} (h : RD K F d v) (t : RDs K F ds vs) : RDs K F (d :: ds) (v :: vs) := by
  unfold RDs
  exact ⟨v, vs, rfl, h, t⟩
theorem RDs.get : ∀ {ds : List D} {vs : List V} {i : Nat} {d : D}, RDs K F ds vs → ds[i]? = some d → ∃ v, vs[i]? = some v ∧ RD K F d v
  | [], _, _, _, _, e => by simp at e
  | d :: ds, vs, 0, _, h, e => by
    unfold RDs at h
    obtain ⟨v, r, e1, q, t⟩ := h
    have e2 : d = _ := Option.some.inj e
    rw [← e2, e1]
    exact ⟨v, rfl, q⟩
  | d :: ds, vs, i + 1, _, h, e => by
    unfold RDs at h
    obtain ⟨v, r, e1, q, t⟩ := h
    obtain ⟨w, hw, hq⟩ := RDs.get t (i := i) (by simpa using e)
    exact ⟨w, by rw [e1]; simpa using hw, hq⟩
theorem RDs.append : ∀ {ds es : List D} {vs ws : List V}, RDs K F ds vs → RDs K F es ws → RDs K F (ds ++ es) (vs ++ ws)
  | [], _, _, _, h, t => by
    unfold RDs at h
    rw [h]
    exact t
  | d :: ds, es, vs, ws, h, t => by
    unfold RDs at h
    obtain ⟨v, r, e1, q, u⟩ := h
    rw [e1]
    exact .cons q (RDs.append u t)
theorem RDs.take : ∀ {ds : List D} {vs : List V} (n : Nat), RDs K F ds vs → RDs K F (ds.take n) (vs.take n)
  | _, _, 0, _ => by rw [List.take_zero, List.take_zero]; exact .nil
  | [], _, n + 1, h => by
    unfold RDs at h
    rw [h]
    exact .nil
  | d :: ds, vs, n + 1, h => by
    unfold RDs at h
    obtain ⟨v, r, e1, q, u⟩ := h
    rw [e1, List.take_succ_cons, List.take_succ_cons]
    exact .cons q (RDs.take n u)
theorem RDs.drop : ∀ {ds : List D} {vs : List V} (n : Nat), RDs K F ds vs → RDs K F (ds.drop n) (vs.drop n)
  | _, _, 0, h => h
  | [], _, n + 1, h => by
    unfold RDs at h
    rw [h]
    exact .nil
  | d :: ds, vs, n + 1, h => by
    unfold RDs at h
    obtain ⟨v, r, e1, q, u⟩ := h
    rw [e1, List.drop_succ_cons, List.drop_succ_cons]
    exact RDs.drop n u
theorem RDs.set {d : D} {v : V} (hd : RD K F d v) : ∀ {ds : List D} {vs : List V} (i : Nat), RDs K F ds vs → RDs K F (ds.set i d) (vs.set i v)
  | [], _, i, h => by
    unfold RDs at h
    rw [h]
    exact .nil
  | e :: ds, vs, 0, h => by
    unfold RDs at h
    obtain ⟨w, r, e1, q, u⟩ := h
    rw [e1]
    exact .cons hd u
  | e :: ds, vs, i + 1, h => by
    unfold RDs at h
    obtain ⟨w, r, e1, q, u⟩ := h
    rw [e1, List.set_cons_succ, List.set_cons_succ]
    exact .cons q (RDs.set hd i u)
theorem RDs.eraseIdx : ∀ {ds : List D} {vs : List V} (i : Nat), RDs K F ds vs → RDs K F (ds.eraseIdx i) (vs.eraseIdx i)
  | [], _, i, h => by
    unfold RDs at h
    rw [h]
    exact .nil
  | e :: ds, vs, 0, h => by
    unfold RDs at h
    obtain ⟨w, r, e1, q, u⟩ := h
    rw [e1]
    exact u
  | e :: ds, vs, i + 1, h => by
    unfold RDs at h
    obtain ⟨w, r, e1, q, u⟩ := h
    rw [e1, List.eraseIdx_cons_succ, List.eraseIdx_cons_succ]
    exact .cons q (RDs.eraseIdx i u)
theorem RDs.reverse : ∀ {ds : List D} {vs : List V}, RDs K F ds vs → RDs K F ds.reverse vs.reverse
  | [], _, h => by
    unfold RDs at h
    rw [h]
    exact .nil
  | e :: ds, vs, h => by
    unfold RDs at h
    obtain ⟨w, r, e1, q, u⟩ := h
    rw [e1, List.reverse_cons, List.reverse_cons]
    exact (RDs.reverse u).append (.cons q .nil)
end

/-! ### owned things in the heap -/
section
variable (K : PySem.W.Frag)
def RO (F H : Hp) : O → V → List Addr → Prop
  | .frz d, v, fp => RD K F d v ∧ fp = []
  | .lst ds, v, fp => ∃ a vs, v = .ref a ∧ H a = some (.lst vs) ∧ RDs K F ds vs ∧ fp = [a]
  | .dK kvs, v, fp => ∃ a ws, v = .ref a ∧ H a = some (.dK ws) ∧ ws.map (·.1) = kvs.map (·.1) ∧ RDs K F (kvs.map (·.2)) (ws.map (·.2)) ∧ fp = [a]
  | .dT kvs, v, fp => ∃ a ws, v = .ref a ∧ H a = some (.dT ws) ∧ ws.map (·.1) = kvs.map (·.1) ∧ RDs K F (kvs.map (·.2)) (ws.map (·.2)) ∧ fp = [a]
def ROs (F H : Hp) : List (V × O) → List Addr → Prop
  | [], fp => fp = []
  | p :: l, fp => ∃ f g, fp = f ++ g ∧ RO K F H p.2 p.1 f ∧ ROs F H l g
/-- these resources are held, F what is data -/
def R0 (F H : Hp) (l : List (V × O)) : Prop := ∃ fp, Le F H ∧ ROs K F H l fp ∧ fp.Nodup ∧ ∀ a ∈ fp, F a = none
def R (H : Hp) (l : List (V × O)) : Prop := ∃ F, R0 K F H l
end
section
variable {K : PySem.W.Frag} {F F' H H' : Hp} {l l' : List (V × O)} {v w : V} {o : O} {d : D}
theorem RO.mono (e : Le F F') : ∀ {o : O} {v : V} {fp : List Addr}, (∀ a ∈ fp, H' a = H a) → RO K F H o v fp → RO K F' H' o v fp
  | .frz d, v, fp, _, h => ⟨RD.mono e d v h.1, h.2⟩
  | .lst ds, v, fp, k, h => by
    obtain ⟨a, vs, e1, q, r, z⟩ := h
    exact ⟨a, vs, e1, (k a (by rw [z]; exact List.mem_singleton.mpr rfl)).trans q, RDs.mono e _ _ r, z⟩
  | .dK ds, v, fp, k, h => by
    obtain ⟨a, vs, e1, q, r, t, z⟩ := h
    exact ⟨a, vs, e1, (k a (by rw [z]; exact List.mem_singleton.mpr rfl)).trans q, r, RDs.mono e _ _ t, z⟩
  | .dT ds, v, fp, k, h => by
    obtain ⟨a, vs, e1, q, r, t, z⟩ := h
    exact ⟨a, vs, e1, (k a (by rw [z]; exact List.mem_singleton.mpr rfl)).trans q, r, RDs.mono e _ _ t, z⟩
theorem ROs.mono (e : Le F F') : ∀ {l : List (V × O)} {fp : List Addr}, (∀ a ∈ fp, H' a = H a) → ROs K F H l fp → ROs K F' H' l fp
  | [], fp, _, h => h
  | p :: l, fp, k, h => by
    obtain ⟨f, g, e1, q, r⟩ := h
    refine ⟨f, g, e1, q.mono e fun a ha => k a ?_, r.mono e fun a ha => k a ?_⟩
    · rw [e1]
      exact List.mem_append_left _ ha
    · rw [e1]
      exact List.mem_append_right _ ha
theorem ROs.perm : ∀ {l l' : List (V × O)}, l.Perm l' → ∀ {fp : List Addr}, ROs K F H l fp → ∃ fp', fp.Perm fp' ∧ ROs K F H l' fp' := by
  intro l l' p
  induction p with
  | nil => exact fun h => ⟨_, .refl _, h⟩
  | cons x _ ih =>
    intro fp h
    obtain ⟨f, g, e1, q, r⟩ := h
    obtain ⟨g', p', r'⟩ := ih r
    exact ⟨f ++ g', by rw [e1]; exact p'.append_left f, f, g', rfl, q, r'⟩
  | swap x y l =>
    intro fp h
    obtain ⟨f, g, e1, q, f2, g2, e2, q2, r⟩ := h
    refine ⟨f2 ++ (f ++ g2), ?_, f2, f ++ g2, rfl, q2, f, g2, rfl, q, r⟩
    rw [e1, e2, ← List.append_assoc, ← List.append_assoc]
    exact List.perm_append_comm.append_right g2
  | trans _ _ ih1 ih2 =>
    intro fp h
    obtain ⟨f1, p1, h1⟩ := ih1 h
    obtain ⟨f2, p2, h2⟩ := ih2 h1
    exact ⟨f2, p1.trans p2, h2⟩
theorem R.perm (h : R K H l) (p : l.Perm l') : R K H l' := by
  obtain ⟨F, fp, e, r, nd, n⟩ := h
  obtain ⟨fp', p', r'⟩ := r.perm p
  exact ⟨F, fp', e, r', p'.nodup_iff.mp nd, fun a ha => n a (p'.mem_iff.mpr ha)⟩
theorem R.tail {p : V × O} (h : R K H (p :: l)) : R K H l := by
  obtain ⟨F, fp, e, ⟨f, g, e1, _, r⟩, nd, n⟩ := h
  rw [e1] at nd n
  exact ⟨F, g, e, r, (List.nodup_append.mp nd).2.1, fun a ha => n a (List.mem_append_right _ ha)⟩
theorem R.drop : ∀ {m : List (V × O)}, R K H (m ++ l) → R K H l
  | [], h => h
  | _ :: m, h => R.drop (m := m) h.tail
/-- something more that is known of what is held -/
theorem R0.le (h : R0 K F H l) : Le F H := h.choose_spec.1
theorem R0.der (h : R0 K F H l) (f : RD K F d w) : R0 K F H ((w, .frz d) :: l) := by
  obtain ⟨fp, e, r, nd, n⟩ := h
  exact ⟨fp, e, ⟨[], fp, rfl, ⟨f, rfl⟩, r⟩, nd, n⟩
theorem ROs.mem {p : V × O} : ∀ {l : List (V × O)} {fp : List Addr}, p ∈ l → ROs K F H l fp → ∃ f, RO K F H p.2 p.1 f
  | [], _, h, _ => by cases h
  | q :: l, fp, h, r => by
    obtain ⟨f, g, e1, t, r⟩ := r
    rcases List.mem_cons.mp h with z | z
    · rw [z]
      exact ⟨f, t⟩
    · exact ROs.mem z r
theorem R0.mem {p : V × O} (h : R0 K F H l) (m : p ∈ l) : ∃ f, RO K F H p.2 p.1 f := by
  obtain ⟨fp, e, r, nd, n⟩ := h
  exact r.mem m
theorem R.lit (h : R K H l) (f : ∀ F, RD K F d w) : R K H ((w, .frz d) :: l) := by
  obtain ⟨F, h⟩ := h
  exact ⟨F, h.der (f F)⟩
theorem R.copy (h : R K H ((v, .frz d) :: l)) : R K H ((v, .frz d) :: (v, .frz d) :: l) := by
  obtain ⟨F, h⟩ := h
  obtain ⟨f, q⟩ := h.mem List.mem_cons_self
  exact ⟨F, h.der q.1⟩
theorem R.fpSome (r : ROs K F H l fp) : ∀ a ∈ fp, H a ≠ none := by
  induction l generalizing fp with
  | nil =>
    intro a ha
    have e : fp = [] := r
    rw [e] at ha
    cases ha
  | cons p l ih =>
    obtain ⟨f, g, e1, q, r⟩ := r
    intro a ha
    rw [e1] at ha
    rcases List.mem_append.mp ha with ha | ha
    · obtain ⟨v, o⟩ := p
      cases o with
      | frz d =>
        rw [q.2] at ha
        cases ha
      | lst ds =>
        obtain ⟨b, vs, e1, q, r, z⟩ := q
        rw [z] at ha
        rw [List.mem_singleton.mp ha, q]
        exact fun z => nomatch z
      | dK ds =>
        obtain ⟨b, vs, e1, q, r, t, z⟩ := q
        rw [z] at ha
        rw [List.mem_singleton.mp ha, q]
        exact fun z => nomatch z
      | dT ds =>
        obtain ⟨b, vs, e1, q, r, t, z⟩ := q
        rw [z] at ha
        rw [List.mem_singleton.mp ha, q]
        exact fun z => nomatch z
    · exact ih r a ha
/-- a new thing, data from the start -/
theorem R0.new {p : Addr} {u : HO} (h : R0 K F H l) (hp : H p = none) (f : F p = none → RD K (upd F p u) d (.ref p)) : R K (upd H p u) ((.ref p, .frz d) :: l) := by
  obtain ⟨fp, e, r, nd, n⟩ := h
  have hf : F p = none := e.free hp
  have np : ∀ a ∈ fp, a ≠ p := fun a ha z => R.fpSome r a ha (by rw [z]; exact hp)
  refine ⟨upd F p u, fp, e.putB, ⟨[], fp, rfl, ⟨f hf, rfl⟩, r.mono ((Le.refl F).put hf) fun a ha => upd_ne (np a ha)⟩, nd, fun a ha => ?_⟩
  rw [upd_ne (np a ha)]
  exact n a ha
/-- a new thing that nobody else knows -/
theorem R0.mk {p : Addr} {u : HO} (h : R0 K F H l) (hp : H p = none) (f : RO K F (upd H p u) o (.ref p) [p]) : R K (upd H p u) ((.ref p, o) :: l) := by
  obtain ⟨fp, e, r, nd, n⟩ := h
  have hf : F p = none := e.free hp
  have np : ∀ a ∈ fp, a ≠ p := fun a ha z => R.fpSome r a ha (by rw [z]; exact hp)
  refine ⟨F, p :: fp, e.put hf, ⟨[p], fp, rfl, f, r.mono (Le.refl F) fun a ha => upd_ne (np a ha)⟩, List.nodup_cons.mpr ⟨fun z => np p z rfl, nd⟩, fun a ha => ?_⟩
  rcases List.mem_cons.mp ha with z | z
  · rw [z]
    exact hf
  · exact n a z
theorem R0.mkL {p : Addr} {ds : List D} {vs : List V} (h : R0 K F H l) (hp : H p = none) (f : RDs K F ds vs) : R K (upd H p (.lst vs)) ((.ref p, .lst ds) :: l) :=
  h.mk hp ⟨p, vs, rfl, upd_same, f, rfl⟩
theorem R0.newT {p : Addr} {ds : List D} {vs : List V} (h : R0 K F H l) (hp : H p = none) (f : RDs K F ds vs) : R K (upd H p (.tup vs)) ((.ref p, .frz (.tup ds)) :: l) :=
  h.new hp fun hf => by
    unfold RD
    exact ⟨p, vs, rfl, SqT.of upd_same, RDs.mono ((Le.refl F).put hf) _ _ f⟩
/-- an owned cell is let go as data -/
theorem R.freeze (h : R K H ((v, o) :: l)) (ht : ∀ kvs, o ≠ .dT kvs) : R K H ((v, .frz o.data) :: l) := by
  obtain ⟨F, fp, e, ⟨f, g, e1, q, r⟩, nd, n⟩ := h
  cases o with
  | frz d => exact ⟨F, fp, e, ⟨f, g, e1, q, r⟩, nd, n⟩
  | dT kvs => exact absurd rfl (ht kvs)
  | lst ds =>
    obtain ⟨a, vs, e2, q, t, z⟩ := q
    rw [e1, z] at nd n
    have hf : F a = none := n a (List.mem_append_left _ (List.mem_singleton.mpr rfl))
    have na : ∀ b ∈ g, b ≠ a := fun b hb y => (List.nodup_append.mp nd).2.2 a (List.mem_singleton.mpr rfl) b hb y.symm
    refine ⟨upd F a (.lst vs), g, e.add q, ⟨[], g, rfl, ⟨?_, rfl⟩, r.mono ((Le.refl F).put hf) fun b _ => rfl⟩, (List.nodup_append.mp nd).2.1, fun b hb => ?_⟩
    · show RD K _ (.lst ds) v
      unfold RD
      exact ⟨a, vs, e2, upd_same, RDs.mono ((Le.refl F).put hf) _ _ t⟩
    · rw [upd_ne (na b hb)]
      exact n b (List.mem_append_right _ hb)
  | dK ds =>
    obtain ⟨a, vs, e2, q, k, t, z⟩ := q
    rw [e1, z] at nd n
    have hf : F a = none := n a (List.mem_append_left _ (List.mem_singleton.mpr rfl))
    have na : ∀ b ∈ g, b ≠ a := fun b hb y => (List.nodup_append.mp nd).2.2 a (List.mem_singleton.mpr rfl) b hb y.symm
    refine ⟨upd F a (.dK vs), g, e.add q, ⟨[], g, rfl, ⟨?_, rfl⟩, r.mono ((Le.refl F).put hf) fun b _ => rfl⟩, (List.nodup_append.mp nd).2.1, fun b hb => ?_⟩
    · show RD K _ (.dK _ _) v
      unfold RD
      exact ⟨a, vs, e2, upd_same, k, RDs.mono ((Le.refl F).put hf) _ _ t⟩
    · rw [upd_ne (na b hb)]
      exact n b (List.mem_append_right _ hb)
/-- an owned cell is changed -/
theorem R0.mut {a : Addr} {u : HO} {o' : O} (h : R0 K F H ((.ref a, o) :: l)) (ho : ∀ d, o ≠ .frz d) (key : RO K F (upd H a u) o' (.ref a) [a]) : R K (upd H a u) ((.ref a, o') :: l) := by
  obtain ⟨fp, e, r0, nd, n⟩ := h
  obtain ⟨f, g, e1, q, r⟩ := r0
  have hfp : f = [a] := by
    cases o with
    | frz d => exact absurd rfl (ho d)
    | lst ds =>
      obtain ⟨b, vs, e2, q, t, z⟩ := q
      rw [z, V.ref.inj e2]
    | dK ds =>
      obtain ⟨b, vs, e2, q, k, t, z⟩ := q
      rw [z, V.ref.inj e2]
    | dT ds =>
      obtain ⟨b, vs, e2, q, k, t, z⟩ := q
      rw [z, V.ref.inj e2]
  rw [e1, hfp] at nd n
  have na : ∀ b ∈ g, b ≠ a := fun b hb y => (List.nodup_append.mp nd).2.2 a (List.mem_singleton.mpr rfl) b hb y.symm
  have hf : F a = none := n a (List.mem_append_left _ (List.mem_singleton.mpr rfl))
  exact ⟨F, [a] ++ g, e.put hf, ⟨[a], g, rfl, key, r.mono (Le.refl F) fun b hb => upd_ne (na b hb)⟩, nd, n⟩
theorem R.lst {ds : List D} (h : R K H ((v, .lst ds) :: l)) : ∃ a vs, v = .ref a ∧ H a = some (.lst vs) ∧ vs.length = ds.length := by
  obtain ⟨F, fp, e, ⟨f, g, e1, ⟨a, vs, e2, q, t, z⟩, r⟩, nd, n⟩ := h
  exact ⟨a, vs, e2, q, t.length⟩
/-- two descriptions of one cell -/
theorem lst_inj {a : Addr} {vs ws : List V} (h : H a = some (.lst vs)) (h' : H a = some (.lst ws)) : vs = ws := by
  rw [h] at h'
  cases h'
  rfl
theorem R0.mutL {a : Addr} {ds ds' : List D} {vs' : List V} (h : R0 K F H ((.ref a, .lst ds) :: l)) (f : RDs K F ds' vs') :
    R K (upd H a (.lst vs')) ((.ref a, .lst ds') :: l) := h.mut (fun _ z => nomatch z) ⟨a, vs', rfl, upd_same, f, rfl⟩
end

/-! ### a def's names -/
abbrev Env := List (Option O)
def pairs : Env → St → List (V × O)
  | [], _ => []
  | _ :: _, [] => []
  | none :: e, _ :: s => pairs e s
  | some _ :: e, none :: s => pairs e s
  | some o :: e, some v :: s => (v, o) :: pairs e s
def Cov : Env → St → Prop
  | [], [] => True
  | none :: e, _ :: s => Cov e s
  | some _ :: e, some _ :: s => Cov e s
  | _, _ => False
theorem Cov.length : ∀ {e : Env} {s : St}, Cov e s → e.length = s.length
  | [], [], _ => rfl
  | none :: e, _ :: s, h => by
    rw [List.length_cons, List.length_cons, Cov.length (e := e) (s := s) h]
  | some _ :: e, some _ :: s, h => by
    rw [List.length_cons, List.length_cons, Cov.length (e := e) (s := s) h]
  | [], _ :: _, h => h.elim
  | none :: _, [], h => h.elim
  | some _ :: _, [], h => h.elim
  | some _ :: _, none :: _, h => h.elim
theorem Cov.get : ∀ {e : Env} {s : St} {i : Nat} {o : O}, Cov e s → e[i]? = some (some o) → ∃ v, s[i]? = some (some v) ∧ (pairs e s).Perm ((v, o) :: pairs (e.set i none) s)
  | [], [], _, _, _, h => by simp at h
  | none :: e, s1 :: s, 0, _, _, h => by simp at h
  | none :: e, s1 :: s, i + 1, _, c, h => by
    obtain ⟨v, hv, p⟩ := Cov.get (e := e) (s := s) (i := i) c (by simpa using h)
    exact ⟨v, by simpa using hv, p⟩
  | some o :: e, some v :: s, 0, _, c, h => by
    have e1 : o = _ := Option.some.inj (Option.some.inj h)
    rw [← e1]
    exact ⟨v, rfl, .refl _⟩
  | some o1 :: e, some v1 :: s, i + 1, o, c, h => by
    obtain ⟨v, hv, p⟩ := Cov.get (e := e) (s := s) (i := i) c (by simpa using h)
    refine ⟨v, by simpa using hv, ?_⟩
    show ((v1, o1) :: pairs e s).Perm ((v, o) :: (v1, o1) :: pairs (e.set i none) s)
    exact (p.cons _).trans (.swap _ _ _)
  | [], _ :: _, _, _, h, _ => h.elim
  | none :: _, [], _, _, h, _ => h.elim
  | some _ :: _, [], _, _, h, _ => h.elim
  | some _ :: _, none :: _, _, _, h, _ => h.elim
/-- a name gets something else, the slot as it is -/
theorem Cov.put : ∀ {e : Env} {s : St} {i : Nat} {o : O} {v : V}, Cov e s → s[i]? = some (some v) → Cov (e.set i (some o)) s ∧ (pairs (e.set i (some o)) s).Perm ((v, o) :: pairs (e.set i none) s)
  | [], [], _, _, _, _, h => by simp at h
  | none :: e, some v1 :: s, 0, o, v, c, h => by
    have e1 : v1 = v := Option.some.inj (Option.some.inj h)
    rw [e1]
    exact ⟨c, .refl _⟩
  | none :: e, none :: s, 0, o, v, c, h => by simp at h
  | none :: e, s1 :: s, i + 1, o, v, c, h => Cov.put (e := e) (s := s) (i := i) c (by simpa using h)
  | some o1 :: e, some v1 :: s, 0, o, v, c, h => by
    have e1 : v1 = v := Option.some.inj (Option.some.inj h)
    rw [e1]
    exact ⟨c, .refl _⟩
  | some o1 :: e, some v1 :: s, i + 1, o, v, c, h => by
    obtain ⟨c2, p⟩ := Cov.put (e := e) (s := s) (i := i) (o := o) c (by simpa using h)
    refine ⟨c2, ?_⟩
    show ((v1, o1) :: pairs (e.set i (some o)) s).Perm ((v, o) :: (v1, o1) :: pairs (e.set i none) s)
    exact (p.cons _).trans (.swap _ _ _)
  | [], _ :: _, _, _, _, h, _ => h.elim
  | none :: _, [], _, _, _, h, _ => h.elim
  | some _ :: _, [], _, _, _, h, _ => h.elim
  | some _ :: _, none :: _, _, _, _, h, _ => h.elim
/-- a name is stored -/
theorem Cov.store : ∀ {e : Env} {s : St} {i : Nat} {o : O} {v : V}, Cov e s → i < s.length → Cov (e.set i (some o)) (s.set i (some v)) ∧ (pairs (e.set i (some o)) (s.set i (some v))).Perm ((v, o) :: pairs (e.set i none) s)
  | [], [], _, _, _, _, h => by simp at h
  | none :: e, _ :: s, 0, o, v, c, h => ⟨c, .refl _⟩
  | none :: e, s1 :: s, i + 1, o, v, c, h => Cov.store (e := e) (s := s) (i := i) c (by simpa using h)
  | some o1 :: e, some v1 :: s, 0, o, v, c, h => ⟨c, .refl _⟩
  | some o1 :: e, some v1 :: s, i + 1, o, v, c, h => by
    obtain ⟨c2, p⟩ := Cov.store (e := e) (s := s) (i := i) (o := o) (v := v) c (by simpa using h)
    refine ⟨c2, ?_⟩
    show ((v1, o1) :: pairs (e.set i (some o)) (s.set i (some v))).Perm ((v, o) :: (v1, o1) :: pairs (e.set i none) s)
    exact (p.cons _).trans (.swap _ _ _)
  | [], _ :: _, _, _, _, h, _ => h.elim
  | none :: _, [], _, _, _, h, _ => h.elim
  | some _ :: _, [], _, _, _, h, _ => h.elim
  | some _ :: _, none :: _, _, _, _, h, _ => h.elim
theorem Cov.clear : ∀ {e : Env} {s : St} {i : Nat}, Cov e s → Cov (e.set i none) s ∧ ∃ m, (pairs e s).Perm (m ++ pairs (e.set i none) s)
  | [], [], _, c => ⟨c, [], .refl _⟩
  | none :: e, _ :: s, 0, c => ⟨c, [], .refl _⟩
  | none :: e, s1 :: s, i + 1, c => Cov.clear (e := e) (s := s) (i := i) c
  | some o1 :: e, some v1 :: s, 0, c => ⟨c, [(v1, o1)], .refl _⟩
  | some o1 :: e, some v1 :: s, i + 1, c => by
    obtain ⟨c2, m, p⟩ := Cov.clear (e := e) (s := s) (i := i) c
    refine ⟨c2, m, ?_⟩
    show ((v1, o1) :: pairs e s).Perm (m ++ (v1, o1) :: pairs (e.set i none) s)
    exact (p.cons _).trans List.perm_middle.symm
  | [], _ :: _, _, h => h.elim
  | none :: _, [], _, h => h.elim
  | some _ :: _, [], _, h => h.elim
  | some _ :: _, none :: _, _, h => h.elim

/-- the state: names (some of them pinned to what they refer to), and what else is held -/
structure S (K : PySem.W.Frag) (pv : Nat → Option V) (e : Env) (σ : St) (rest : List (V × O)) (H : Hp) : Prop where
  cov : Cov e σ
  pin : ∀ i v, pv i = some v → σ[i]? = some (some v)
  res : R K H (pairs e σ ++ rest)
section
variable {K : PySem.W.Frag} {pv : Nat → Option V} {e e' : Env} {σ : St} {rest : List (V × O)} {H H' : Hp} {v w : V} {o : O} {d : D} {i : Nat}
theorem perm_in {α : Type} {a : α} {l r : List α} : (l ++ a :: r).Perm (a :: (l ++ r)) := List.perm_middle
/-- the state, what is nearest ahead -/
theorem S.front {p : V × O} (s : S K pv e σ (p :: rest) H) : R K H (p :: (pairs e σ ++ rest)) := s.res.perm perm_in
theorem S.back {p : V × O} (c : Cov e σ) (hp : ∀ i v, pv i = some v → σ[i]? = some (some v)) (r : R K H (p :: (pairs e σ ++ rest))) : S K pv e σ (p :: rest) H := ⟨c, hp, r.perm perm_in.symm⟩
theorem S.drop {p : V × O} (s : S K pv e σ (p :: rest) H) : S K pv e σ rest H := ⟨s.cov, s.pin, s.front.tail⟩
/-- any change of what is held, names aside -/
theorem S.go {rest' : List (V × O)} (s : S K pv e σ rest H) (f : ∀ l, R K H (rest ++ l) → R K H' (rest' ++ l)) : S K pv e σ rest' H' :=
  ⟨s.cov, s.pin, (f (pairs e σ) (s.res.perm List.perm_append_comm)).perm List.perm_append_comm⟩
end
end LR

set_option Elab.async false
set_option linter.all false
set_option maxRecDepth 100000
set_option maxHeartbeats 2000000
/-! What expressions, statements come to, by value. -/
namespace LR
open PySem L2

inductive Res (α : Type) where
  | fail
  | ok (a : α) (e : Env)
  | exc (c : Str) (e : Env)
def Res.bind {α β : Type} : Res α → (α → Env → Res β) → Res β
  | .fail, _ => .fail
  | .ok a e, f => f a e
  | .exc c e, _ => .exc c e
theorem Res.bind_bind {α β γ : Type} (r : Res α) (f : α → Env → Res β) (h : β → Env → Res γ) : (r.bind f).bind h = r.bind fun a e => (f a e).bind h := by
  cases r <;> rfl
@[simp] theorem Res.bind_ok {α β : Type} {a : α} {e : Env} {f : α → Env → Res β} : (Res.ok a e).bind f = f a e := rfl
@[simp] theorem Res.bind_fail {α β : Type} {f : α → Env → Res β} : (Res.fail).bind f = .fail := rfl
@[simp] theorem Res.bind_exc {α β : Type} {c : Str} {e : Env} {f : α → Env → Res β} : (Res.exc c e).bind f = .exc c e := rfl
def post {α : Type} (r : Res α) (ok : α → Env → Prop) (ex : Str → Env → Prop) : Prop :=
  match r with
  | .fail => False
  | .ok a e => ok a e
  | .exc c e => ex c e
theorem post_bind {α β : Type} {r : Res α} {f : α → Env → Res β} {ok : β → Env → Prop} {ex : Str → Env → Prop} : post (r.bind f) ok ex = post r (fun a e => post (f a e) ok ex) ex := by
  cases r <;> rfl
theorem post.imp {α : Type} {r : Res α} {ok ok' : α → Env → Prop} {ex ex' : Str → Env → Prop} (h : post r ok ex) (f : ∀ a e, ok a e → ok' a e) (g : ∀ c e, ex c e → ex' c e) : post r ok' ex' := by
  cases r with
  | fail => exact h.elim
  | ok a e => exact f a e h
  | exc c e => exact g c e h
abbrev M (α : Type) := Env → Res α

/-! ### operands that are read where they stand -/
inductive Opd where
  | dat (d : D)
  | slot (i : Nat)
def Env.at (e : Env) (i : Nat) : Option O := (e[i]?).join
def Opd.look (e : Env) : Opd → Option O
  | .dat d => some (.frz d)
  | .slot i => e.at i
/-- as data (a dict with tuples for keys is none) -/
def O.val : O → Option D
  | .dT _ => none
  | o => some o.data
def Opd.val (e : Env) (p : Opd) : Option D := (p.look e).bind O.val

def xVar (i : Nat) : M O := fun e => match e.at i with
  | some (.frz d) => .ok (.frz d) e
  | some (.lst ds) => .ok (.frz (.lst ds)) (e.set i (some (.frz (.lst ds))))
  | some (.dK kvs) => .ok (.frz (O.dK kvs).data) (e.set i (some (.frz (O.dK kvs).data)))
  | _ => .fail
def rVar (i : Nat) : M Opd := fun e => match e.at i with
  | some (.frz d) => .ok (.dat d) e
  | some _ => .ok (.slot i) e
  | none => .fail
def toR (x : M O) : M Opd := fun e => (x e).bind fun o e1 => match o.val with
  | some d => .ok (.dat d) e1
  | none => .fail
def toV (x : M O) : M D := fun e => (x e).bind fun o e1 => match o.val with
  | some d => .ok d e1
  | none => .fail
def xLit (d : D) : M O := fun e => .ok (.frz d) e
def xFail : M O := fun _ => .fail
def allM {α : Type} : List (M α) → M (List α)
  | [] => fun e => .ok [] e
  | x :: r => fun e => (x e).bind fun a e1 => (allM r e1).bind fun l e2 => .ok (a :: l) e2
def small (n : Nat) : Bool := decide (n ≤ 100000)
def xTup (xs : List (M D)) : M O := fun e => (allM xs e).bind fun ds e1 => if small ds.length then .ok (.frz (.tup ds)) e1 else .fail
def xLst (xs : List (M D)) : M O := fun e => (allM xs e).bind fun ds e1 => if small ds.length then .ok (.lst ds) e1 else .fail
def give {α : Type} (o : Option α) (e : Env) : Res α := match o with
  | some a => .ok a e
  | none => .fail
@[simp] theorem give_some {α : Type} {a : α} {e : Env} : give (some a) e = .ok a e := rfl
@[simp] theorem give_none {α : Type} {e : Env} : give (none : Option α) e = .fail := rfl
def op2 {α : Type} (g : D → D → Option α) (a b : M Opd) : M α := fun e => (a e).bind fun p e1 => (b e1).bind fun q e2 => give ((p.val e2).bind fun x => (q.val e2).bind fun y => g x y) e2
def op1 {α : Type} (g : D → Option α) (a : M Opd) : M α := fun e => (a e).bind fun p e1 => give ((p.val e1).bind g) e1

/-! ### operators -/
/-- sizes of products -/
def CM (i j : Int) : Prop := i.natAbs.log2 + j.natAbs.log2 < 1000000
instance (i j : Int) : Decidable (CM i j) := inferInstanceAs (Decidable (_ < _))
/-- divisors -/
def CF (j : Int) : Prop := j ≠ 0 ∧ j.natAbs.log2 < 9000
instance (j : Int) : Decidable (CF j) := inferInstanceAs (Decidable (_ ∧ _))
def dAdd : D → D → Option O
  | .int i, .int j => some (.frz (.int (i + j)))
  | .str s, .str t => if small (s.length + t.length) then some (.frz (.str (s ++ t))) else none
  | .tup a, .tup b => if small (a.length + b.length) then some (.frz (.tup (a ++ b))) else none
  | .lst a, .lst b => if small (a.length + b.length) then some (.lst (a ++ b)) else none
  | _, _ => none
def dSub : D → D → Option O
  | .int i, .int j => some (.frz (.int (i - j)))
  | _, _ => none
def dMul : D → D → Option O
  | .int i, .int j => if CM i j then some (.frz (.int (i * j))) else none
  | .tup a, .int j => if 1 ≤ j ∧ j ≤ 1000 ∧ a ≠ [] ∧ a.length ≤ 1000 then some (.frz (.tup (List.replicate j.toNat a).flatten)) else none
  | .lst a, .int j => if j ≤ 1000 ∧ -1000 ≤ j ∧ small (a.length * j.toNat) then some (.lst (List.replicate j.toNat a).flatten) else none
  | _, _ => none
def dDiv : D → D → Option O
  | .int i, .int j => if CF j then some (.frz (.int (i.fdiv j))) else none
  | _, _ => none
def dMod : D → D → Option O
  | .int i, .int j => if j ≠ 0 then some (.frz (.int (i.fmod j))) else none
  | _, _ => none
def dPow : D → D → Option O
  | .int i, .int j => if 0 ≤ j ∧ j ≤ 1000 ∧ i.natAbs < 2 ^ 64 then some (.frz (.int (i ^ j.toNat))) else none
  | _, _ => none
def dBin : Operator → D → D → Option O
  | .Add => dAdd
  | .Sub => dSub
  | .Mult => dMul
  | .FloorDiv => dDiv
  | .Mod => dMod
  | .Pow => dPow
  | _ => fun _ _ => none

/-! ### comparisons -/
mutual
/-- python's == of data -/
def D.eqv : D → D → Bool
  | .non, .non => true
  | .bl a, .bl b => a == b
  | .int a, .int b => decide (a = b)
  | .bl a, .int b => decide ((if a then 1 else 0) = b)
  | .int a, .bl b => decide (a = (if b then 1 else 0))
  | .str a, .str b => decide (a = b)
  | .tup a, .tup b => D.eqvs a b
  | .lst a, .lst b => D.eqvs a b
  | _, _ => false
def D.eqvs : List D → List D → Bool
  | [], [] => true
  | a :: r, b :: s => D.eqv a b && D.eqvs r s
  | _, _ => false
end
mutual
/-- data that may be compared; its depth -/
def D.deep : Nat → D → Bool
  | _, .scr _ => false
  | _, .dK _ _ => false
  | _, .str s => PyData.strOk s
  | n + 1, .tup a => small a.length && D.deeps n a
  | n + 1, .lst a => small a.length && D.deeps n a
  | 0, .tup _ => false
  | 0, .lst _ => false
  | _, _ => true
def D.deeps : Nat → List D → Bool
  | _, [] => true
  | n, a :: r => D.deep n a && D.deeps n r
end
def dEq (x y : D) : Option Bool := if x.deep 12 && y.deep 12 then some (x.eqv y) else none
def dNe (x y : D) : Option Bool := (dEq x y).map (!·)
def dLt : D → D → Option Bool
  | .int i, .int j => some (decide (i < j))
  | .str s, .str t => some (decide (s.cps.toList < t.cps.toList))
  | _, _ => none
def dLe : D → D → Option Bool
  | .int i, .int j => some (decide (i ≤ j))
  | _, _ => none
def dGt : D → D → Option Bool
  | .int i, .int j => some (decide (j < i))
  | _, _ => none
def dGe : D → D → Option Bool
  | .int i, .int j => some (decide (j ≤ i))
  | _, _ => none
def dIs : D → D → Option Bool
  | .non, .non => some true
  | .scr _, .non => none
  | .bl _, .non => some false
  | .int _, .non => some false
  | .str _, .non => some false
  | .tup _, .non => some false
  | .lst _, .non => some false
  | .dK _ _, .non => some false
  | _, _ => none
def D.flat : D → Bool
  | .non => true
  | .bl _ => true
  | .int _ => true
  | .str _ => true
  | _ => false
def dKey : D → Option Key
  | .int i => some (.inl i)
  | .str s => some (.inr s)
  | _ => none
def dIn : D → D → Option Bool
  | .str s, .str t => match s.cps.toList with
    | [c] => some (decide (c ∈ t.cps.toList))
    | _ => none
  | x, .tup ds => if x.flat && ds.all D.flat then some (ds.any fun y => y.eqv x) else none
  | x, .lst ds => if x.deep 12 && (D.lst ds).deep 12 then some (ds.any fun y => y.eqv x) else none
  | x, .dK ks ds => (dKey x).map fun k => ks.any fun j => decide (j = k)
  | _, _ => none
def dNotIn (x y : D) : Option Bool := (dIn x y).map (!·)
def dCmp : CmpOp → D → D → Option Bool
  | .Lt => dLt
  | .LtE => dLe
  | .Gt => dGt
  | .GtE => dGe
  | .Eq => dEq
  | .NotEq => dNe
  | .In => dIn
  | .NotIn => dNotIn
  | .Is => dIs
  | .IsNot => fun x y => (dIs x y).map (!·)
def ofB (x : M Bool) : M O := fun e => (x e).bind fun b e1 => .ok (.frz (.bl b)) e1
def toB (x : M O) : M Bool := fun e => (x e).bind fun o e1 => match o with
  | .frz (.bl b) => .ok b e1
  | _ => .fail
def bCmp (op : CmpOp) (a b : M Opd) : M Bool := op2 (dCmp op) a b
/-- a op b op' c, of ints -/
def bChain (op op' : CmpOp) (a b c : M Opd) : M Bool := fun e => (a e).bind fun p e1 => (b e1).bind fun q e2 => (give ((p.val e2).bind fun x => (q.val e2).bind fun y => dCmp op x y) e2).bind fun k e3 =>
  if k then (c e3).bind fun r e4 => give ((q.val e4).bind fun y => (r.val e4).bind fun z => dCmp op' y z) e4 else .ok false e3
def bNot (a : M Bool) : M Bool := fun e => (a e).bind fun b e1 => .ok (!b) e1
def bAnd : List (M Bool) → M Bool
  | [] => fun _ => .fail
  | [a] => a
  | a :: b :: r => fun e => (a e).bind fun k e1 => if k then bAnd (b :: r) e1 else .ok false e1
def bOr : List (M Bool) → M Bool
  | [] => fun _ => .fail
  | [a] => a
  | a :: b :: r => fun e => (a e).bind fun k e1 => if k then .ok true e1 else bOr (b :: r) e1
def xIf (t : M Bool) (a b : M O) : M O := fun e => (t e).bind fun k e1 => if k then a e1 else b e1
def dNeg : D → Option O
  | .int i => some (.frz (.int (-i)))
  | _ => none

/-! ### items and slices -/
def findK {κ α : Type} [DecidableEq κ] (kvs : List (κ × α)) (k : κ) : Option α := (kvs.find? fun kv => decide (kv.1 = k)).map (·.2)
def dIx : D → D → Option O
  | .tup ds, .int i => (atI ds i).map .frz
  | .lst ds, .int i => (atI ds i).map .frz
  | .scr ns, .int i => (atI ns i).map fun n => .frz (.int n)
  | .str s, .int i => if s.length ≤ 100000 then (atI s.cps.toList i).map fun c => .frz (.str ⟨#[c]⟩) else none
  | .dK ks ds, x => (dKey x).bind fun k => (findK (ks.zip ds) k).map .frz
  | _, _ => none
def xIx (a b : M Opd) : M O := op2 dIx a b
def cut {α : Type} (xs : List α) (lo hi : Option Int) : List α := (xs.drop (HT.sIx xs.length 0 lo)).take (HT.sIx xs.length xs.length hi - HT.sIx xs.length 0 lo)
def dSl (lo hi : Option Int) : D → Option O
  | .tup ds => some (.frz (.tup (cut ds lo hi)))
  | .lst ds => some (.lst (cut ds lo hi))
  | _ => none
def mOpt (x : Option (M O)) : M (Option Int) := match x with
  | none => fun e => .ok none e
  | some f => fun e => (f e).bind fun o e1 => match o with
    | .frz (.int i) => .ok (some i) e1
    | _ => .fail
def xSl (a : M Opd) (lo hi : Option (M O)) : M O := fun e => (a e).bind fun p e1 => (mOpt lo e1).bind fun l e2 => (mOpt hi e2).bind fun h e3 => give ((p.val e3).bind (dSl l h)) e3

/-! ### calls of what is built in -/
def allR : List (M Opd) → M (List Opd)
  | [] => fun e => .ok [] e
  | x :: r => fun e => (x e).bind fun a e1 => (allR r e1).bind fun l e2 => .ok (a :: l) e2
def valsOf (e : Env) : List Opd → Option (List D)
  | [] => some []
  | p :: r => (p.val e).bind fun d => (valsOf e r).bind fun ds => some (d :: ds)
def opN {α : Type} (g : List D → Option α) (xs : List (M Opd)) : M α := fun e => (allR xs e).bind fun ps e1 => give ((valsOf e1 ps).bind g) e1
def boolsOf : List D → Option (List Bool)
  | [] => some []
  | .bl b :: r => (boolsOf r).map (b :: ·)
  | _ :: _ => none
def intsOf : List D → Option (List Int)
  | [] => some []
  | .int b :: r => (intsOf r).map (b :: ·)
  | _ :: _ => none
def maxI : List Int → Int
  | [] => 0
  | [a] => a
  | a :: r => max a (maxI r)
def bLen : List D → Option O
  | [.tup ds] => some (.frz (.int ds.length))
  | [.lst ds] => some (.frz (.int ds.length))
  | [.scr ns] => some (.frz (.int ns.length))
  | [.str s] => if small s.length then some (.frz (.int s.length)) else none
  | _ => none
def bTuple : List D → Option O
  | [.tup ds] => some (.frz (.tup ds))
  | [.lst ds] => some (.frz (.tup ds))
  | _ => none
def bList : List D → Option O
  | [.tup ds] => some (.lst ds)
  | [.lst ds] => some (.lst ds)
  | _ => none
def bAll : List D → Option O
  | [.lst ds] => (boolsOf ds).map fun bs => .frz (.bl (bs.all id))
  | _ => none
def bAny : List D → Option O
  | [.lst ds] => (boolsOf ds).map fun bs => .frz (.bl (bs.any id))
  | _ => none
def bAbs : List D → Option O
  | [.int i] => some (.frz (.int (if i < 0 then -i else i)))
  | _ => none
def bInt : List D → Option O
  | [.int i] => some (.frz (.int i))
  | [.bl b] => some (.frz (.int (if b then 1 else 0)))
  | _ => none
def bMax : List D → Option O
  | [.int i, .int j] => some (.frz (.int (if j > i then j else i)))
  | [.lst ds] => (intsOf ds).bind fun ns => if ns = [] then none else some (.frz (.int (maxI ns)))
  | _ => none
def bMin : List D → Option O
  | [.int i, .int j] => some (.frz (.int (if j < i then j else i)))
  | _ => none
inductive Blt where
  | len | tuple | list | all | any | abs | int | max | min
def bOf : Blt → List D → Option O
  | .len => bLen
  | .tuple => bTuple
  | .list => bList
  | .all => bAll
  | .any => bAny
  | .abs => bAbs
  | .int => bInt
  | .max => bMax
  | .min => bMin
def isI (T : String) : D → Option Bool
  | .non => some false
  | .bl _ => some (T == "int" || T == "bool")
  | .int _ => some (T == "int")
  | .str _ => some (T == "str")
  | .tup _ => some (T == "tuple")
  | .lst _ => some (T == "list")
  | _ => none

/-! ### calls of defs -/
/-- what a def comes to: its value, what became of the things it was handed -/
inductive CRes where
  | fail
  | ok (o : O) (outs : Env)
  | exc (c : Str) (outs : Env)
/-- what is handed on -/
def takeS : List Opd → Env → Option (List O × Env)
  | [], e => some ([], e)
  | .dat d :: ps, e => (takeS ps e).map fun r => (.frz d :: r.1, r.2)
  | .slot i :: ps, e => (e.at i).bind fun o => (takeS ps (e.set i none)).map fun r => (o :: r.1, r.2)
/-- what comes back -/
def putS : List Opd → Env → Env → Env
  | .slot i :: ps, some o :: os, e => putS ps os (e.set i (some o))
  | _ :: ps, _ :: os, e => putS ps os e
  | _, _, e => e
def CRes.put (ps : List Opd) (e : Env) : CRes → Res O
  | .fail => .fail
  | .ok o outs => .ok o (putS ps outs e)
  | .exc c outs => .exc c (putS ps outs e)
def xCall (g : List O → CRes) (dflt : List D) (xs : List (M Opd)) : M O := fun e => (allR xs e).bind fun ps e1 => match takeS ps e1 with
  | none => .fail
  | some r => (g (r.1 ++ dflt.map O.frz)).put ps r.2
/-- an argument by value -/
def toA (x : M O) : M Opd := fun e => (toV x e).bind fun d e1 => .ok (.dat d) e1
def xIsI (T : String) (a : M Opd) : M O := op1 (fun d => (isI T d).map fun b => .frz (.bl b)) a
end LR

set_option Elab.async false
set_option linter.all false
set_option maxRecDepth 100000
set_option maxHeartbeats 2000000
/-! The machine does what LREval says: names, displays, operators, comparisons, items. -/
namespace LR
open PySem L2

/-! ### the state, what is data told -/
structure S0 (K : PySem.W.Frag) (F : Hp) (pv : Nat → Option V) (e : Env) (σ : St) (rest : List (V × O)) (H : Hp) : Prop where
  cov : Cov e σ
  pin : ∀ i v, pv i = some v → σ[i]? = some (some v)
  res : R0 K F H (pairs e σ ++ rest)
section
variable {K : PySem.W.Frag} {F : Hp} {pv : Nat → Option V} {e e' : Env} {σ : St} {rest rest' l : List (V × O)} {H H' : Hp} {v w : V} {o : O} {d : D} {i : Nat}
theorem R0.perm {l' : List (V × O)} (h : R0 K F H l) (p : l.Perm l') : R0 K F H l' := by
  obtain ⟨fp, e, r, nd, n⟩ := h
  obtain ⟨fp', p', r'⟩ := r.perm p
  exact ⟨fp', e, r', p'.nodup_iff.mp nd, fun a ha => n a (p'.mem_iff.mpr ha)⟩
theorem S.opn (s : S K pv e σ rest H) : ∃ F, S0 K F pv e σ rest H := by
  obtain ⟨F, r⟩ := s.res
  exact ⟨F, s.cov, s.pin, r⟩
theorem S0.cl (s : S0 K F pv e σ rest H) : S K pv e σ rest H := ⟨s.cov, s.pin, F, s.res⟩
theorem S0.le (s : S0 K F pv e σ rest H) : Le F H := s.res.le
theorem S0.add (s : S0 K F pv e σ rest H) (f : RD K F d w) : S0 K F pv e σ ((w, .frz d) :: rest) H := ⟨s.cov, s.pin, (s.res.der f).perm perm_in.symm⟩
theorem S0.newT {p : Addr} {ds : List D} {vs : List V} (s : S0 K F pv e σ rest H) (hp : H p = none) (f : RDs K F ds vs) : S K pv e σ ((.ref p, .frz (.tup ds)) :: rest) (upd H p (.tup vs)) :=
  ⟨s.cov, s.pin, (s.res.newT hp f).perm perm_in.symm⟩
theorem S0.mkL {p : Addr} {ds : List D} {vs : List V} (s : S0 K F pv e σ rest H) (hp : H p = none) (f : RDs K F ds vs) : S K pv e σ ((.ref p, .lst ds) :: rest) (upd H p (.lst vs)) :=
  ⟨s.cov, s.pin, (s.res.mkL hp f).perm perm_in.symm⟩
theorem S.lit (s : S K pv e σ rest H) (f : ∀ F, RD K F d w) : S K pv e σ ((w, .frz d) :: rest) H := ⟨s.cov, s.pin, (s.res.lit f).perm perm_in.symm⟩
theorem S.bl (s : S K pv e σ rest H) (b : Bool) : S K pv e σ ((.bl b, .frz (.bl b)) :: rest) H := s.lit fun F => by unfold RD; rfl
theorem S.int (s : S K pv e σ rest H) (i : Int) : S K pv e σ ((.int i, .frz (.int i)) :: rest) H := s.lit fun F => by unfold RD; rfl
theorem S.str (s : S K pv e σ rest H) (i : Str) : S K pv e σ ((.str i, .frz (.str i)) :: rest) H := s.lit fun F => by unfold RD; rfl
theorem S.frz (s : S K pv e σ ((v, o) :: rest) H) (h : o.val = some d) : S K pv e σ ((v, .frz d) :: rest) H := by
  have ht : ∀ kvs, o ≠ .dT kvs := fun kvs z => by
    rw [z] at h
    cases h
  have hd : o.data = d := by
    cases o with
    | dT kvs => exact absurd rfl (ht kvs)
    | frz d => exact Option.some.inj h
    | lst ds => exact Option.some.inj h
    | dK ds => exact Option.some.inj h
  rw [← hd]
  exact S.back s.cov s.pin (s.front.freeze ht)

/-! ### what an operand stands for -/
def opdR : Opd → V → List (V × O) → List (V × O)
  | .dat d, v, r => (v, .frz d) :: r
  | .slot _, _, r => r
def Has (p : Opd) (v : V) (σ : St) (rest : List (V × O)) : Prop := match p with
  | .dat d => (v, O.frz d) ∈ rest
  | .slot i => σ[i]? = some (some v)
def opdS (p : Opd) (v : V) (σ : St) : Prop := match p with
  | .dat _ => True
  | .slot i => σ[i]? = some (some v)
theorem Has.of {p : Opd} (h : opdS p v σ) : Has p v σ (opdR p v rest) := by
  cases p with
  | dat d => exact List.mem_cons_self
  | slot i => exact h
theorem Has.mono {p : Opd} (h : Has p v σ rest) (s : ∀ x, x ∈ rest → x ∈ rest') : Has p v σ rest' := by
  cases p with
  | dat d => exact s _ h
  | slot i => exact h
theorem opdR_sub {p : Opd} : ∀ x, x ∈ rest → x ∈ opdR p v rest := fun x hx => by
  cases p with
  | dat d => exact List.mem_cons_of_mem _ hx
  | slot i => exact hx
theorem S.unopd {p : Opd} (s : S K pv e σ (opdR p v rest) H) : S K pv e σ rest H := by
  cases p with
  | dat d => exact s.drop
  | slot i => exact s
theorem S.drop2 {x y : V × O} (s : S K pv e σ (x :: y :: rest) H) : S K pv e σ (x :: rest) H := S.back s.cov s.pin (((S.front s).perm ((List.Perm.cons _ perm_in).trans (.swap _ _ _))).tail)
theorem S.unopd2 {x : V × O} {p : Opd} (s : S K pv e σ (x :: opdR p v rest) H) : S K pv e σ (x :: rest) H := by
  cases p with
  | dat d => exact s.drop2
  | slot i => exact s
theorem Env.at_get {e : Env} {i : Nat} {o : O} (h : e.at i = some o) : e[i]? = some (some o) := by
  unfold Env.at at h
  cases q : e[i]? with
  | none =>
    rw [q] at h
    cases h
  | some x =>
    rw [q] at h
    have h : x = some o := h
    rw [h]
theorem Has.mem {p : Opd} (s : S0 K F pv e σ rest H) (h : Has p v σ rest) (hl : p.look e = some o) : (v, o) ∈ pairs e σ ++ rest := by
  cases p with
  | dat d =>
    have e1 : O.frz d = o := Option.some.inj hl
    rw [← e1]
    exact List.mem_append_right _ h
  | slot i =>
    have h : σ[i]? = some (some v) := h
    have hl : e.at i = some o := hl
    obtain ⟨w, hw, p⟩ := Cov.get s.cov (Env.at_get hl)
    rw [h] at hw
    have e1 : v = w := Option.some.inj (Option.some.inj hw)
    rw [e1]
    exact List.mem_append_left _ (p.mem_iff.mpr List.mem_cons_self)
/-- what an operand's value is: the thing itself in the heap, its parts data -/
def VW (K : PySem.W.Frag) (F H : Hp) : D → V → Prop
  | .tup ds, v => ∃ a vs, v = .ref a ∧ SqT K F a vs ∧ RDs K F ds vs
  | .lst ds, v => ∃ a vs, v = .ref a ∧ H a = some (.lst vs) ∧ RDs K F ds vs
  | .scr ns, v => ∃ a, v = .ref a ∧ SqL K H a (ns.map V.int)
  | .dK ks ds, v => ∃ a ws, v = .ref a ∧ H a = some (.dK ws) ∧ ws.map (·.1) = ks ∧ RDs K F ds (ws.map (·.2))
  | .non, v => v = .non
  | .bl b, v => v = .bl b
  | .int i, v => v = .int i
  | .str x, v => v = .str x
theorem RD.vw (le : Le F H) : ∀ {d : D} {v : V}, RD K F d v → VW K F H d v
  | .tup ds, v, h => by
    unfold RD at h
    obtain ⟨a, vs, e1, q, r⟩ := h
    exact ⟨a, vs, e1, q, r⟩
  | .lst ds, v, h => by
    unfold RD at h
    obtain ⟨a, vs, e1, q, r⟩ := h
    exact ⟨a, vs, e1, le _ _ q, r⟩
  | .scr ds, v, h => by
    unfold RD at h
    obtain ⟨a, e1, q⟩ := h
    exact ⟨a, e1, le.sqL q⟩
  | .dK ks ds, v, h => by
    unfold RD at h
    obtain ⟨a, ws, e1, q, k, r⟩ := h
    exact ⟨a, ws, e1, le _ _ q, k, r⟩
  | .non, v, h => by unfold RD at h; exact h
  | .bl b, v, h => by unfold RD at h; exact h
  | .int i, v, h => by unfold RD at h; exact h
  | .str x, v, h => by unfold RD at h; exact h
theorem RO.vw (le : Le F H) {f : List Addr} (h : RO K F H o v f) (hv : o.val = some d) : VW K F H d v := by
  cases o with
  | frz c =>
    have e1 : c = d := Option.some.inj hv
    rw [← e1]
    exact h.1.vw le
  | lst ds =>
    have e1 : D.lst ds = d := Option.some.inj hv
    obtain ⟨a, vs, e2, q, r, z⟩ := h
    rw [← e1]
    exact ⟨a, vs, e2, q, r⟩
  | dK kvs =>
    have e1 : D.dK _ _ = d := Option.some.inj hv
    obtain ⟨a, vs, e2, q, k, r, z⟩ := h
    rw [← e1]
    exact ⟨a, vs, e2, q, k, r⟩
  | dT kvs => cases hv
theorem val_look {p : Opd} (h : p.val e = some d) : ∃ o, p.look e = some o ∧ o.val = some d := by
  unfold Opd.val at h
  cases q : p.look e with
  | none =>
    rw [q] at h
    cases h
  | some o =>
    rw [q] at h
    exact ⟨o, rfl, h⟩
theorem S0.vw {p : Opd} (s : S0 K F pv e σ rest H) (h : Has p v σ rest) (hv : p.val e = some d) : VW K F H d v := by
  obtain ⟨o, ho, hd⟩ := val_look hv
  obtain ⟨f, r⟩ := s.res.mem (h.mem s ho)
  exact r.vw s.le hd
/-- a value that is data through and through, in the heap as it stands -/
theorem VW.rd (le : Le F H) : ∀ {d : D} {v : V}, VW K F H d v → RD K H d v
  | .tup ds, v, h => by
    unfold RD
    obtain ⟨a, vs, e1, q, r⟩ := h
    exact ⟨a, vs, e1, le.sqT q, RDs.mono le _ _ r⟩
  | .lst ds, v, h => by
    unfold RD
    obtain ⟨a, vs, e1, q, r⟩ := h
    exact ⟨a, vs, e1, q, RDs.mono le _ _ r⟩
  | .scr ds, v, h => by
    unfold RD
    exact h
  | .dK ks ds, v, h => by
    unfold RD
    obtain ⟨a, ws, e1, q, k, r⟩ := h
    exact ⟨a, ws, e1, q, k, RDs.mono le _ _ r⟩
  | .non, v, h => by unfold RD; exact h
  | .bl b, v, h => by unfold RD; exact h
  | .int i, v, h => by unfold RD; exact h
  | .str x, v, h => by unfold RD; exact h
end

/-! ### readings -/
section
variable (K : PySem.W.Frag) (W : WX) (cl : Str → Value)
def rX (f : M O) : TE := fun σ H Q => ∃ pv e rest, S K pv e σ rest H ∧ post (f e) (fun o e' => ∀ v H', S K pv e' σ ((v, o) :: rest) H' → Q v H') (fun c e' => ∀ H', S K pv e' σ rest H' → W (cl c) none σ H')
def rR (f : M Opd) : TE := fun σ H Q => ∃ pv e rest, S K pv e σ rest H ∧ post (f e) (fun p e' => ∀ v H', opdS p v σ → S K pv e' σ (opdR p v rest) H' → Q v H') (fun c e' => ∀ H', S K pv e' σ rest H' → W (cl c) none σ H')
def rV (f : M D) : TE := fun σ H Q => ∃ pv e rest, S K pv e σ rest H ∧ post (f e) (fun d e' => ∀ v H', S K pv e' σ ((v, .frz d) :: rest) H' → Q v H') (fun c e' => ∀ H', S K pv e' σ rest H' → W (cl c) none σ H')
def rB (f : M Bool) : TE := fun σ H Q => ∃ pv e rest, S K pv e σ rest H ∧ post (f e) (fun b e' => ∀ H', S K pv e' σ rest H' → Q (.bl b) H') (fun c e' => ∀ H', S K pv e' σ rest H' → W (cl c) none σ H')
def rT (f : M Bool) : TT := fun σ H Q => ∃ pv e rest, S K pv e σ rest H ∧ post (f e) (fun b e' => ∀ H', S K pv e' σ rest H' → Q b H') (fun c e' => ∀ H', S K pv e' σ rest H' → W (cl c) none σ H')
/-- several values: the last one stands nearest -/
def rA (f : M (List D)) : TA := fun σ H Q => ∃ pv e rest, S K pv e σ rest H ∧ post (f e) (fun ds e' => ∀ vs H', vs.length = ds.length → S K pv e' σ ((vs.zip (ds.map O.frz)) ++ rest) H' → Q vs H') (fun c e' => ∀ H', S K pv e' σ rest H' → W (cl c) none σ H')
end
theorem _root_.L2.PE.imp {X : Cx} {e : Expr} {t t' : TE} (h : PE X e t) (i : ∀ σ H Q, t' σ H Q → t σ H Q) : PE X e t' := ⟨fun pins s σ H Q I q => h.run pins s σ H Q I (i σ H Q q)⟩
theorem _root_.L2.PT.imp {X : Cx} {e : Expr} {t t' : TT} (h : PT X e t) (i : ∀ σ H Q, t' σ H Q → t σ H Q) : PT X e t' := ⟨fun pins s σ H Q I q => h.run pins s σ H Q I (i σ H Q q)⟩
theorem _root_.L2.PW.imp {X : Cx} {e : Expr} {t t' : TT} (h : PW X e t) (i : ∀ σ H Q, t' σ H Q → t σ H Q) : PW X e t' := ⟨fun wh pins s σ H Q I q => h.run wh pins s σ H Q I (i σ H Q q)⟩
theorem _root_.L2.PA.imp {X : Cx} {e : List Expr} {t t' : TA} (h : PA X e t) (i : ∀ σ H Q, t' σ H Q → t σ H Q) : PA X e t' := ⟨fun pos pins s σ H Q I q => h.run pos pins s σ H Q I (i σ H Q q)⟩
theorem _root_.L2.PE.fail {X : Cx} {e : Expr} {t : TE} (h : ∀ σ H Q, ¬ t σ H Q) : PE X e t := ⟨fun pins s σ H Q I q => (h σ H Q q).elim⟩
theorem _root_.L2.OpR.imp {X : Cx} {f : Value → Value → Sem Value} {r r' : R2} (h : OpR X f r) (i : ∀ x y H Q, r' x y H Q → r x y H Q) : OpR X f r' := fun pins s σ H x y v u Q I rx ry q => h pins s σ H x y v u Q I rx ry (i _ _ _ _ q)

section
variable {X : Cx} {W : WX} {cl : Str → Value} {a b c : Expr} {pos : Pos} {fa fb fc : M Opd}
abbrev PX (X : Cx) (W : WX) (cl : Str → Value) (a : Expr) (f : M O) : Prop := PE X a (rX X.K W cl f)
abbrev PR (X : Cx) (W : WX) (cl : Str → Value) (a : Expr) (f : M Opd) : Prop := PE X a (rR X.K W cl f)
abbrev PV (X : Cx) (W : WX) (cl : Str → Value) (a : Expr) (f : M D) : Prop := PE X a (rV X.K W cl f)
abbrev PB (X : Cx) (W : WX) (cl : Str → Value) (a : Expr) (f : M Bool) : Prop := PE X a (rB X.K W cl f)
abbrev PTT (X : Cx) (W : WX) (cl : Str → Value) (a : Expr) (f : M Bool) : Prop := PT X a (rT X.K W cl f)
abbrev PAA (X : Cx) (W : WX) (cl : Str → Value) (a : List Expr) (f : M (List D)) : Prop := PA X a (rA X.K W cl f)

theorem px_fail : PX X W cl a xFail := L2.PE.fail fun σ H Q ⟨_, _, _, _, h⟩ => h
theorem pr_of {f : M O} (h : PX X W cl a f) : PR X W cl a (toR f) := h.imp fun σ H Q ⟨pv, e, rest, s, q⟩ => by
  unfold toR at q
  rw [post_bind] at q
  refine ⟨pv, e, rest, s, q.imp (fun o e1 q v H' s' => ?_) fun _ _ z => z⟩
  cases ho : o.val with
  | none =>
    rw [ho] at q
    exact q.elim
  | some d =>
    rw [ho] at q
    exact q v H' trivial (s'.frz ho)
theorem pv_of {f : M O} (h : PX X W cl a f) : PV X W cl a (toV f) := h.imp fun σ H Q ⟨pv, e, rest, s, q⟩ => by
  unfold toV at q
  rw [post_bind] at q
  refine ⟨pv, e, rest, s, q.imp (fun o e1 q v H' s' => ?_) fun _ _ z => z⟩
  cases ho : o.val with
  | none =>
    rw [ho] at q
    exact q.elim
  | some d =>
    rw [ho] at q
    exact q v H' (s'.frz ho)
theorem px_ofB {f : M Bool} (h : PB X W cl a f) : PX X W cl a (ofB f) := h.imp fun σ H Q ⟨pv, e, rest, s, q⟩ => by
  unfold ofB at q
  rw [post_bind] at q
  exact ⟨pv, e, rest, s, q.imp (fun b e1 q H' s' => q _ H' (s'.bl b)) fun _ _ z => z⟩
theorem pb_of {f : M O} (h : PX X W cl a f) : PB X W cl a (toB f) := h.imp fun σ H Q ⟨pv, e, rest, s, q⟩ => by
  unfold toB at q
  rw [post_bind] at q
  refine ⟨pv, e, rest, s, q.imp (fun o e1 q v H' s' => ?_) fun _ _ z => z⟩
  cases o with
  | frz d =>
    cases d with
    | bl b =>
      obtain ⟨F, s0⟩ := s'.opn
      obtain ⟨f, r⟩ := s0.res.mem (List.mem_append_right _ List.mem_cons_self)
      have e1 : v = .bl b := r.1
      rw [e1]
      exact q H' s'.drop
    | _ => exact q.elim
  | _ => exact q.elim
theorem pt_of {f : M Bool} (h : PB X W cl a f) (hp : ∀ whole, isTrue a X.env whole = (do let v ← whole; standAt a.pos; holding [v] (truthy v))) : PTT X W cl a f := (pt_val h hp).imp fun σ H Q ⟨pv, e, rest, s, q⟩ =>
  ⟨pv, e, rest, s, q.imp (fun b e1 q H' s' => ⟨b, rfl, q H' s'⟩) fun _ _ z => z⟩

/-! ### names, constants -/
theorem env_set_same {e : Env} {i : Nat} {o : O} (h : e.at i = some o) : i < e.length := by
  obtain ⟨h1, _⟩ := List.getElem?_eq_some_iff.mp (Env.at_get h)
  exact h1
theorem px_var {i : Nat} {x : Str} (hN : X.N[i]? = some x) (hv : Vis X.env.scope x) (hd : (x == ("__debug__" : Str)) = false) (hcd : (x == ("__classdict__" : Str)) = false) : PX X W cl (.Name x pos) (xVar i) :=
  (pe_var hN hv hd hcd).imp fun σ H Q ⟨pv, e, rest, s, q⟩ => by
    unfold xVar at q
    cases ho : e.at i with
    | none =>
      rw [ho] at q
      exact q.elim
    | some o =>
      rw [ho] at q
      obtain ⟨v, hv, p⟩ := Cov.get s.cov (Env.at_get ho)
      refine ⟨v, hv, ?_⟩
      have fr : R X.K H ((v, o) :: (pairs (e.set i none) σ ++ rest)) := s.res.perm (p.append_right rest)
      cases o with
      | frz d =>
        refine q v H (S.back s.cov s.pin ?_)
        exact (fr.copy).perm (.cons _ (p.append_right rest).symm)
      | lst ds =>
        obtain ⟨c2, p2⟩ := Cov.put (o := .frz (.lst ds)) s.cov hv
        refine q v H (S.back c2 s.pin ?_)
        exact ((fr.freeze fun _ z => nomatch z).copy).perm (.cons _ (p2.append_right rest).symm)
      | dK kvs =>
        obtain ⟨c2, p2⟩ := Cov.put (o := .frz (O.dK kvs).data) s.cov hv
        refine q v H (S.back c2 s.pin ?_)
        exact ((fr.freeze fun _ z => nomatch z).copy).perm (.cons _ (p2.append_right rest).symm)
      | dT kvs => exact q.elim
theorem pr_var {i : Nat} {x : Str} (hN : X.N[i]? = some x) (hv : Vis X.env.scope x) (hd : (x == ("__debug__" : Str)) = false) (hcd : (x == ("__classdict__" : Str)) = false) : PR X W cl (.Name x pos) (rVar i) :=
  (pe_var hN hv hd hcd).imp fun σ H Q ⟨pv, e, rest, s, q⟩ => by
    unfold rVar at q
    cases ho : e.at i with
    | none =>
      rw [ho] at q
      exact q.elim
    | some o =>
      rw [ho] at q
      obtain ⟨v, hv, p⟩ := Cov.get s.cov (Env.at_get ho)
      refine ⟨v, hv, ?_⟩
      have fr : R X.K H ((v, o) :: (pairs (e.set i none) σ ++ rest)) := s.res.perm (p.append_right rest)
      cases o with
      | frz d =>
        refine q v H trivial (S.back s.cov s.pin ?_)
        exact (fr.copy).perm (.cons _ (p.append_right rest).symm)
      | lst ds => exact q v H hv s
      | dK kvs => exact q v H hv s
      | dT kvs => exact q v H hv s
theorem px_lit {d : D} {v : V} (h : PE X a (tC v)) (hd : ∀ F, RD X.K F d v) : PX X W cl a (xLit d) := h.imp fun σ H Q ⟨pv, e, rest, s, q⟩ => q v H (s.lit hd)
theorem px_int {i : Int} {j : Nat} : PX X W cl (.Constant (.int i) j pos) (xLit (.int i)) := px_lit pe_int fun F => by unfold RD; rfl
theorem px_bl {i : Bool} {j : Nat} : PX X W cl (.Constant (.bool i) j pos) (xLit (.bl i)) := px_lit pe_bl fun F => by unfold RD; rfl
theorem px_non {j : Nat} : PX X W cl (.Constant .none j pos) (xLit .non) := px_lit pe_non fun F => by unfold RD; rfl
theorem px_str {i : Str} {j : Nat} : PX X W cl (.Constant (.str i) j pos) (xLit (.str i)) := px_lit pe_str fun F => by unfold RD; rfl
theorem px_glob {x : Str} {d : D} {v : V} {u : Value} (hg : Gl X x) (hm : X.mg x = some u) (r : RelV v u) (hd : ∀ F, RD X.K F d v) (hdb : (x == ("__debug__" : Str)) = false) : PX X W cl (.Name x pos) (xLit d) := px_lit (pe_glob hg hm r hdb) hd

/-! ### operators -/
theorem px_op2 {g : D → D → Option O} {r : R2} {E : Expr} (hE : ∀ {ta tb : TE}, PE X a ta → PE X b tb → PE X E (tOp r ta tb))
    (hr : ∀ {pv e σ rest H x y dx dy o Q F}, S0 X.K F pv e σ rest H → VW X.K F H dx x → VW X.K F H dy y → g dx dy = some o → (∀ z H', S X.K pv e σ ((z, o) :: rest) H' → Q z H') → r x y H Q)
    (ha : PR X W cl a fa) (hb : PR X W cl b fb) : PX X W cl E (op2 g fa fb) := (hE ha hb).imp fun σ H Q ⟨pv, e, rest, s, q⟩ => by
  unfold op2 at q
  rw [post_bind] at q
  refine ⟨pv, e, rest, s, q.imp (fun p e1 q x H1 hp s1 => ?_) fun _ _ z => z⟩
  rw [post_bind] at q
  refine ⟨pv, e1, opdR p x rest, s1, q.imp (fun p2 e2 q y H2 hp2 s2 => ?_) fun _ _ z H' s' => z H' s'.unopd⟩
  cases h1 : p.val e2 with
  | none =>
    rw [h1] at q
    exact q.elim
  | some dx =>
    cases h2 : p2.val e2 with
    | none =>
      rw [h1, h2] at q
      exact q.elim
    | some dy =>
      rw [h1, h2] at q
      have q : post (give (g dx dy) e2) _ _ := q
      cases h3 : g dx dy with
      | none =>
        rw [h3] at q
        exact q.elim
      | some o =>
        rw [h3] at q
        obtain ⟨F, s0⟩ := s2.opn
        refine hr s0 (s0.vw ((Has.of hp).mono opdR_sub) h1) (s0.vw (Has.of hp2) h2) h3 fun z H' s' => q z H' ?_
        exact s'.unopd2.unopd2
theorem pb_op2 {g : D → D → Option Bool} {r : R2} {E : Expr} (hE : ∀ {ta tb : TE}, PE X a ta → PE X b tb → PE X E (tOp r ta tb))
    (hr : ∀ {pv e σ rest H x y dx dy o Q F}, S0 X.K F pv e σ rest H → VW X.K F H dx x → VW X.K F H dy y → g dx dy = some o → Q (.bl o) H → r x y H Q)
    (ha : PR X W cl a fa) (hb : PR X W cl b fb) : PB X W cl E (op2 g fa fb) := (hE ha hb).imp fun σ H Q ⟨pv, e, rest, s, q⟩ => by
  unfold op2 at q
  rw [post_bind] at q
  refine ⟨pv, e, rest, s, q.imp (fun p e1 q x H1 hp s1 => ?_) fun _ _ z => z⟩
  rw [post_bind] at q
  refine ⟨pv, e1, opdR p x rest, s1, q.imp (fun p2 e2 q y H2 hp2 s2 => ?_) fun _ _ z H' s' => z H' s'.unopd⟩
  cases h1 : p.val e2 with
  | none =>
    rw [h1] at q
    exact q.elim
  | some dx =>
    cases h2 : p2.val e2 with
    | none =>
      rw [h1, h2] at q
      exact q.elim
    | some dy =>
      rw [h1, h2] at q
      have q : post (give (g dx dy) e2) _ _ := q
      cases h3 : g dx dy with
      | none =>
        rw [h3] at q
        exact q.elim
      | some o =>
        rw [h3] at q
        obtain ⟨F, s0⟩ := s2.opn
        exact hr s0 (s0.vw ((Has.of hp).mono opdR_sub) h1) (s0.vw (Has.of hp2) h2) h3 (q H2 s2.unopd.unopd)
theorem size_ok {n : Nat} (h : LR.small n = true) : n ≤ sizeLine := Nat.le_trans (of_decide_eq_true h) (by decide)
abbrev tAdds (K : PySem.W.Frag) : R2 := fun x y H Q => rI0 (fun i j => .int (i + j)) x y H Q ∨ (∃ i j, x = V.str i ∧ y = V.str j ∧ i.length + j.length ≤ sizeLine ∧ Q (.str (i ++ j)) H) ∨ rCatA K x y H Q ∨ rCat x y H Q
theorem op_adds : OpR X (binaryOp .Add) (tAdds X.K) := op_add.or (op_add_str.or (op_catA.or op_cat))
theorem px_add (ha : PR X W cl a fa) (hb : PR X W cl b fb) : PX X W cl (.BinOp a .Add b pos) (op2 dAdd fa fb) :=
  px_op2 (fun x y => pe_op op_adds x y) (fun {pv e σ rest H x y dx dy o Q F} s hx hy h q => by
    cases dx <;> cases dy <;> try (simp [dAdd] at h; done)
    case int.int i j =>
      have h : O.frz (.int (i + j)) = o := Option.some.inj h
      have hx : x = .int i := hx
      have hy : y = .int j := hy
      rw [hx, hy]
      rw [← h] at q
      exact .inl ⟨i, j, rfl, rfl, q _ _ (s.cl.int _)⟩
    case str.str i j =>
      have h : (if LR.small (i.length + j.length) = true then some (O.frz (.str (i ++ j))) else none) = some o := h
      split at h
      · rename_i hz
        have h : O.frz (.str (i ++ j)) = o := Option.some.inj h
        have hx : x = .str i := hx
        have hy : y = .str j := hy
        rw [hx, hy]
        rw [← h] at q
        exact .inr (.inl ⟨i, j, rfl, rfl, size_ok hz, q _ _ (s.cl.str _)⟩)
      · cases h
    case tup.tup i j =>
      have h : (if LR.small (i.length + j.length) = true then some (O.frz (.tup (i ++ j))) else none) = some o := h
      split at h
      · rename_i hz
        have h : O.frz (.tup (i ++ j)) = o := Option.some.inj h
        rw [← h] at q
        obtain ⟨a1, xs, e1, q1, r1⟩ := hx
        obtain ⟨a2, ys, e2, q2, r2⟩ := hy
        have hl := r1.length
        have hl2 := r2.length
        have hz := size_ok hz
        refine .inr (.inr (.inl ⟨a1, a2, xs, ys, e1, e2, s.le.sqT q1, s.le.sqT q2, by omega, fun z => ?_, fun z1 z2 => ?_, fun _ _ p hp => ?_⟩))
        · rw [z] at hl
          have zi : i = [] := List.eq_nil_of_length_eq_zero hl.symm
          subst zi
          refine q _ _ (s.add ?_).cl
          unfold RD
          exact ⟨a2, ys, rfl, q2, r2⟩
        · rw [z2] at hl2
          have zj : j = [] := List.eq_nil_of_length_eq_zero hl2.symm
          subst zj
          refine q _ _ (s.add ?_).cl
          unfold RD
          exact ⟨a1, xs, rfl, q1, by rw [List.append_nil]; exact r1⟩
        · exact q _ _ (s.newT hp (r1.append r2))
      · cases h
    case lst.lst i j =>
      have h : (if LR.small (i.length + j.length) = true then some (O.lst (i ++ j)) else none) = some o := h
      split at h
      · rename_i hz
        have h : O.lst (i ++ j) = o := Option.some.inj h
        rw [← h] at q
        obtain ⟨a1, xs, e1, q1, r1⟩ := hx
        obtain ⟨a2, ys, e2, q2, r2⟩ := hy
        have hl := r1.length
        have hl2 := r2.length
        have hz := size_ok hz
        exact .inr (.inr (.inr ⟨a1, a2, xs, ys, e1, e2, q1, q2, by omega, fun p hp => q _ _ (s.mkL hp (r1.append r2))⟩))
      · cases h) ha hb
end
end LR

set_option Elab.async false
set_option linter.all false
set_option maxRecDepth 100000
set_option maxHeartbeats 2000000
/-! Products, quotients, comparisons, tests. -/
namespace LR
section
open PySem PySem.Spec PyProof.Rows L2
theorem tuple_mul1 (l : Addr) (items : Array Value) (n : Nat) (dd : Option Addr) (sl : Array (Option Value)) (u : Tok) :
    Meets (Builtin.«tuple.__mul__» ⟨[.ref l, .int 1 u], []⟩) (fun _ R s => s.heap.get? l = some { cls := .type "tuple", dict := dd, data := .seq items n, slots := sl } ∧
      R (.ok (.ret (Value.ref l))) s) :=
  .of_wp fun prog w A R s h => by
    obtain ⟨hp, g, d, tk, os⟩ := s
    obtain ⟨hl, h⟩ := h
    have f1 := AutoSeq1.idx_int
    have c1 : (items.isEmpty || (1 : Int) == 1) = true := by rw [Bool.or_eq_true]; exact .inr rfl
    wp_walk using wpAny_loadPart' hl
    repeat (first
      | (refine wpAny_ite_true (decide_eq_true c1) ?_; wp_walk using wpAny_loadPart' hl)
      | (refine wpAny_ite_true c1 ?_; wp_walk using wpAny_loadPart' hl))
    exact ⟨_, rfl, h⟩
def rRep1 (K : PySem.W.Frag) : R2 := fun x y H Q => ∃ l xs, x = .ref l ∧ y = .int 1 ∧ SqT K H l xs ∧ Q (.ref l) H
theorem op_rep1 {X : Cx} : OpR X (binaryOp .Mult) (rRep1 X.K) := by
  intro pins s σ H x y v u Q I rx ry h
  obtain ⟨l, xs, rfl, rfl, hT, q⟩ := h
  cases rx
  obtain ⟨t, rfl⟩ := ry
  obtain ⟨its, r, ⟨⟨cls, dd, data, sl⟩, ho, hc, n, hd⟩, hs⟩ := I.tuple hT
  simp only at hc hd
  subst hc hd
  refine wpAny_binaryOp_repeat_ref (T := "tuple") (U := "int") (by decide) ⟨_, ho, rfl⟩ (fun s' => typeIs_int s' 1 t) noFill_tuple_mul F.fills_int_mul F.slot_int_rmul repeat_tuple F.slot_int_index.lookup
    (call_meets F.slot_int_rmul (typeIs_int s 1 t) F.entry_int_rmul (F.args_int_rmul_2 _ _) (int_rmul_tuple 1 t l its.toArray n dd sl)
      ⟨ho, rfl, ⟨_, ho, rfl⟩, call_meets F.slot_tuple_mul ⟨_, ho, rfl⟩ F.entry_tuple_mul (F.args_tuple_mul_2 _ _) (tuple_mul1 l its.toArray n dd sl t) ⟨ho, ?_⟩⟩)
  exact ⟨.ref l, H, I.tok _, rfl, q⟩
theorem op_fdivA {X : Cx} : OpR X (binaryOp .FloorDiv) (rI (fun _ j => CF j) fun i j => .int (i.fdiv j)) := by
  intro pins s σ H x y v u Q I rx ry h
  obtain ⟨i, j, rfl, rfl, hc, q⟩ := h
  obtain ⟨t, rfl⟩ := rx
  obtain ⟨t', rfl⟩ := ry
  exact floordiv_int hc.1 ⟨.int _, H, I.tok _, ⟨_, rfl⟩, q⟩ (.inl (PyProof.noPylong_of_log2 hc.2))
end
open PySem L2
section
variable {X : Cx} {W : WX} {cl : Str → Value} {a b c : Expr} {pos : Pos} {fa fb fc : M Opd}
theorem px_sub (ha : PR X W cl a fa) (hb : PR X W cl b fb) : PX X W cl (.BinOp a .Sub b pos) (op2 dSub fa fb) :=
  px_op2 (fun x y => pe_op op_sub x y) (fun {pv e σ rest H x y dx dy o Q F} s hx hy h q => by
    cases dx <;> cases dy <;> try (simp [dSub] at h; done)
    case int.int i j =>
      have h : O.frz (.int (i - j)) = o := Option.some.inj h
      have hx : x = .int i := hx
      have hy : y = .int j := hy
      rw [hx, hy]
      rw [← h] at q
      exact ⟨i, j, rfl, rfl, q _ _ (s.cl.int _)⟩) ha hb
abbrev tMuls (K : PySem.W.Frag) : R2 := fun x y H Q => rI CMulW (fun i j => .int (i * j)) x y H Q ∨ rRepT K x y H Q ∨ rRep1 K x y H Q ∨ rRep x y H Q
theorem op_muls : OpR X (binaryOp .Mult) (tMuls X.K) := op_mulW.or (op_repT.or (op_rep1.or op_rep))
theorem RDs.rep {K : PySem.W.Frag} {F : Hp} {ds : List D} {vs : List V} (h : RDs K F ds vs) : ∀ n, RDs K F (List.replicate n ds).flatten (List.replicate n vs).flatten
  | 0 => .nil
  | n + 1 => by
    rw [List.replicate_succ, List.flatten_cons, List.replicate_succ, List.flatten_cons]
    exact h.append (RDs.rep h n)
theorem px_mul (ha : PR X W cl a fa) (hb : PR X W cl b fb) : PX X W cl (.BinOp a .Mult b pos) (op2 dMul fa fb) :=
  px_op2 (fun x y => pe_op op_muls x y) (fun {pv e σ rest H x y dx dy o Q F} s hx hy h q => by
    cases dx <;> cases dy <;> try (simp [dMul] at h; done)
    case int.int i j =>
      have h : (if CM i j then some (O.frz (.int (i * j))) else none) = some o := h
      split at h
      · rename_i hz
        have h : O.frz (.int (i * j)) = o := Option.some.inj h
        have hx : x = .int i := hx
        have hy : y = .int j := hy
        rw [hx, hy]
        rw [← h] at q
        exact .inl ⟨i, j, rfl, rfl, hz, q _ _ (s.cl.int _)⟩
      · cases h
    case tup.int i j =>
      have h : (if 1 ≤ j ∧ j ≤ 1000 ∧ i ≠ [] ∧ i.length ≤ 1000 then some (O.frz (.tup (List.replicate j.toNat i).flatten)) else none) = some o := h
      split at h
      · rename_i hz
        obtain ⟨z1, z2, z3, z4⟩ := hz
        have h : O.frz (.tup (List.replicate j.toNat i).flatten) = o := Option.some.inj h
        have hy : y = .int j := hy
        rw [hy]
        obtain ⟨a1, vs, e1, q1, r1⟩ := hx
        rw [← h] at q
        by_cases hj : j = 1
        · subst hj
          refine .inr (.inr (.inl ⟨a1, vs, e1, rfl, s.le.sqT q1, q _ _ (s.add ?_).cl⟩))
          have e2 : (List.replicate (1 : Int).toNat i).flatten = i := by simp
          rw [e2]
          unfold RD
          exact ⟨a1, vs, rfl, q1, r1⟩
        · have hl := r1.length
          refine .inr (.inl ⟨a1, j, vs, e1, rfl, s.le.sqT q1, fun z => z3 ?_, by omega, z2, by omega, fun p hp => q _ _ (s.newT hp (r1.rep _))⟩)
          rw [z] at hl
          exact List.eq_nil_of_length_eq_zero hl.symm
      · cases h
    case lst.int i j =>
      have h : (if j ≤ 1000 ∧ -1000 ≤ j ∧ LR.small (i.length * j.toNat) = true then some (O.lst (List.replicate j.toNat i).flatten) else none) = some o := h
      split at h
      · rename_i hz
        obtain ⟨z1, z2, z3⟩ := hz
        have h : O.lst (List.replicate j.toNat i).flatten = o := Option.some.inj h
        have hy : y = .int j := hy
        rw [hy]
        obtain ⟨a1, vs, e1, q1, r1⟩ := hx
        rw [← h] at q
        have hl := r1.length
        exact .inr (.inr (.inr ⟨a1, j, vs, e1, rfl, q1, by omega, by omega, by rw [hl]; exact size_ok z3, fun p hp => q _ _ (s.mkL hp (r1.rep _))⟩))
      · cases h) ha hb
theorem px_div (ha : PR X W cl a fa) (hb : PR X W cl b fb) : PX X W cl (.BinOp a .FloorDiv b pos) (op2 dDiv fa fb) :=
  px_op2 (fun x y => pe_op op_fdivA x y) (fun {pv e σ rest H x y dx dy o Q F} s hx hy h q => by
    cases dx <;> cases dy <;> try (simp [dDiv] at h; done)
    case int.int i j =>
      have h : (if CF j then some (O.frz (.int (i.fdiv j))) else none) = some o := h
      split at h
      · rename_i hz
        have h : O.frz (.int (i.fdiv j)) = o := Option.some.inj h
        have hx : x = .int i := hx
        have hy : y = .int j := hy
        rw [hx, hy]
        rw [← h] at q
        exact ⟨i, j, rfl, rfl, hz, q _ _ (s.cl.int _)⟩
      · cases h) ha hb
theorem px_mod (ha : PR X W cl a fa) (hb : PR X W cl b fb) : PX X W cl (.BinOp a .Mod b pos) (op2 dMod fa fb) :=
  px_op2 (fun x y => pe_op op_modN x y) (fun {pv e σ rest H x y dx dy o Q F} s hx hy h q => by
    cases dx <;> cases dy <;> try (simp [dMod] at h; done)
    case int.int i j =>
      have h : (if j ≠ 0 then some (O.frz (.int (i.fmod j))) else none) = some o := h
      split at h
      · rename_i hz
        have h : O.frz (.int (i.fmod j)) = o := Option.some.inj h
        have hx : x = .int i := hx
        have hy : y = .int j := hy
        rw [hx, hy]
        rw [← h] at q
        exact ⟨i, j, rfl, rfl, hz, q _ _ (s.cl.int _)⟩
      · cases h) ha hb
theorem px_pow (ha : PR X W cl a fa) (hb : PR X W cl b fb) : PX X W cl (.BinOp a .Pow b pos) (op2 dPow fa fb) :=
  px_op2 (fun x y => pe_op op_pow x y) (fun {pv e σ rest H x y dx dy o Q F} s hx hy h q => by
    cases dx <;> cases dy <;> try (simp [dPow] at h; done)
    case int.int i j =>
      have h : (if 0 ≤ j ∧ j ≤ 1000 ∧ i.natAbs < 2 ^ 64 then some (O.frz (.int (i ^ j.toNat))) else none) = some o := h
      split at h
      · rename_i hz
        have h : O.frz (.int (i ^ j.toNat)) = o := Option.some.inj h
        have hx : x = .int i := hx
        have hy : y = .int j := hy
        rw [hx, hy]
        rw [← h] at q
        exact ⟨i, j, rfl, rfl, ⟨hz.1, by omega, hz.2.2⟩, q _ _ (s.cl.int _)⟩
      · cases h) ha hb
def binOk : Operator → Bool
  | .Add => true
  | .Sub => true
  | .Mult => true
  | .FloorDiv => true
  | .Mod => true
  | .Pow => true
  | _ => false
theorem px_bin {op : Operator} (h : binOk op = true) (ha : PR X W cl a fa) (hb : PR X W cl b fb) : PX X W cl (.BinOp a op b pos) (op2 (dBin op) fa fb) := by
  cases op with
  | Add => exact px_add ha hb
  | Sub => exact px_sub ha hb
  | Mult => exact px_mul ha hb
  | FloorDiv => exact px_div ha hb
  | Mod => exact px_mod ha hb
  | Pow => exact px_pow ha hb
  | _ => cases h
end

/-! ### data as the library's data -/
mutual
def toPy : D → PyData
  | .non => .none
  | .bl b => .bool b
  | .int i => .int i
  | .str s => .str s
  | .tup ds => .tuple (toPys ds)
  | .lst ds => .list (toPys ds)
  | .scr _ => .none
  | .dK _ _ => .none
def toPys : List D → List PyData
  | [] => []
  | d :: r => toPy d :: toPys r
end
mutual
theorem deep_lay : ∀ (n : Nat) (d : D), d.deep n = true → (toPy d).canLay0 = true ∧ (toPy d).depth ≤ n
  | n, .non, _ => ⟨rfl, Nat.zero_le _⟩
  | n, .bl b, _ => ⟨rfl, Nat.zero_le _⟩
  | n, .int i, _ => ⟨rfl, Nat.zero_le _⟩
  | n, .str s, h => ⟨by simpa [D.deep, toPy, PyData.canLay0] using h, Nat.zero_le _⟩
  | 0, .tup ds, h => by simp [D.deep] at h
  | 0, .lst ds, h => by simp [D.deep] at h
  | n + 1, .tup ds, h => by
    have h : (small ds.length && D.deeps n ds) = true := by simpa [D.deep] using h
    obtain ⟨h1, h2⟩ := deeps_lay n ds ((Bool.and_eq_true _ _ ▸ h).2)
    exact ⟨by simpa [toPy, PyData.canLay0] using h1, by simpa [toPy, PyData.depth] using h2⟩
  | n + 1, .lst ds, h => by
    have h : (small ds.length && D.deeps n ds) = true := by simpa [D.deep] using h
    obtain ⟨h1, h2⟩ := deeps_lay n ds ((Bool.and_eq_true _ _ ▸ h).2)
    exact ⟨by simpa [toPy, PyData.canLay0] using h1, by simpa [toPy, PyData.depth] using h2⟩
  | n, .scr _, h => by cases n <;> simp [D.deep] at h
  | n, .dK _ _, h => by cases n <;> simp [D.deep] at h
theorem deeps_lay : ∀ (n : Nat) (ds : List D), D.deeps n ds = true → PyData.canLayAll0 (toPys ds) = true ∧ PyData.depthAll (toPys ds) ≤ n
  | n, [], _ => ⟨rfl, Nat.zero_le _⟩
  | n, d :: r, h => by
    have h : (D.deep n d && D.deeps n r) = true := by simpa [D.deeps] using h
    rw [Bool.and_eq_true] at h
    obtain ⟨a1, a2⟩ := deep_lay n d h.1
    obtain ⟨b1, b2⟩ := deeps_lay n r h.2
    exact ⟨by simp [toPys, PyData.canLayAll0, a1, b1], by simp only [toPys, PyData.depthAll]; omega⟩
end
theorem shaped_of {d : D} (h : d.deep 12 = true) : SeqAt.shaped (toPy d) = true := by
  obtain ⟨h1, h2⟩ := deep_lay 12 d h
  unfold SeqAt.shaped
  rw [h1, decide_eq_true (by omega)]
  rfl
mutual
theorem dp_of {K : PySem.W.Frag} {H : Hp} : ∀ (n : Nat) (d : D) (v : V), d.deep n = true → RD K H d v → Dp K H v (toPy d)
  | n, .non, v, _, h => by unfold RD at h; rw [h]; exact .non
  | n, .bl b, v, _, h => by unfold RD at h; rw [h]; exact .bl b
  | n, .int i, v, _, h => by unfold RD at h; rw [h]; exact .int i
  | n, .str s, v, _, h => by unfold RD at h; rw [h]; exact .str s
  | 0, .tup ds, v, h, _ => by simp [D.deep] at h
  | 0, .lst ds, v, h, _ => by simp [D.deep] at h
  | n + 1, .tup ds, v, h, r => by
    have h : (small ds.length && D.deeps n ds) = true := by simpa [D.deep] using h
    unfold RD at r
    obtain ⟨a, vs, e1, q, r⟩ := r
    rw [e1]
    simp only [toPy]
    exact .tup q (dps_of n ds vs ((Bool.and_eq_true _ _ ▸ h).2) r)
  | n + 1, .lst ds, v, h, r => by
    have h : (small ds.length && D.deeps n ds) = true := by simpa [D.deep] using h
    unfold RD at r
    obtain ⟨a, vs, e1, q, r⟩ := r
    rw [e1]
    simp only [toPy]
    exact .lst (SqL.of q) (dps_of n ds vs ((Bool.and_eq_true _ _ ▸ h).2) r)
  | n, .scr _, v, h, _ => by cases n <;> simp [D.deep] at h
  | n, .dK _ _, v, h, _ => by cases n <;> simp [D.deep] at h
theorem dps_of {K : PySem.W.Frag} {H : Hp} : ∀ (n : Nat) (ds : List D) (vs : List V), D.deeps n ds = true → RDs K H ds vs → DpAll K H vs (toPys ds)
  | n, [], vs, _, r => by
    unfold RDs at r
    rw [r]
    exact .nil
  | n, d :: ds, vs, h, r => by
    have h : (D.deep n d && D.deeps n ds) = true := by simpa [D.deeps] using h
    rw [Bool.and_eq_true] at h
    unfold RDs at r
    obtain ⟨v, w, e1, q, r⟩ := r
    rw [e1]
    exact .cons (dp_of n d v h.1 q) (dps_of n ds w h.2 r)
end
mutual
theorem eqv_py : ∀ (n m : Nat) (x y : D), x.deep n = true → y.deep m = true → PyData.eqv (toPy x) (toPy y) = x.eqv y
  | n, m, .non, y, _, hy => by cases y <;> cases m <;> simp_all [toPy, PyData.eqv, D.eqv, D.deep]
  | n, m, .bl b, y, _, hy => by cases y <;> cases m <;> simp_all [toPy, PyData.eqv, D.eqv, D.deep] <;> (cases b <;> first | rfl | (apply Bool.beq_eq_decide_eq) | simp [Bool.beq_eq_decide_eq])
  | n, m, .int i, y, _, hy => by cases y <;> cases m <;> simp_all [toPy, PyData.eqv, D.eqv, D.deep, Bool.beq_eq_decide_eq]
  | n, m, .str s, y, _, hy => by cases y <;> cases m <;> simp_all [toPy, PyData.eqv, D.eqv, D.deep, Bool.beq_eq_decide_eq]
  | 0, m, .tup ds, y, h, _ => by simp [D.deep] at h
  | 0, m, .lst ds, y, h, _ => by simp [D.deep] at h
  | n + 1, m, .tup ds, y, h, hy => by
    have h : (small ds.length && D.deeps n ds) = true := by simpa [D.deep] using h
    rw [Bool.and_eq_true] at h
    cases y with
    | tup es =>
      cases m with
      | zero => simp [D.deep] at hy
      | succ m =>
        have hy : (small es.length && D.deeps m es) = true := by simpa [D.deep] using hy
        rw [Bool.and_eq_true] at hy
        simp only [toPy, PyData.eqv, D.eqv]
        exact eqvs_py n m ds es h.2 hy.2
    | _ => cases m <;> simp_all [toPy, PyData.eqv, D.eqv, D.deep]
  | n + 1, m, .lst ds, y, h, hy => by
    have h : (small ds.length && D.deeps n ds) = true := by simpa [D.deep] using h
    rw [Bool.and_eq_true] at h
    cases y with
    | lst es =>
      cases m with
      | zero => simp [D.deep] at hy
      | succ m =>
        have hy : (small es.length && D.deeps m es) = true := by simpa [D.deep] using hy
        rw [Bool.and_eq_true] at hy
        simp only [toPy, PyData.eqv, D.eqv]
        exact eqvs_py n m ds es h.2 hy.2
    | _ => cases m <;> simp_all [toPy, PyData.eqv, D.eqv, D.deep]
  | n, m, .scr _, _, h, _ => by cases n <;> simp [D.deep] at h
  | n, m, .dK _ _, _, h, _ => by cases n <;> simp [D.deep] at h
theorem eqvs_py : ∀ (n m : Nat) (xs ys : List D), D.deeps n xs = true → D.deeps m ys = true → PyData.eqvAll (toPys xs) (toPys ys) = D.eqvs xs ys
  | n, m, [], [], _, _ => by simp [toPys, PyData.eqvAll, D.eqvs]
  | n, m, [], _ :: _, _, _ => by simp [toPys, PyData.eqvAll, D.eqvs]
  | n, m, _ :: _, [], _, _ => by simp [toPys, PyData.eqvAll, D.eqvs]
  | n, m, x :: xs, y :: ys, h, hy => by
    have h : (D.deep n x && D.deeps n xs) = true := by simpa [D.deeps] using h
    have hy : (D.deep m y && D.deeps m ys) = true := by simpa [D.deeps] using hy
    rw [Bool.and_eq_true] at h hy
    simp only [toPys, PyData.eqvAll, D.eqvs]
    rw [eqv_py n m x y h.1 hy.1, eqvs_py n m xs ys h.2 hy.2]
end
end LR

set_option Elab.async false
set_option linter.all false
set_option maxRecDepth 100000
set_option maxHeartbeats 2000000
/-! Comparisons and tests. -/
namespace LR
open PySem L2

theorem inD_rule {X : Cx} : OpR X (compareOp .In) (fun x y H Q => X.A.units + 1 < cLine ∧ ∃ a o, y = .ref a ∧ DGet H a x o ∧ Q (.bl o.isSome) H) := by
  intro pins s σ H x y v u Q I rx ry h
  obtain ⟨hu, a, o, ey, g, q⟩ := h
  subst ey
  obtain rfl : u = Value.ref a := ry
  exact d_in hu I g rx fun s3 I3 => ⟨.bl o.isSome, H, I3, rfl, q⟩
theorem notInD_rule {X : Cx} : OpR X (compareOp .NotIn) (fun x y H Q => X.A.units + 1 < cLine ∧ ∃ a o, y = .ref a ∧ DGet H a x o ∧ Q (.bl (!o.isSome)) H) := by
  intro pins s σ H x y v u Q I rx ry h
  obtain ⟨hu, a, o, ey, g, q⟩ := h
  subst ey
  obtain rfl : u = Value.ref a := ry
  exact d_notIn hu I g rx fun s3 I3 => ⟨.bl (!o.isSome), H, I3, rfl, q⟩

def cmpOk : CmpOp → Bool := fun _ => true
theorem flat_v {K : PySem.W.Frag} {F H : Hp} : ∀ {d : D} {v : V}, d.flat = true → VW K F H d v → flatV v = true
  | .non, _, _, h => by have h : _ = V.non := h; rw [h]; rfl
  | .bl _, _, _, h => by have h : _ = V.bl _ := h; rw [h]; rfl
  | .int _, _, _, h => by have h : _ = V.int _ := h; rw [h]; rfl
  | .str _, _, _, h => by have h : _ = V.str _ := h; rw [h]; rfl
  | .tup _, _, z, _ => by cases z
  | .lst _, _, z, _ => by cases z
  | .scr _, _, z, _ => by cases z
  | .dK _ _, _, z, _ => by cases z
theorem RD.vw0 {K : PySem.W.Frag} {F : Hp} {d : D} {v : V} (h : RD K F d v) : VW K F F d v := h.vw (Le.refl F)
theorem eqV_eqv {K : PySem.W.Frag} {F H : Hp} : ∀ {x y : D} {v w : V}, x.flat = true → y.flat = true → VW K F H x v → VW K F H y w → eqV v w = x.eqv y := by
  intro x y v w fx fy hx hy
  cases x <;> cases y <;> first | (cases fx; done) | (cases fy; done) | skip
  all_goals (simp only [VW] at hx hy; subst hx hy; simp [eqV, D.eqv, Bool.beq_eq_decide_eq])
theorem flats_v {K : PySem.W.Frag} {F : Hp} {x : D} {v : V} (fx : x.flat = true) (hx : VW K F F x v) : ∀ {ds : List D} {vs : List V}, ds.all D.flat = true → RDs K F ds vs → vs.all flatV = true ∧ inV v vs = ds.any fun y => y.eqv x
  | [], vs, _, h => by
    unfold RDs at h
    rw [h]
    exact ⟨rfl, rfl⟩
  | d :: ds, vs, hf, h => by
    unfold RDs at h
    obtain ⟨w, r, e1, q, t⟩ := h
    rw [List.all_cons, Bool.and_eq_true] at hf
    obtain ⟨i1, i2⟩ := flats_v fx hx hf.2 t
    rw [e1, List.all_cons, flat_v hf.1 q.vw0, i1]
    refine ⟨rfl, ?_⟩
    rw [List.any_cons, ← i2]
    unfold inV
    rw [List.any_cons, eqV_eqv hf.1 fx q.vw0 hx]
theorem VW.flat0 {K : PySem.W.Frag} {F H : Hp} {x : D} {v : V} (fx : x.flat = true) (h : VW K F H x v) : VW K F F x v := by
  cases x <;> first | (cases fx; done) | exact h
theorem toPys_any : ∀ (ds : List D) (x : D), D.deep 12 x = true → D.deeps 11 ds = true → ((toPys ds).any fun z => PyData.eqv z (toPy x)) = ds.any fun y => y.eqv x
  | [], _, _, _ => rfl
  | d :: ds, x, hx, h => by
    have h : (D.deep 11 d && D.deeps 11 ds) = true := by simpa [D.deeps] using h
    rw [Bool.and_eq_true] at h
    simp only [toPys, List.any_cons]
    rw [eqv_py 11 12 d x h.1 hx, toPys_any ds x hx h.2]
theorem key_v {K : PySem.W.Frag} {F H : Hp} {x : D} {v : V} {k : Key} (hk : dKey x = some k) (h : VW K F H x v) : v = kV k := by
  cases x <;> first | (cases hk; done) | skip
  · have e : Sum.inl _ = k := Option.some.inj hk
    rw [← e]
    exact h
  · have e : Sum.inr _ = k := Option.some.inj hk
    rw [← e]
    exact h
theorem valV_some {κ : Type} [DecidableEq κ] (k : κ) : ∀ ws : List (κ × V), (valV ws k).isSome = (ws.map (·.1)).any fun j => decide (j = k) := fun ws => by
  rw [← valV_any]
  induction ws with
  | nil => rfl
  | cons p r ih => rw [List.any_cons, List.map_cons, List.any_cons, ih]

theorem cmp_rule {X : Cx} (op : CmpOp) (hu : X.A.units + 65 < cLine) : ∃ r, OpR X (compareOp op) r ∧ ∀ {F H : Hp} {x y : V} {dx dy : D} {k : Bool} {Q : VK}, Le F H → VW X.K F H dx x → VW X.K F H dy y → dCmp op dx dy = some k → Q (.bl k) H → r x y H Q := by
  have eqS : ∀ {F H : Hp} {x y : V} {dx dy : D} {k : Bool}, Le F H → VW X.K F H dx x → VW X.K F H dy y → dEq dx dy = some k → ∃ d e, Dp X.K H x d ∧ Dp X.K H y e ∧ SeqAt.shaped d = true ∧ SeqAt.shaped e = true ∧ PyData.eqv d e = k := fun {F H x y dx dy k} le hx hy h => by
    unfold dEq at h
    split at h
    · rename_i z
      rw [Bool.and_eq_true] at z
      refine ⟨toPy dx, toPy dy, dp_of 12 dx x z.1 (hx.rd le), dp_of 12 dy y z.2 (hy.rd le), shaped_of z.1, shaped_of z.2, ?_⟩
      rw [eqv_py 12 12 dx dy z.1 z.2]
      exact Option.some.inj h
    · cases h
  have inS : ∀ {F H : Hp} {x y : V} {dx dy : D} {k : Bool}, Le F H → VW X.K F H dx x → VW X.K F H dy y → dIn dx dy = some k →
      (∃ c z, x = .str ⟨#[c]⟩ ∧ y = .str z ∧ decide (c ∈ z.cps.toList) = k) ∨ (∃ p xs, y = .ref p ∧ (SqL X.K H p xs ∨ SqT X.K H p xs) ∧ flatV x = true ∧ xs.all flatV = true ∧ inV x xs = k) ∨
      (∃ d ds, Dp X.K H x d ∧ Dp X.K H y (.list ds) ∧ SeqAt.shaped d = true ∧ SeqAt.shaped (.list ds) = true ∧ (ds.any fun z => PyData.eqv z d) = k) ∨ (∃ a o, y = .ref a ∧ DGet H a x o ∧ o.isSome = k) := fun {F H x y dx dy k} le hx hy h => by
    cases dy with
    | str t =>
      cases dx <;> first | (cases h; done) | skip
      rename_i s
      simp only [dIn] at h
      split at h
      · rename_i c hc
        refine .inl ⟨c, t, ?_, hy, Option.some.inj h⟩
        have hx : x = .str s := hx
        rw [hx]
        obtain ⟨cps⟩ := s
        have e : cps = #[c] := by
          apply Array.toList_inj.mp
          exact hc
        rw [e]
      · cases h
    | tup ds =>
      have h : (if dx.flat && ds.all D.flat then some (ds.any fun y => y.eqv dx) else none) = some k := by cases dx <;> exact h
      split at h
      · rename_i z
        rw [Bool.and_eq_true] at z
        obtain ⟨a, vs, e1, q, r⟩ := hy
        obtain ⟨i1, i2⟩ := flats_v z.1 (hx.flat0 z.1) z.2 r
        exact .inr (.inl ⟨a, vs, e1, .inr (le.sqT q), flat_v z.1 hx, i1, i2.trans (Option.some.inj h)⟩)
      · cases h
    | lst ds =>
      have h : (if dx.deep 12 && (D.lst ds).deep 12 then some (ds.any fun y => y.eqv dx) else none) = some k := by cases dx <;> exact h
      split at h
      · rename_i z
        rw [Bool.and_eq_true] at z
        have z2 : (small ds.length && D.deeps 11 ds) = true := by simpa [D.deep] using z.2
        rw [Bool.and_eq_true] at z2
        have hd := dp_of 12 (.lst ds) y z.2 (hy.rd le)
        have hs := shaped_of z.2
        simp only [toPy] at hd hs
        exact .inr (.inr (.inl ⟨toPy dx, toPys ds, dp_of 12 dx x z.1 (hx.rd le), hd, shaped_of z.1, hs, (toPys_any ds dx z.1 z2.2).trans (Option.some.inj h)⟩))
      · cases h
    | dK ks ds =>
      have h : ((dKey dx).map fun k => ks.any fun j => decide (j = k)) = some k := by cases dx <;> exact h
      cases hk : dKey dx with
      | none =>
        rw [hk] at h
        cases h
      | some j =>
        rw [hk] at h
        obtain ⟨a, ws, e1, q, k1, r⟩ := hy
        refine .inr (.inr (.inr ⟨a, valV ws j, e1, ?_, ?_⟩))
        · rw [key_v hk hx]
          exact DGet.k q
        · rw [valV_some, k1]
          exact Option.some.inj h
    | _ => cases dx <;> cases h
  have intS : ∀ {g : Int → Int → Bool} {F H : Hp} {x y : V} {dx dy : D} {k : Bool} {Q : VK}, VW X.K F H dx x → VW X.K F H dy y → (match dx, dy with | .int i, .int j => some (g i j) | _, _ => none) = some k → Q (.bl k) H → rI0 (fun i j => .bl (g i j)) x y H Q := fun {g F H x y dx dy k Q} hx hy h q => by
    cases dx <;> cases dy <;> first | (cases h; done) | skip
    rename_i i j
    have h : g i j = k := Option.some.inj h
    rw [← h] at q
    exact ⟨i, j, hx, hy, q⟩
  have isS : ∀ {F H : Hp} {x y : V} {dx dy : D} {k : Bool}, VW X.K F H dx x → VW X.K F H dy y → dIs dx dy = some k → y = .non ∧ decide (x = .non) = k := fun {F H x y dx dy k} hx hy h => by
    cases dy <;> first | (cases dx <;> cases h; done) | skip
    refine ⟨hy, ?_⟩
    cases dx <;> first | (cases h; done) | skip
    all_goals (have h := Option.some.inj h; subst h)
    · have hx : x = .non := hx
      rw [hx]
      exact decide_eq_true rfl
    all_goals (apply decide_eq_false; intro z; subst z)
    · have hx : V.non = .bl _ := hx
      cases hx
    · have hx : V.non = .int _ := hx
      cases hx
    · have hx : V.non = .str _ := hx
      cases hx
    · obtain ⟨a, vs, e1, _⟩ := hx
      cases e1
    · obtain ⟨a, vs, e1, _⟩ := hx
      cases e1
    · obtain ⟨a, vs, e1, _⟩ := hx
      cases e1
  have inR : ∀ neg : Bool, True := fun _ => trivial
  cases op with
  | Eq => exact ⟨_, op_eqD (by omega), fun le hx hy h q => by
      obtain ⟨d, e, h1, h2, h3, h4, h5⟩ := eqS le hx hy h
      exact ⟨d, e, h1, h2, h3, h4, by rw [h5]; exact q⟩⟩
  | NotEq => exact ⟨_, op_neD (by omega), fun {F H x y dx dy k Q} le hx hy h q => by
      have h : (dEq dx dy).map (!·) = some k := h
      cases hh : dEq dx dy with
      | none =>
        rw [hh] at h
        cases h
      | some b =>
        rw [hh] at h
        have h : (!b) = k := Option.some.inj h
        obtain ⟨d, e, h1, h2, h3, h4, h5⟩ := eqS le hx hy hh
        exact ⟨d, e, h1, h2, h3, h4, by rw [h5, h]; exact q⟩⟩
  | Lt => exact ⟨_, op_lt.or op_lt_str, fun {F H x y dx dy k Q} le hx hy h q => by
      cases dx <;> cases dy <;> first | (cases h; done) | skip
      · rename_i i j
        have h : decide (i < j) = k := Option.some.inj h
        rw [← h] at q
        exact .inl ⟨i, j, hx, hy, q⟩
      · rename_i i j
        have h : decide (i.cps.toList < j.cps.toList) = k := Option.some.inj h
        rw [← h] at q
        exact .inr ⟨i, j, hx, hy, q⟩⟩
  | LtE => exact ⟨_, op_le, fun le hx hy h q => intS hx hy (by exact h) q⟩
  | Gt => exact ⟨_, op_gt, fun le hx hy h q => intS hx hy (by exact h) q⟩
  | GtE => exact ⟨_, op_ge, fun le hx hy h q => intS hx hy (by exact h) q⟩
  | Is => exact ⟨_, op_isN, fun {F H x y dx dy k Q} le hx hy h q => by
      obtain ⟨h1, h2⟩ := isS hx hy h
      exact ⟨h1, by rw [h2]; exact q⟩⟩
  | IsNot => exact ⟨_, op_notN, fun {F H x y dx dy k Q} le hx hy h q => by
      have h : (dIs dx dy).map (!·) = some k := h
      cases hh : dIs dx dy with
      | none =>
        rw [hh] at h
        cases h
      | some b =>
        rw [hh] at h
        have h : (!b) = k := Option.some.inj h
        obtain ⟨h1, h2⟩ := isS hx hy hh
        exact ⟨h1, by rw [h2, h]; exact q⟩⟩
  | In => exact ⟨_, op_in_sign.or (op_in_seq.or ((op_inD hu).or inD_rule)), fun {F H x y dx dy k Q} le hx hy h q => by
      rcases inS le hx hy h with ⟨c, z, h1, h2, h3⟩ | ⟨p, xs, h1, h2, h3, h4, h5⟩ | ⟨d, ds, h1, h2, h3, h4, h5⟩ | ⟨a, o, h1, h2, h3⟩
      · exact .inl ⟨c, z, h1, h2, by rw [h3]; exact q⟩
      · exact .inr (.inl ⟨p, xs, h1, h2, h3, h4, by rw [if_neg (by decide), h5]; exact q⟩)
      · exact .inr (.inr (.inl ⟨d, ds, h1, h2, h3, h4, by rw [h5]; exact q⟩))
      · exact .inr (.inr (.inr ⟨by omega, a, o, h1, h2, by rw [h3]; exact q⟩))⟩
  | NotIn => exact ⟨_, op_notIn_sign.or (op_notIn_seq.or ((op_notInD hu).or notInD_rule)), fun {F H x y dx dy k Q} le hx hy h q => by
      have h : (dIn dx dy).map (!·) = some k := h
      cases hh : dIn dx dy with
      | none =>
        rw [hh] at h
        cases h
      | some b =>
        rw [hh] at h
        have h : (!b) = k := Option.some.inj h
        rcases inS le hx hy hh with ⟨c, z, h1, h2, h3⟩ | ⟨p, xs, h1, h2, h3, h4, h5⟩ | ⟨d, ds, h1, h2, h3, h4, h5⟩ | ⟨a, o, h1, h2, h3⟩
        · exact .inl ⟨c, z, h1, h2, by rw [h3, h]; exact q⟩
        · exact .inr (.inl ⟨p, xs, h1, h2, h3, h4, by rw [if_pos rfl, h5, h]; exact q⟩)
        · exact .inr (.inr (.inl ⟨d, ds, h1, h2, h3, h4, by rw [h5, h]; exact q⟩))
        · exact .inr (.inr (.inr ⟨by omega, a, o, h1, h2, by rw [h3, h]; exact q⟩))⟩

section
variable {X : Cx} {W : WX} {cl : Str → Value} {a b c : Expr} {pos : Pos} {fa fb fc : M Opd} {op op' : CmpOp}
theorem cmp_core {g : D → D → Option Bool} {r : R2}
    (hr : ∀ {F H : Hp} {x y : V} {dx dy : D} {k : Bool} {Q : VK}, Le F H → VW X.K F H dx x → VW X.K F H dy y → g dx dy = some k → Q (.bl k) H → r x y H Q) :
    ∀ σ H Q, rB X.K W cl (op2 g fa fb) σ H Q → tOp r (rR X.K W cl fa) (rR X.K W cl fb) σ H Q := fun σ H Q ⟨pv, e, rest, s, q⟩ => by
  unfold op2 at q
  rw [post_bind] at q
  refine ⟨pv, e, rest, s, q.imp (fun p e1 q x H1 hp s1 => ?_) fun _ _ z => z⟩
  rw [post_bind] at q
  refine ⟨pv, e1, opdR p x rest, s1, q.imp (fun p2 e2 q y H2 hp2 s2 => ?_) fun _ _ z H' s' => z H' s'.unopd⟩
  cases h1 : p.val e2 with
  | none =>
    rw [h1] at q
    exact q.elim
  | some dx =>
    cases h2 : p2.val e2 with
    | none =>
      rw [h1, h2] at q
      exact q.elim
    | some dy =>
      rw [h1, h2] at q
      have q : post (give (g dx dy) e2) _ _ := q
      cases h3 : g dx dy with
      | none =>
        rw [h3] at q
        exact q.elim
      | some o =>
        rw [h3] at q
        obtain ⟨F, s0⟩ := s2.opn
        exact hr s0.le (s0.vw ((Has.of hp).mono opdR_sub) h1) (s0.vw (Has.of hp2) h2) h3 (q H2 s2.unopd.unopd)
theorem rT_rB {f : M Bool} : ∀ {σ H Q}, rT X.K W cl f σ H Q → rB X.K W cl f σ H fun x H' => ∃ k, x = .bl k ∧ Q k H' := fun {σ H Q} ⟨pv, e, rest, s, q⟩ =>
  ⟨pv, e, rest, s, q.imp (fun b e1 q H' s' => ⟨b, rfl, q H' s'⟩) fun _ _ z => z⟩
theorem pb_cmp (hu : X.A.units + 65 < cLine) (hm : behindInMarks op b = false) (ha : PR X W cl a fa) (hb : PR X W cl b fb) : PB X W cl (.Compare a [op] [b] pos) (bCmp op fa fb) := by
  obtain ⟨r, ho, hr⟩ := cmp_rule (X := X) op hu
  exact (pe_cmpR ho ha hb hm).imp (cmp_core hr)
theorem pt_cmp' (hu : X.A.units + 65 < cLine) (hm : behindInMarks op b = false) (ha : PR X W cl a fa) (hb : PR X W cl b fb) : PTT X W cl (.Compare a [op] [b] pos) (bCmp op fa fb) := by
  obtain ⟨r, ho, hr⟩ := cmp_rule (X := X) op hu
  exact (pt_cmpR ho ha hb hm).imp fun σ H Q q => cmp_core hr σ H _ (rT_rB q)
theorem chain_core {g g' : D → D → Option Bool} {r r' : R2}
    (hr : ∀ {F H : Hp} {x y : V} {dx dy : D} {k : Bool} {Q : VK}, Le F H → VW X.K F H dx x → VW X.K F H dy y → g dx dy = some k → Q (.bl k) H → r x y H Q)
    (hr' : ∀ {F H : Hp} {x y : V} {dx dy : D} {k : Bool} {Q : VK}, Le F H → VW X.K F H dx x → VW X.K F H dy y → g' dx dy = some k → Q (.bl k) H → r' x y H Q) (fch : M Bool)
    (hf : fch = fun e => (fa e).bind fun p e1 => (fb e1).bind fun q e2 => (give ((p.val e2).bind fun x => (q.val e2).bind fun y => g x y) e2).bind fun k e3 =>
      if k then (fc e3).bind fun r e4 => give ((q.val e4).bind fun y => (r.val e4).bind fun z => g' y z) e4 else .ok false e3) :
    ∀ σ H Q, rB X.K W cl fch σ H Q → tChain r r' (rR X.K W cl fa) (rR X.K W cl fb) (rR X.K W cl fc) σ H Q := fun σ H Q ⟨pv, e, rest, s, q⟩ => by
  rw [hf] at q
  rw [post_bind] at q
  refine ⟨pv, e, rest, s, q.imp (fun p e1 q x H1 hp s1 => ?_) fun _ _ z => z⟩
  rw [post_bind] at q
  refine ⟨pv, e1, opdR p x rest, s1, q.imp (fun p2 e2 q y H2 hp2 s2 => ?_) fun _ _ z H' s' => z H' s'.unopd⟩
  rw [post_bind] at q
  cases h1 : p.val e2 with
  | none =>
    rw [h1] at q
    exact q.elim
  | some dx =>
    cases h2 : p2.val e2 with
    | none =>
      rw [h1, h2] at q
      exact q.elim
    | some dy =>
      rw [h1, h2] at q
      have q : post (give (g dx dy) e2) _ _ := q
      cases h3 : g dx dy with
      | none =>
        rw [h3] at q
        exact q.elim
      | some o =>
        rw [h3] at q
        obtain ⟨F, s0⟩ := s2.opn
        refine hr s0.le (s0.vw ((Has.of hp).mono opdR_sub) h1) (s0.vw (Has.of hp2) h2) h3 ⟨o, rfl, ?_⟩
        cases o with
        | false =>
          rw [if_neg (by decide)]
          exact q H2 s2.unopd.unopd
        | true =>
          rw [if_pos rfl]
          have q : post ((fc e2).bind fun r e4 => give ((p2.val e4).bind fun y => (r.val e4).bind fun z => g' y z) e4) _ _ := q
          rw [post_bind] at q
          refine ⟨pv, e2, opdR p2 y (opdR p x rest), s2, q.imp (fun p3 e3 q z H3 hp3 s3 => ?_) fun _ _ z H' s' => z H' s'.unopd.unopd⟩
          cases h4 : p2.val e3 with
          | none =>
            rw [h4] at q
            exact q.elim
          | some dy' =>
            cases h5 : p3.val e3 with
            | none =>
              rw [h4, h5] at q
              exact q.elim
            | some dz =>
              rw [h4, h5] at q
              have q : post (give (g' dy' dz) e3) _ _ := q
              cases h6 : g' dy' dz with
              | none =>
                rw [h6] at q
                exact q.elim
              | some k =>
                rw [h6] at q
                obtain ⟨F', s0'⟩ := s3.opn
                exact hr' s0'.le (s0'.vw ((Has.of hp2).mono opdR_sub) h4) (s0'.vw (Has.of hp3) h5) h6 (q H3 s3.unopd.unopd.unopd)
theorem pb_chain (hu : X.A.units + 65 < cLine) (hm : lastMarks [op, op'] [b, c] = false) (ha : PR X W cl a fa) (hb : PR X W cl b fb) (hc : PR X W cl c fc) : PB X W cl (.Compare a [op, op'] [b, c] pos) (bChain op op' fa fb fc) := by
  obtain ⟨r, ho, hr⟩ := cmp_rule (X := X) op hu
  obtain ⟨r', ho', hr'⟩ := cmp_rule (X := X) op' hu
  exact (pe_chain ho ho' ha hb hc hm).imp (chain_core hr hr' _ rfl)
theorem pt_chain' (hu : X.A.units + 65 < cLine) (hm : lastMarks [op, op'] [b, c] = false) (ha : PR X W cl a fa) (hb : PR X W cl b fb) (hc : PR X W cl c fc) : PTT X W cl (.Compare a [op, op'] [b, c] pos) (bChain op op' fa fb fc) := by
  obtain ⟨r, ho, hr⟩ := cmp_rule (X := X) op hu
  obtain ⟨r', ho', hr'⟩ := cmp_rule (X := X) op' hu
  exact (pt_chain ho ho' ha hb hc hm).imp fun σ H Q q => chain_core hr hr' _ rfl σ H _ (rT_rB q)

/-! ### not, and, or, if else -/
variable {ga gb : M Bool} {rest : List Expr} {ts : List (M Bool)}
theorem pb_not (ha : PB X W cl a ga) : PB X W cl (.UnaryOp .Not a pos) (bNot ga) := (pe_not ha).imp fun σ H Q ⟨pv, e, rest, s, q⟩ => by
  unfold bNot at q
  rw [post_bind] at q
  exact ⟨pv, e, rest, s, q.imp (fun b e1 q H' s' => ⟨b, rfl, q H' s'⟩) fun _ _ z => z⟩
theorem pt_not' (ha : PTT X W cl a ga) : PTT X W cl (.UnaryOp .Not a pos) (bNot ga) := (pt_not ha).imp fun σ H Q ⟨pv, e, rest, s, q⟩ => by
  unfold bNot at q
  rw [post_bind] at q
  exact ⟨pv, e, rest, s, q.imp (fun b e1 q H' s' => q H' s') fun _ _ z => z⟩
theorem pb_and1 (ha : PB X W cl a ga) : PB X W cl (.BoolOp .And [a] pos) (bAnd [ga]) := pe_one ha
theorem pb_or1 (ha : PB X W cl a ga) : PB X W cl (.BoolOp .Or [a] pos) (bOr [ga]) := pe_one ha
theorem pb_and (ha : PB X W cl a ga) (hb : PB X W cl (.BoolOp .And (b :: rest) pos) (bAnd (gb :: ts))) : PB X W cl (.BoolOp .And (a :: b :: rest) pos) (bAnd (ga :: gb :: ts)) := (pe_and ha hb).imp fun σ H Q ⟨pv, e, rest, s, q⟩ => by
  unfold bAnd at q
  rw [post_bind] at q
  refine ⟨pv, e, rest, s, q.imp (fun k e1 q H' s' => ⟨k, rfl, ?_⟩) fun _ _ z => z⟩
  cases k with
  | true =>
    rw [if_pos rfl]
    exact ⟨pv, e1, rest, s', q⟩
  | false =>
    rw [if_neg (by decide)]
    exact q H' s'
theorem pb_or (ha : PB X W cl a ga) (hb : PB X W cl (.BoolOp .Or (b :: rest) pos) (bOr (gb :: ts))) : PB X W cl (.BoolOp .Or (a :: b :: rest) pos) (bOr (ga :: gb :: ts)) := (pe_or ha hb).imp fun σ H Q ⟨pv, e, rest, s, q⟩ => by
  unfold bOr at q
  rw [post_bind] at q
  refine ⟨pv, e, rest, s, q.imp (fun k e1 q H' s' => ⟨k, rfl, ?_⟩) fun _ _ z => z⟩
  cases k with
  | false =>
    rw [if_neg (by decide)]
    exact ⟨pv, e1, rest, s', q⟩
  | true =>
    rw [if_pos rfl]
    exact q H' s'
abbrev PWW (X : Cx) (W : WX) (cl : Str → Value) (a : Expr) (f : M Bool) : Prop := PW X a (rT X.K W cl f)
theorem pw_and1' (ha : PTT X W cl a ga) : PWW X W cl (.BoolOp .And [a] pos) (bAnd [ga]) := pw_and1 ha
theorem pw_or1' (ha : PTT X W cl a ga) : PWW X W cl (.BoolOp .Or [a] pos) (bOr [ga]) := pw_or1 ha
theorem pw_and' (ha : PTT X W cl a ga) (hb : PWW X W cl (.BoolOp .And (b :: rest) pos) (bAnd (gb :: ts))) : PWW X W cl (.BoolOp .And (a :: b :: rest) pos) (bAnd (ga :: gb :: ts)) := (pw_and ha hb).imp fun σ H Q ⟨pv, e, rest, s, q⟩ => by
  unfold bAnd at q
  rw [post_bind] at q
  refine ⟨pv, e, rest, s, q.imp (fun k e1 q H' s' => ?_) fun _ _ z => z⟩
  cases k with
  | true =>
    rw [if_pos rfl]
    exact ⟨pv, e1, rest, s', q⟩
  | false =>
    rw [if_neg (by decide)]
    exact q H' s'
theorem pw_or' (ha : PTT X W cl a ga) (hb : PWW X W cl (.BoolOp .Or (b :: rest) pos) (bOr (gb :: ts))) : PWW X W cl (.BoolOp .Or (a :: b :: rest) pos) (bOr (ga :: gb :: ts)) := (pw_or ha hb).imp fun σ H Q ⟨pv, e, rest, s, q⟩ => by
  unfold bOr at q
  rw [post_bind] at q
  refine ⟨pv, e, rest, s, q.imp (fun k e1 q H' s' => ?_) fun _ _ z => z⟩
  cases k with
  | false =>
    rw [if_neg (by decide)]
    exact ⟨pv, e1, rest, s', q⟩
  | true =>
    rw [if_pos rfl]
    exact q H' s'
theorem px_if {fx fy : M O} (hc : PTT X W cl c ga) (ha : PX X W cl a fx) (hb : PX X W cl b fy) : PX X W cl (.IfExp c a b pos) (xIf ga fx fy) := (pe_ifExp hc ha hb).imp fun σ H Q ⟨pv, e, rest, s, q⟩ => by
  unfold xIf at q
  rw [post_bind] at q
  refine ⟨pv, e, rest, s, q.imp (fun k e1 q H' s' => ?_) fun _ _ z => z⟩
  cases k with
  | true =>
    rw [if_pos rfl]
    exact ⟨pv, e1, rest, s', q⟩
  | false =>
    rw [if_neg (by decide)]
    exact ⟨pv, e1, rest, s', q⟩
theorem px_neg (ha : PR X W cl a fa) : PX X W cl (.UnaryOp .USub a pos) (op1 dNeg fa) := (pe_un un_neg ha).imp fun σ H Q ⟨pv, e, rest, s, q⟩ => by
  unfold op1 at q
  rw [post_bind] at q
  refine ⟨pv, e, rest, s, q.imp (fun p e1 q x H1 hp s1 => ?_) fun _ _ z => z⟩
  cases h1 : p.val e1 with
  | none =>
    rw [h1] at q
    exact q.elim
  | some dx =>
    rw [h1] at q
    cases dx <;> first | (exact q.elim) | skip
    rename_i i
    obtain ⟨F, s0⟩ := s1.opn
    have hx : x = .int i := s0.vw (Has.of hp) h1
    rw [hx]
    exact ⟨i, rfl, q _ _ (s1.unopd.int _)⟩

/-! ### displays -/
variable {es : List Expr} {fs : List (M D)} {fv : M D}
theorem pa_all_nil : PAA X W cl [] (allM []) := pa_nil.imp fun σ H Q ⟨pv, e, rest, s, q⟩ => q [] H rfl s
theorem pa_all_cons (ha : PV X W cl a fv) (hr : PAA X W cl es (allM fs)) (hs : starEach (a :: es) X.env = (false, eval a X.env) :: starEach es X.env) : PAA X W cl (a :: es) (allM (fv :: fs)) := (pa_cons ha hr hs).imp fun σ H Q ⟨pv, e, rest, s, q⟩ => by
  unfold allM at q
  rw [post_bind] at q
  refine ⟨pv, e, rest, s, q.imp (fun d e1 q v H1 s1 => ?_) fun _ _ z => z⟩
  rw [post_bind] at q
  refine ⟨pv, e1, (v, .frz d) :: rest, s1, q.imp (fun ds e2 q vs H2 hl s2 => ?_) fun _ _ z H' s' => z H' s'.drop⟩
  refine q (v :: vs) H2 (by rw [List.length_cons, List.length_cons, hl]) ?_
  refine s2.go fun l r => r.perm ?_
  rw [List.map_cons, List.zip_cons_cons]
  exact List.Perm.append_right l perm_in
theorem R0.tail {K : PySem.W.Frag} {F H : Hp} {p : V × O} {l : List (V × O)} (h : R0 K F H (p :: l)) : R0 K F H l := by
  obtain ⟨fp, e, ⟨f, g, e1, _, r⟩, nd, n⟩ := h
  rw [e1] at nd n
  exact ⟨g, e, r, (List.nodup_append.mp nd).2.1, fun a ha => n a (List.mem_append_right _ ha)⟩
/-- the parts told stand as a list of data -/
theorem parts_rd {K : PySem.W.Frag} {F H : Hp} {l : List (V × O)} : ∀ {vs : List V} {ds : List D}, vs.length = ds.length → R0 K F H (vs.zip (ds.map O.frz) ++ l) → RDs K F ds vs
  | [], [], _, _ => .nil
  | v :: vs, d :: ds, h, r => by
    obtain ⟨f, q⟩ := r.mem (p := (v, .frz d)) (List.mem_append_left _ List.mem_cons_self)
    exact .cons q.1 (parts_rd (H := H) (l := l) (vs := vs) (ds := ds) (by simpa using h) r.tail)
  | [], _ :: _, h, _ => by simp at h
  | _ :: _, [], h, _ => by simp at h
theorem S0.parts {K : PySem.W.Frag} {F : Hp} {pv : Nat → Option V} {e : Env} {σ : L2.St} {rest : List (V × O)} {H : Hp} {vs : List V} {ds : List D} (s : S0 K F pv e σ (vs.zip (ds.map O.frz) ++ rest) H) (h : vs.length = ds.length) : RDs K F ds vs :=
  parts_rd (l := pairs e σ ++ rest) h (s.res.perm (by rw [← List.append_assoc, ← List.append_assoc]; exact List.Perm.append_right rest List.perm_append_comm))
theorem S.noparts {K : PySem.W.Frag} {pv : Nat → Option V} {e : Env} {σ : L2.St} {m rest : List (V × O)} {H : Hp} {x : V × O} (s : S K pv e σ (x :: (m ++ rest)) H) : S K pv e σ (x :: rest) H := by
  induction m with
  | nil => exact s
  | cons y m ih => exact ih s.drop2
theorem S.nopart {K : PySem.W.Frag} {pv : Nat → Option V} {e : Env} {σ : L2.St} {m rest : List (V × O)} {H : Hp} (s : S K pv e σ (m ++ rest) H) : S K pv e σ rest H := by
  induction m with
  | nil => exact s
  | cons y m ih => exact ih s.drop
theorem px_tup {k : Nat} (h : PAA X W cl es (allM fs)) : PX X W cl (.Tuple es k pos) (xTup fs) := (pe_tup h).imp fun σ H Q ⟨pv, e, rest, s, q⟩ => by
  unfold xTup at q
  rw [post_bind] at q
  refine ⟨pv, e, rest, s, q.imp (fun ds e1 q vs H1 hl s1 => ?_) fun _ _ z => z⟩
  cases hz : small ds.length with
  | false =>
    rw [hz, if_neg (by decide)] at q
    exact q.elim
  | true =>
    rw [hz, if_pos rfl] at q
    obtain ⟨F, s0⟩ := s1.opn
    exact ⟨by rw [hl]; exact size_ok hz, fun p hp => q _ _ (s0.newT hp (s0.parts hl)).noparts⟩
theorem px_lst (h : PAA X W cl es (allM fs)) : PX X W cl (.List es pos) (xLst fs) := (pe_lst h).imp fun σ H Q ⟨pv, e, rest, s, q⟩ => by
  unfold xLst at q
  rw [post_bind] at q
  refine ⟨pv, e, rest, s, q.imp (fun ds e1 q vs H1 hl s1 => ?_) fun _ _ z => z⟩
  cases hz : small ds.length with
  | false =>
    rw [hz, if_neg (by decide)] at q
    exact q.elim
  | true =>
    rw [hz, if_pos rfl] at q
    obtain ⟨F, s0⟩ := s1.opn
    exact ⟨by rw [hl]; exact size_ok hz, fun p hp => q _ _ (s0.mkL hp (s0.parts hl)).noparts⟩
end
end LR

set_option Elab.async false
set_option linter.all false
set_option maxRecDepth 100000
set_option maxHeartbeats 2000000
/-! Items, slices, what is built in. -/
namespace LR
section
open PySem PySem.Spec PyProof.Rows L2
theorem ix_dict {X : Cx} (hu : X.A.units + 1 < cLine) : IxR X (fun x y H Q => ∃ a v, x = .ref a ∧ DGet H a y (some v) ∧ Q v H) := by
  intro value slice pins s σ H x y v u Q I rx ry h hs
  obtain ⟨a, w, ex, g, q⟩ := h
  subst ex
  obtain rfl : v = Value.ref a := rx
  have hT := dict_typeIs I g
  unfold subscriptTail
  refine wpAny_bind ?_
  rw [getitemInPython_of_ne hT.not_modules]
  refine wpAny_bind (wpAny_specialOf hT PySem.F.slot_dict_getitem.lookup ?_)
  have fin : wpAny (model X.prog X.w) X.A (subscripted slice false (.ref a) u) (fun r s₃ => wpAny (model X.prog X.w) X.A (letTemporaryGo value (.ref a) r >>= fun _ => pure r) (EP X pins σ Q) X.xe s₃) X.xe s := by
    rw [hs]
    exact wpAny_operating (wpAny_mono (d_getItem hu I g ry fun w' s3 I3 rw' => (⟨w, H, I3, rw', q⟩ : EP X pins σ Q w' s3)) (fun r s₃ h₃ => wpAny_bind (wpAny_letTemporaryGo (wpAny_pure h₃))) fun _ _ x => x)
  first
    | exact wpAny_pure (wpAny_bind fin)
    | exact wpAny_bind (wpAny_pure (wpAny_bind fin))
    | exact wpAny_bind fin
end
open PySem L2
section
variable {X : Cx} {W : WX} {cl : Str → Value} {a b c : Expr} {pos : Pos} {fa fb fc : M Opd}
theorem findK_of {κ : Type} [DecidableEq κ] {K : PySem.W.Frag} {F : Hp} (k : κ) {d : D} : ∀ {ds : List D} {ws : List (κ × V)}, RDs K F ds (ws.map (·.2)) → findK ((ws.map (·.1)).zip ds) k = some d → ∃ v, valV ws k = some v ∧ RD K F d v
  | ds, [], h, e => by simp [findK] at e
  | [], p :: ws, h, e => by
    unfold RDs at h
    cases h
  | d0 :: ds, p :: ws, h, e => by
    unfold RDs at h
    obtain ⟨v, r, e1, q, t⟩ := h
    rw [List.map_cons] at e1
    have e2 : p.2 = v := (List.cons.inj e1).1
    have e3 : ws.map (·.2) = r := (List.cons.inj e1).2
    by_cases hk : p.1 = k
    · have e4 : some d0 = some d := by
        rw [← e]
        simp [findK, hk]
      cases e4
      exact ⟨p.2, valV_pos hk, by rw [e2]; exact q⟩
    · rw [← e3] at t
      obtain ⟨w, hw, hr⟩ := findK_of k (ds := ds) (ws := ws) t (by rw [← e]; simp [findK, hk])
      exact ⟨w, by rw [valV_neg hk]; exact hw, hr⟩
theorem RDs.atI {K : PySem.W.Frag} {F : Hp} {ds : List D} {vs : List V} {i : Int} {d : D} (h : RDs K F ds vs) (e : L2.atI ds i = some d) : ∃ v, L2.atI vs i = some v ∧ RD K F d v := by
  unfold L2.atI at e ⊢
  rw [h.length]
  cases hj : ixN ds.length i with
  | none =>
    rw [hj] at e
    cases e
  | some j =>
    rw [hj] at e
    obtain ⟨v, hv, q⟩ := h.get (i := j) (d := d) e
    exact ⟨v, hv, q⟩
theorem plainIx_of (h : ∀ l u s p, b ≠ .Slice l u s p) : PlainIx b := fun o i => by
  cases b <;> first | rfl | exact absurd rfl (h _ _ _ _)
theorem px_ix (hu : X.A.units + 1 < cLine) (hs : ∀ l u s p, b ≠ .Slice l u s p) (ha : PR X W cl a fa) (hb : PR X W cl b fb) : PX X W cl (.Subscript a b pos) (xIx fa fb) :=
  px_op2 (fun x y => pe_ix (ix_list.or (ix_tup.or ((ix_dict hu).or ix_str))) x y (plainIx_of hs)) (fun {pv e σ rest H x y dx dy o Q F} s hx hy h q => by
    cases dx with
    | tup ds =>
      cases dy <;> first | (cases h; done) | skip
      rename_i i
      have h : (L2.atI ds i).map O.frz = some o := h
      obtain ⟨d, hd, ho⟩ := Option.map_eq_some_iff.mp h
      obtain ⟨a1, vs, e1, q1, r1⟩ := hx
      obtain ⟨v, hv, hr⟩ := r1.atI hd
      rw [← ho] at q
      exact .inr (.inl ⟨a1, vs, i, v, e1, hy, s.le.sqT q1, hv, q _ _ (s.add hr).cl⟩)
    | lst ds =>
      cases dy <;> first | (cases h; done) | skip
      rename_i i
      have h : (L2.atI ds i).map O.frz = some o := h
      obtain ⟨d, hd, ho⟩ := Option.map_eq_some_iff.mp h
      obtain ⟨a1, vs, e1, q1, r1⟩ := hx
      obtain ⟨v, hv, hr⟩ := r1.atI hd
      rw [← ho] at q
      exact .inl ⟨a1, vs, i, v, e1, hy, SqL.of q1, hv, q _ _ (s.add hr).cl⟩
    | scr ns =>
      cases dy <;> first | (cases h; done) | skip
      rename_i i
      have h : ((L2.atI ns i).map fun n => O.frz (.int n)) = some o := h
      obtain ⟨d, hd, ho⟩ := Option.map_eq_some_iff.mp h
      obtain ⟨a1, e1, q1⟩ := hx
      rw [← ho] at q
      refine .inl ⟨a1, ns.map V.int, i, .int d, e1, hy, q1, ?_, q _ _ (s.cl.int d)⟩
      unfold L2.atI at hd ⊢
      rw [List.length_map]
      cases hj : ixN ns.length i with
      | none =>
        rw [hj] at hd
        cases hd
      | some j =>
        rw [hj] at hd
        have hd : ns[j]? = some d := hd
        show (ns.map V.int)[j]? = some (V.int d)
        rw [List.getElem?_map, hd]
        rfl
    | dK ks ds =>
      have h : ((dKey dy).bind fun k => (findK (ks.zip ds) k).map O.frz) = some o := by cases dy <;> exact h
      obtain ⟨k, hk, h⟩ := Option.bind_eq_some_iff.mp h
      obtain ⟨d, hd, ho⟩ := Option.map_eq_some_iff.mp h
      obtain ⟨a1, ws, e1, q1, k1, r1⟩ := hx
      rw [← k1] at hd
      obtain ⟨v, hv, hr⟩ := findK_of k r1 hd
      rw [← ho] at q
      refine .inr (.inr (.inl ⟨a1, v, e1, ?_, q _ _ (s.add hr).cl⟩))
      rw [key_v hk hy, ← hv]
      exact DGet.k q1
    | str z =>
      cases dy <;> first | (cases h; done) | skip
      rename_i i
      have h : (if z.length ≤ 100000 then (L2.atI z.cps.toList i).map fun c => O.frz (.str ⟨#[c]⟩) else none) = some o := h
      split at h
      · rename_i hz
        obtain ⟨c, hd, ho⟩ := Option.map_eq_some_iff.mp h
        rw [← ho] at q
        exact .inr (.inr (.inr ⟨z, i, c, hx, hy, Nat.le_trans hz (by decide), hd, q _ _ (s.add (d := .str ⟨#[c]⟩) (w := .str ⟨#[c]⟩) (by unfold RD; rfl)).cl⟩))
      · cases h
    | _ => cases dy <;> cases h) ha hb

/-! ### slices -/
def rO (K : PySem.W.Frag) (W : WX) (cl : Str → Value) (f : M (Option Int)) : TO := fun σ H Q => ∃ pv e rest, S K pv e σ rest H ∧ post (f e) (fun o e' => ∀ H', S K pv e' σ rest H' → Q o H') (fun c e' => ∀ H', S K pv e' σ rest H' → W (cl c) none σ H')
theorem _root_.L2.PO.imp {X : Cx} {e : Option Expr} {t t' : TO} (h : PO X e t) (i : ∀ σ H Q, t' σ H Q → t σ H Q) : PO X e t' := ⟨fun pins s σ H Q I q => h.run pins s σ H Q I (i σ H Q q)⟩
abbrev POO (X : Cx) (W : WX) (cl : Str → Value) (a : Option Expr) (f : M (Option Int)) : Prop := PO X a (rO X.K W cl f)
theorem po_none' : POO X W cl none (mOpt none) := po_none.imp fun σ H Q ⟨pv, e, rest, s, q⟩ => q H s
theorem po_some' {f : M O} (h : PX X W cl a f) : POO X W cl (some a) (mOpt (some f)) := (po_some h).imp fun σ H Q ⟨pv, e, rest, s, q⟩ => by
  unfold mOpt at q
  rw [post_bind] at q
  refine ⟨pv, e, rest, s, q.imp (fun o e1 q v H' s' => ?_) fun _ _ z => z⟩
  cases o <;> first | (exact q.elim) | skip
  rename_i d
  cases d <;> first | (exact q.elim) | skip
  rename_i i
  obtain ⟨F, s0⟩ := s'.opn
  obtain ⟨f, r⟩ := s0.res.mem (List.mem_append_right _ List.mem_cons_self)
  have e1 : v = .int i := r.1
  exact ⟨i, e1, q H' s'.drop⟩
theorem cut_rd {K : PySem.W.Frag} {F : Hp} {ds : List D} {vs : List V} (h : RDs K F ds vs) (lo hi : Option Int) : RDs K F (cut ds lo hi) (cutV vs lo hi) := by
  unfold cut cutV
  rw [h.length]
  exact (h.drop _).take _
theorem px_sl {lo hi : Option Expr} {p2 : Pos} {fl fh : Option (M O)} (ha : PR X W cl a fa) (hl : POO X W cl lo (mOpt fl)) (hh : POO X W cl hi (mOpt fh)) : PX X W cl (.Subscript a (.Slice lo hi none p2) pos) (xSl fa fl fh) :=
  (pe_slice (sl_tupA.or sl_list) ha hl hh).imp fun σ H Q ⟨pv, e, rest, s, q⟩ => by
    unfold xSl at q
    rw [post_bind] at q
    refine ⟨pv, e, rest, s, q.imp (fun p e1 q x H1 hp s1 => ?_) fun _ _ z => z⟩
    rw [post_bind] at q
    refine ⟨pv, e1, opdR p x rest, s1, q.imp (fun l e2 q H2 s2 => ?_) fun _ _ z H' s' => z H' s'.unopd⟩
    rw [post_bind] at q
    refine ⟨pv, e2, opdR p x rest, s2, q.imp (fun u e3 q H3 s3 => ?_) fun _ _ z H' s' => z H' s'.unopd⟩
    cases h1 : p.val e3 with
    | none =>
      rw [h1] at q
      exact q.elim
    | some dx =>
      rw [h1] at q
      have q : post (give (dSl l u dx) e3) _ _ := q
      obtain ⟨F, s0⟩ := s3.opn
      have hx := s0.vw (Has.of hp) h1
      cases dx with
      | tup ds =>
        have q : ∀ v H', S X.K pv e3 σ ((v, .frz (.tup (cut ds l u))) :: rest) H' → Q v H' := q
        obtain ⟨a1, vs, e1, q1, r1⟩ := hx
        refine .inl ⟨a1, vs, e1, s0.le.sqT q1, fun z => ?_, fun z p hp => q _ _ (s0.newT hp (cut_rd r1 l u)).unopd2⟩
        refine q _ _ (S.unopd2 (s0.add ?_).cl)
        have e2 : cut ds l u = ds := by
          unfold cut
          rw [← r1.length, z.1, z.2, List.drop_zero, r1.length, Nat.sub_zero]
          exact List.take_length
        rw [e2]
        unfold RD
        exact ⟨a1, vs, rfl, q1, r1⟩
      | lst ds =>
        have q : ∀ v H', S X.K pv e3 σ ((v, .lst (cut ds l u)) :: rest) H' → Q v H' := q
        obtain ⟨a1, vs, e1, q1, r1⟩ := hx
        exact .inr ⟨a1, vs, e1, SqL.of q1, fun p hp => q _ _ (s0.mkL hp (cut_rd r1 l u)).unopd2⟩
      | _ => exact q.elim

/-! ### operands in a row -/
def opdRs : List Opd → List V → List (V × O) → List (V × O)
  | p :: ps, v :: vs, r => opdRs ps vs (opdR p v r)
  | _, _, r => r
def HasAll (σ : L2.St) (rest : List (V × O)) : List Opd → List V → Prop
  | [], [] => True
  | p :: ps, v :: vs => Has p v σ rest ∧ HasAll σ rest ps vs
  | _, _ => False
theorem opdRs_sub {ps : List Opd} {vs : List V} {rest : List (V × O)} : ∀ x, x ∈ rest → x ∈ opdRs ps vs rest := by
  induction ps generalizing vs rest with
  | nil => exact fun x h => h
  | cons p ps ih =>
    cases vs with
    | nil => exact fun x h => h
    | cons v vs => exact fun x h => ih x (opdR_sub x h)
theorem S.unopds {K : PySem.W.Frag} {pv : Nat → Option V} {e : Env} {σ : L2.St} {H : Hp} : ∀ {ps : List Opd} {vs : List V} {rest : List (V × O)}, S K pv e σ (opdRs ps vs rest) H → S K pv e σ rest H
  | [], _, _, s => by unfold opdRs at s; exact s
  | p :: ps, [], _, s => by unfold opdRs at s; exact s
  | p :: ps, v :: vs, rest, s => by
    unfold opdRs at s
    exact (S.unopds s).unopd
theorem S.unopds2 {K : PySem.W.Frag} {pv : Nat → Option V} {e : Env} {σ : L2.St} {rest : List (V × O)} {H : Hp} {x : V × O} {ps : List Opd} {vs : List V} (s : S K pv e σ (x :: opdRs ps vs rest) H) : S K pv e σ (x :: rest) H := by
  induction ps generalizing vs rest with
  | nil => unfold opdRs at s; exact s
  | cons p ps ih =>
    cases vs with
    | nil => unfold opdRs at s; exact s
    | cons v vs =>
      unfold opdRs at s
      exact (ih s).unopd2
def rAR (K : PySem.W.Frag) (W : WX) (cl : Str → Value) (f : M (List Opd)) : TA := fun σ H Q => ∃ pv e rest, S K pv e σ rest H ∧ post (f e) (fun ps e' => ∀ vs H', HasAll σ (opdRs ps vs rest) ps vs → S K pv e' σ (opdRs ps vs rest) H' → Q vs H') (fun c e' => ∀ H', S K pv e' σ rest H' → W (cl c) none σ H')
abbrev PAR (X : Cx) (W : WX) (cl : Str → Value) (a : List Expr) (f : M (List Opd)) : Prop := PA X a (rAR X.K W cl f)
variable {es : List Expr} {fs : List (M Opd)}
theorem par_nil : PAR X W cl [] (allR []) := pa_nil.imp fun σ H Q ⟨pv, e, rest, s, q⟩ => q [] H trivial s
theorem par_cons (ha : PR X W cl a fa) (hr : PAR X W cl es (allR fs)) (hs : starEach (a :: es) X.env = (false, eval a X.env) :: starEach es X.env) : PAR X W cl (a :: es) (allR (fa :: fs)) := (pa_cons ha hr hs).imp fun σ H Q ⟨pv, e, rest, s, q⟩ => by
  unfold allR at q
  rw [post_bind] at q
  refine ⟨pv, e, rest, s, q.imp (fun p e1 q v H1 hp s1 => ?_) fun _ _ z => z⟩
  rw [post_bind] at q
  refine ⟨pv, e1, opdR p v rest, s1, q.imp (fun ps e2 q vs H2 hl s2 => ?_) fun _ _ z H' s' => z H' s'.unopd⟩
  exact q (v :: vs) H2 ⟨(Has.of hp).mono opdRs_sub, hl⟩ s2
inductive VWs (K : PySem.W.Frag) (F H : Hp) : List D → List V → Prop
  | nil : VWs K F H [] []
  | cons {d : D} {v : V} {ds : List D} {vs : List V} (h : VW K F H d v) (t : VWs K F H ds vs) : VWs K F H (d :: ds) (v :: vs)
theorem S0.vws {K : PySem.W.Frag} {F : Hp} {pv : Nat → Option V} {e : Env} {σ : L2.St} {rest : List (V × O)} {H : Hp} (s : S0 K F pv e σ rest H) : ∀ {ps : List Opd} {vs : List V} {ds : List D}, HasAll σ rest ps vs → valsOf e ps = some ds → VWs K F H ds vs
  | [], [], ds, _, h => by
    cases h
    exact .nil
  | p :: ps, v :: vs, ds, ha, h => by
    unfold valsOf at h
    obtain ⟨d, hd, h⟩ := Option.bind_eq_some_iff.mp h
    obtain ⟨r, hr, h⟩ := Option.bind_eq_some_iff.mp h
    cases h
    exact .cons (s.vw ha.1 hd) (s.vws ha.2 hr)
  | [], _ :: _, _, h, _ => h.elim
  | _ :: _, [], _, h, _ => h.elim
/-- a call of a thing that is built in, by values -/
theorem px_call {g : List D → Option O} {r : List V → Hp → VK → Prop} {E : Expr} (hE : ∀ {t : TA}, PA X es t → PE X E (tCB r t))
    (hr : ∀ {pv e σ rest H vs ds o Q F}, S0 X.K F pv e σ rest H → VWs X.K F H ds vs → g ds = some o → (∀ z H', S X.K pv e σ ((z, o) :: rest) H' → Q z H') → r vs H Q)
    (ha : PAR X W cl es (allR fs)) : PX X W cl E (opN g fs) := (hE ha).imp fun σ H Q ⟨pv, e, rest, s, q⟩ => by
  unfold opN at q
  rw [post_bind] at q
  refine ⟨pv, e, rest, s, q.imp (fun ps e1 q vs H1 hp s1 => ?_) fun _ _ z => z⟩
  cases h1 : valsOf e1 ps with
  | none =>
    rw [h1] at q
    exact q.elim
  | some ds =>
    rw [h1] at q
    have q : post (give (g ds) e1) _ _ := q
    cases h2 : g ds with
    | none =>
      rw [h2] at q
      exact q.elim
    | some o =>
      rw [h2] at q
      obtain ⟨F, s0⟩ := s1.opn
      exact hr s0 (s0.vws hp h1) h2 fun z H' s' => q z H' s'.unopds2
theorem VWs.one {K : PySem.W.Frag} {F H : Hp} {d : D} {vs : List V} (h : VWs K F H [d] vs) : ∃ v, vs = [v] ∧ VW K F H d v := by
  cases h with
  | cons h t =>
    cases t
    exact ⟨_, rfl, h⟩
theorem VWs.two {K : PySem.W.Frag} {F H : Hp} {d d' : D} {vs : List V} (h : VWs K F H [d, d'] vs) : ∃ v w, vs = [v, w] ∧ VW K F H d v ∧ VW K F H d' w := by
  cases h with
  | cons h t =>
    cases t with
    | cons h' t =>
      cases t
      exact ⟨_, _, rfl, h, h'⟩
theorem one_of {g : List D → Option O} {ds : List D} {o : O} (h : g ds = some o) (h0 : g [] = none) (h2 : ∀ a b r, g (a :: b :: r) = none) : ∃ d, ds = [d] := by
  cases ds with
  | nil =>
    rw [h0] at h
    cases h
  | cons a r =>
    cases r with
    | nil => exact ⟨a, rfl⟩
    | cons b r =>
      rw [h2] at h
      cases h
theorem bools_rd {K : PySem.W.Frag} {F : Hp} : ∀ {ds : List D} {vs : List V} {bs : List Bool}, RDs K F ds vs → boolsOf ds = some bs → vs = bs.map V.bl
  | [], vs, bs, h, e => by
    unfold RDs at h
    cases e
    exact h
  | d :: ds, vs, bs, h, e => by
    unfold RDs at h
    obtain ⟨v, r, e1, q, t⟩ := h
    cases d <;> first | (cases e; done) | skip
    rename_i b
    unfold boolsOf at e
    obtain ⟨cs, hc, e⟩ := Option.map_eq_some_iff.mp e
    have e2 : v = .bl b := q.vw0
    rw [e1, e2, ← e, List.map_cons, bools_rd t hc]
theorem ints_rd {K : PySem.W.Frag} {F : Hp} : ∀ {ds : List D} {vs : List V} {bs : List Int}, RDs K F ds vs → intsOf ds = some bs → vs = bs.map V.int
  | [], vs, bs, h, e => by
    unfold RDs at h
    cases e
    exact h
  | d :: ds, vs, bs, h, e => by
    unfold RDs at h
    obtain ⟨v, r, e1, q, t⟩ := h
    cases d <;> first | (cases e; done) | skip
    rename_i b
    unfold intsOf at e
    obtain ⟨cs, hc, e⟩ := Option.map_eq_some_iff.mp e
    have e2 : v = .int b := q.vw0
    rw [e1, e2, ← e, List.map_cons, ints_rd t hc]
theorem maxI_is : ∀ {ns : List Int}, ns ≠ [] → maxI ns ∈ ns ∧ ∀ y, y ∈ ns → y ≤ maxI ns
  | [], h => absurd rfl h
  | [a], _ => ⟨List.mem_singleton.mpr rfl, fun y hy => by rw [List.mem_singleton.mp hy]; exact Int.le_refl _⟩
  | a :: b :: r, _ => by
    obtain ⟨i1, i2⟩ := maxI_is (ns := b :: r) (by simp)
    have e : maxI (a :: b :: r) = max a (maxI (b :: r)) := rfl
    rw [e]
    refine ⟨?_, fun y hy => ?_⟩
    · by_cases h : a ≤ maxI (b :: r)
      · rw [Int.max_eq_right h]
        exact List.mem_cons_of_mem _ i1
      · rw [Int.max_eq_left (by omega)]
        exact List.mem_cons_self
    · rcases List.mem_cons.mp hy with z | z
      · rw [z]
        exact Int.le_max_left _ _
      · exact Int.le_trans (i2 y z) (Int.le_max_right _ _)
def bltName : Blt → Str
  | .len => "len"
  | .tuple => "tuple"
  | .list => "list"
  | .all => "all"
  | .any => "any"
  | .abs => "abs"
  | .int => "int"
  | .max => "max"
  | .min => "min"
/-- each thing that is built in: its value, its rule -/
theorem blt_rule {X : Cx} (k : Blt) (hc : X.calm = true) : ∃ f r, bootBuiltins (bltName k) = some f ∧ ((∃ id, f = .builtin id) ∨ ∃ T, f = .type T) ∧ CallR X f r ∧
    ∀ {pv e σ rest H vs ds o Q F}, S0 X.K F pv e σ rest H → VWs X.K F H ds vs → bOf k ds = some o → (∀ z H', S X.K pv e σ ((z, o) :: rest) H' → Q z H') → r vs H Q := by
  cases k with
  | len =>
    refine ⟨.builtin "len", _, PySem.boot_len, .inl ⟨_, rfl⟩, call_len_seq.or call_len_str, fun {pv e σ rest H vs ds o Q F} s hv h q => ?_⟩
    obtain ⟨d, rfl⟩ := one_of (g := bLen) h rfl fun a b r => by cases a <;> rfl
    obtain ⟨v, rfl, hw⟩ := hv.one
    cases d with
    | tup ds =>
      obtain ⟨a1, vs, e1, q1, r1⟩ := hw
      cases (Option.some.inj h : O.frz (.int (ds.length : Int)) = o)
      refine .inl ⟨a1, vs, by rw [e1], .inr (s.le.sqT q1), ?_⟩
      rw [r1.length]
      exact q _ _ (s.cl.int _)
    | lst ds =>
      obtain ⟨a1, vs, e1, q1, r1⟩ := hw
      cases (Option.some.inj h : O.frz (.int (ds.length : Int)) = o)
      refine .inl ⟨a1, vs, by rw [e1], .inl (SqL.of q1), ?_⟩
      rw [r1.length]
      exact q _ _ (s.cl.int _)
    | scr ns =>
      obtain ⟨a1, e1, q1⟩ := hw
      cases (Option.some.inj h : O.frz (.int (ns.length : Int)) = o)
      refine .inl ⟨a1, _, by rw [e1], .inl q1, ?_⟩
      rw [List.length_map]
      exact q _ _ (s.cl.int _)
    | str z =>
      have h : (if small z.length then some (O.frz (.int (z.length : Int))) else none) = some o := h
      split at h
      · rename_i hz
        cases (Option.some.inj h : O.frz (.int (z.length : Int)) = o)
        have hw' : v = .str z := hw
        exact .inr ⟨z, by rw [hw'], size_ok hz, q _ _ (s.cl.int _)⟩
      · cases h
    | _ => cases h
  | tuple =>
    refine ⟨.type "tuple", _, PyProof.Rows.boot_tuple, .inr ⟨_, rfl⟩, call_tuple_of, fun {pv e σ rest H vs ds o Q F} s hv h q => ?_⟩
    obtain ⟨d, rfl⟩ := one_of (g := bTuple) h rfl fun a b r => by cases a <;> rfl
    obtain ⟨v, rfl, hw⟩ := hv.one
    cases d with
    | tup ds =>
      obtain ⟨a1, vs, e1, q1, r1⟩ := hw
      cases (Option.some.inj h : O.frz (.tup ds) = o)
      refine ⟨a1, vs, by rw [e1], .inr ⟨s.le.sqT q1, q _ _ (s.add ?_).cl⟩⟩
      unfold RD
      exact ⟨a1, vs, rfl, q1, r1⟩
    | lst ds =>
      obtain ⟨a1, vs, e1, q1, r1⟩ := hw
      cases (Option.some.inj h : O.frz (.tup ds) = o)
      exact ⟨a1, vs, by rw [e1], .inl ⟨SqL.of q1, fun p hp => q _ _ (s.newT hp r1)⟩⟩
    | _ => cases h
  | list =>
    refine ⟨.type "list", _, PyProof.Rows.boot_list, .inr ⟨_, rfl⟩, call_list_of, fun {pv e σ rest H vs ds o Q F} s hv h q => ?_⟩
    obtain ⟨d, rfl⟩ := one_of (g := bList) h rfl fun a b r => by cases a <;> rfl
    obtain ⟨v, rfl, hw⟩ := hv.one
    cases d with
    | tup ds =>
      obtain ⟨a1, vs, e1, q1, r1⟩ := hw
      cases (Option.some.inj h : O.lst ds = o)
      exact ⟨a1, vs, by rw [e1], .inr (s.le.sqT q1), fun p hp => q _ _ (s.mkL hp r1)⟩
    | lst ds =>
      obtain ⟨a1, vs, e1, q1, r1⟩ := hw
      cases (Option.some.inj h : O.lst ds = o)
      exact ⟨a1, vs, by rw [e1], .inl (SqL.of q1), fun p hp => q _ _ (s.mkL hp r1)⟩
    | _ => cases h
  | all =>
    refine ⟨.builtin "all", _, by decide +kernel, .inl ⟨_, rfl⟩, cr_all hc, fun {pv e σ rest H vs ds o Q F} s hv h q => ?_⟩
    obtain ⟨d, rfl⟩ := one_of (g := bAll) h rfl fun a b r => by cases a <;> rfl
    obtain ⟨v, rfl, hw⟩ := hv.one
    cases d with
    | lst ds =>
      obtain ⟨bs, hb, ho⟩ := Option.map_eq_some_iff.mp (h : (boolsOf ds).map _ = some o)
      obtain ⟨a1, vs, e1, q1, r1⟩ := hw
      rw [bools_rd r1 hb] at q1
      rw [← ho] at q
      exact ⟨a1, bs, by rw [e1], SqL.of q1, q _ _ (s.cl.bl _)⟩
    | _ => cases h
  | any =>
    refine ⟨.builtin "any", _, by decide +kernel, .inl ⟨_, rfl⟩, cr_any hc, fun {pv e σ rest H vs ds o Q F} s hv h q => ?_⟩
    obtain ⟨d, rfl⟩ := one_of (g := bAny) h rfl fun a b r => by cases a <;> rfl
    obtain ⟨v, rfl, hw⟩ := hv.one
    cases d with
    | lst ds =>
      obtain ⟨bs, hb, ho⟩ := Option.map_eq_some_iff.mp (h : (boolsOf ds).map _ = some o)
      obtain ⟨a1, vs, e1, q1, r1⟩ := hw
      rw [bools_rd r1 hb] at q1
      rw [← ho] at q
      exact ⟨a1, bs, by rw [e1], SqL.of q1, q _ _ (s.cl.bl _)⟩
    | _ => cases h
  | abs =>
    refine ⟨.builtin "abs", _, PyProof.Rows.boot_abs, .inl ⟨_, rfl⟩, call_abs, fun {pv e σ rest H vs ds o Q F} s hv h q => ?_⟩
    obtain ⟨d, rfl⟩ := one_of (g := bAbs) h rfl fun a b r => by cases a <;> rfl
    obtain ⟨v, rfl, hw⟩ := hv.one
    cases d with
    | int i =>
      cases (Option.some.inj h : O.frz (.int (if i < 0 then -i else i)) = o)
      have hw' : v = .int i := hw
      exact ⟨i, by rw [hw'], q _ _ (s.cl.int _)⟩
    | _ => cases h
  | int =>
    refine ⟨.type "int", _, PyProof.Rows.boot_int, .inr ⟨_, rfl⟩, call_int1, fun {pv e σ rest H vs ds o Q F} s hv h q => ?_⟩
    obtain ⟨d, rfl⟩ := one_of (g := bInt) h rfl fun a b r => by cases a <;> rfl
    obtain ⟨v, rfl, hw⟩ := hv.one
    cases d with
    | int i =>
      cases (Option.some.inj h : O.frz (.int i) = o)
      have hw' : v = .int i := hw
      exact .inl ⟨i, by rw [hw'], q _ _ (s.cl.int _)⟩
    | bl i =>
      cases (Option.some.inj h : O.frz (.int (if i then 1 else 0)) = o)
      have hw' : v = .bl i := hw
      exact .inr ⟨i, by rw [hw'], q _ _ (s.cl.int _)⟩
    | _ => cases h
  | max =>
    refine ⟨.builtin "max", _, PyProof.Rows.boot_max, .inl ⟨_, rfl⟩, (call_max2 hc).or (cr_max hc), fun {pv e σ rest H vs ds o Q F} s hv h q => ?_⟩
    rcases ds with _ | ⟨d, _ | ⟨d', _ | ⟨d3, t⟩⟩⟩
    · cases h
    · obtain ⟨v, rfl, h1⟩ := hv.one
      cases d with
      | lst ds =>
        obtain ⟨ns, hn, h⟩ := Option.bind_eq_some_iff.mp (h : (intsOf ds).bind _ = some o)
        split at h
        · cases h
        · rename_i hne
          cases (Option.some.inj h : O.frz (.int (maxI ns)) = o)
          obtain ⟨a1, vs, e1, q1, r1⟩ := h1
          rw [ints_rd r1 hn] at q1
          obtain ⟨m1, m2⟩ := maxI_is hne
          refine .inr ⟨a1, ns, by rw [e1], SqL.of q1, by cases ns with | nil => exact absurd rfl hne | cons x r => simp, fun m hm hall => ?_⟩
          have e : m = maxI ns := by
            have a := hall _ m1
            have b := m2 m hm
            omega
          rw [e]
          exact q _ _ (s.cl.int _)
      | _ => cases h
    · obtain ⟨v, w, rfl, h1, h2⟩ := hv.two
      cases d with
      | int i =>
        cases d' with
        | int j =>
          cases (Option.some.inj h : O.frz (.int (if j > i then j else i)) = o)
          have h1 : v = .int i := h1
          have h2 : w = .int j := h2
          exact .inl ⟨i, j, by rw [h1, h2], q _ _ (s.cl.int _)⟩
        | _ => cases h
      | _ => cases d' <;> cases h
    · cases d <;> cases d' <;> cases h
  | min =>
    refine ⟨.builtin "min", _, PyProof.Rows.boot_min, .inl ⟨_, rfl⟩, call_min2 hc, fun {pv e σ rest H vs ds o Q F} s hv h q => ?_⟩
    rcases ds with _ | ⟨d, _ | ⟨d', _ | ⟨d3, t⟩⟩⟩
    · cases h
    · cases d <;> cases h
    · obtain ⟨v, w, rfl, h1, h2⟩ := hv.two
      cases d with
      | int i =>
        cases d' with
        | int j =>
          cases (Option.some.inj h : O.frz (.int (if j < i then j else i)) = o)
          have h1 : v = .int i := h1
          have h2 : w = .int j := h2
          exact ⟨i, j, by rw [h1, h2], q _ _ (s.cl.int _)⟩
        | _ => cases h
      | _ => cases d' <;> cases h
    · cases d <;> cases d' <;> cases h
theorem plain_any {env : PySem.Env} {pos : Pos} : ∀ {es : List Expr}, (∀ e ∈ es, ∀ x p, e ≠ .Starred x p) → (backTo pos (starEach es env)).any (·.1) = false
  | [], _ => rfl
  | e :: es, h => by
    have e1 : starEach (e :: es) env = (false, eval e env) :: starEach es env := by
      cases e <;> first | rfl | exact absurd rfl (h _ List.mem_cons_self _ _)
    rw [e1]
    show (false || (backTo pos (starEach es env)).any (·.1)) = false
    rw [Bool.false_or]
    exact plain_any fun e he => h e (List.mem_cons_of_mem _ he)
theorem plain_star {env : PySem.Env} {e : Expr} {es : List Expr} (h : ∀ x p, e ≠ .Starred x p) : starEach (e :: es) env = (false, eval e env) :: starEach es env := by
  cases e <;> first | rfl | exact absurd rfl (h _ _)
theorem px_blt {k : Blt} {p : Pos} {e : Expr} (hc : X.calm = true) (hg : Gl X (bltName k)) (hm : X.mg (bltName k) = none) (hs : ∀ x ∈ e :: es, ∀ y p, x ≠ .Starred y p) (ha : PAR X W cl (e :: es) (allR fs)) : PX X W cl (.Call (.Name (bltName k) p) (e :: es) [] pos) (opN (bOf k) fs) := by
  obtain ⟨f, r, hb, hf, hr, hq⟩ := blt_rule (X := X) k hc
  have n1 : bltName k ≠ "__name__" := by cases k <;> decide
  have n2 : (bltName k == ("__debug__" : Str)) = false := by cases k <;> decide
  have s1 := plain_star (env := X.env) (es := es) (hs e List.mem_cons_self)
  have s2 := plain_any (env := X.env) (pos := pos) fun x hx => hs x (List.mem_cons_of_mem _ hx)
  refine px_call (r := r) (fun {t} h => ?_) hq ha
  rcases hf with ⟨id, rfl⟩ | ⟨T, rfl⟩
  · exact pe_callB hr hg hm hb h n1 n2 s1 s2
  · exact pe_callTy hr hg hm hb h n1 n2 s1 s2
end
end LR

set_option Elab.async false
set_option linter.all false
set_option maxRecDepth 100000
set_option maxHeartbeats 2000000
/-! Calls of defs, isinstance. -/
namespace LR
open PySem L2

/-! ### isinstance -/
theorem kits : ∀ T ∈ ["int", "bool", "str", "tuple", "list"], kitB "NoneType" T = some false ∧ kitB "bool" T = some (T == "int" || T == "bool") ∧ kitB "int" T = some (T == "int") ∧ kitB "str" T = some (T == "str") ∧ kitB "tuple" T = some (T == "tuple") ∧ kitB "list" T = some (T == "list") := by decide +kernel
section
variable {X : Cx} {W : WX} {cl : Str → Value} {a b c : Expr} {pos : Pos} {fa fb fc : M Opd}
theorem ty_of {K : PySem.W.Frag} {F H : Hp} (le : Le F H) {T : String} (hT : T ∈ ["int", "bool", "str", "tuple", "list"]) {d : D} {v : V} {r : Bool} (h : VW K F H d v) (e : isI T d = some r) : ∃ t, TyX K H v t ∧ PySem.W.kitOne K t (.type T) = some r := by
  obtain ⟨k1, k2, k3, k4, k5, k6⟩ := kits T hT
  cases d with
  | non =>
    have h : v = .non := h
    cases e
    rw [h]
    exact ⟨_, .base .non, kit_ty k1⟩
  | bl b =>
    have h : v = .bl b := h
    cases e
    rw [h]
    exact ⟨_, .base (.bl b), kit_ty k2⟩
  | int b =>
    have h : v = .int b := h
    cases e
    rw [h]
    exact ⟨_, .base (.int b), kit_ty k3⟩
  | str b =>
    have h : v = .str b := h
    cases e
    rw [h]
    exact ⟨_, .base (.str b), kit_ty k4⟩
  | tup ds =>
    obtain ⟨a, vs, e1, q, r⟩ := h
    cases e
    rw [e1]
    rcases le.sqT q with (q | ⟨o, q⟩) | ⟨o, its, n, q, hc, _⟩
    · exact ⟨_, .base (.tup q), kit_ty k5⟩
    · exact ⟨_, .fTuple q, kit_ty k5⟩
    · exact ⟨_, .kTuple q hc, kit_ty k5⟩
  | lst ds =>
    obtain ⟨a, vs, e1, q, r⟩ := h
    cases e
    rw [e1]
    exact ⟨_, .base (.lst q), kit_ty k6⟩
  | scr ds => cases e
  | dK ds => cases e
theorem px_isI {T : String} {p pT : Pos} (hT : T ∈ ["int", "bool", "str", "tuple", "list"]) (hg : Gl X "isinstance") (hm : X.mg "isinstance" = none) (hgT : Gl X (Str.ofString T)) (hmT : X.mg (Str.ofString T) = none) (hb : bootBuiltins (Str.ofString T) = some (.type T))
    (n1 : Str.ofString T ≠ "__name__") (n2 : (Str.ofString T == ("__debug__" : Str)) = false) (hs : ∀ y p, a ≠ .Starred y p) (ha : PR X W cl a fa) : PX X W cl (.Call (.Name "isinstance" p) [a, .Name (Str.ofString T) pT] [] pos) (xIsI T fa) := by
  refine (pe_callB call_isi hg hm PyProof.Rows.boot_isinstance (pa_cons ha (pa_cons (pe_bltn (v := .ty T) hgT hmT hb rfl n1 n2) pa_nil) (plain_star hs)) (by decide) (by decide) (plain_star hs) rfl).imp fun σ H Q ⟨pv, e, rest, s, q⟩ => ?_
  unfold xIsI op1 at q
  rw [post_bind] at q
  refine ⟨pv, e, rest, s, q.imp (fun p e1 q x H1 hp s1 => ?_) fun _ _ z => z⟩
  cases h1 : p.val e1 with
  | none =>
    rw [h1] at q
    exact q.elim
  | some dx =>
    rw [h1] at q
    have q : post (give ((isI T dx).map fun b => O.frz (.bl b)) e1) _ _ := q
    cases h2 : isI T dx with
    | none =>
      rw [h2] at q
      exact q.elim
    | some r =>
      rw [h2] at q
      obtain ⟨F, s0⟩ := s1.opn
      obtain ⟨t, ty, kt⟩ := ty_of s0.le hT (s0.vw (Has.of hp) h1) h2
      exact ⟨x, .ty T, t, .type T, r, rfl, .ty T, ty, kt, q _ _ (s1.unopd.bl r)⟩
end

/-! ### what a def promises -/
def spD (K : PySem.W.Frag) (cl : Str → Value) (n : Nat) (g : List O → CRes) : Sp := fun vs H Q E => ∃ os rest, vs.length = n ∧ os.length = n ∧ R K H (vs.zip os ++ rest) ∧ match g os with
  | .fail => False
  | .ok o outs => ∀ v H', R K H' ((v, o) :: (pairs outs (vs.map some) ++ rest)) → Q v H'
  | .exc c outs => ∀ H', R K H' (pairs outs (vs.map some) ++ rest) → E (cl c) none H'
section
variable {K : PySem.W.Frag} {pv : Nat → Option V} {e e1 : Env} {σ : L2.St} {m rest : List (V × O)} {H H' : Hp}
theorem S.copy {v : V} {d : D} (s : S K pv e σ m H) (h : (v, O.frz d) ∈ m) : S K pv e σ ((v, .frz d) :: m) H := by
  obtain ⟨F, s0⟩ := s.opn
  obtain ⟨f, r⟩ := s0.res.mem (List.mem_append_right _ h)
  exact (s0.add r.1).cl
theorem HasAll.mono {m' : List (V × O)} (h : ∀ x, x ∈ m → x ∈ m') : ∀ {ps : List Opd} {vs : List V}, HasAll σ m ps vs → HasAll σ m' ps vs
  | [], [], _ => trivial
  | p :: ps, v :: vs, q => ⟨q.1.mono h, HasAll.mono h q.2⟩
  | [], _ :: _, q => q.elim
  | _ :: _, [], q => q.elim
theorem take_ok : ∀ {ps : List Opd} {vs : List V} {os : List O} {e e1 : Env} {m : List (V × O)}, S K pv e σ m H → HasAll σ m ps vs → takeS ps e = some (os, e1) →
    S K pv e1 σ (vs.zip os ++ m) H ∧ vs.length = os.length ∧ ps.length = vs.length
  | [], [], os, e, e1, m, s, _, h => by
    cases h
    exact ⟨s, rfl, rfl⟩
  | .dat d :: ps, v :: vs, os, e, e1, m, s, ha, h => by
    unfold takeS at h
    obtain ⟨r, hr, h⟩ := Option.map_eq_some_iff.mp h
    cases h
    obtain ⟨s1, l1, l2⟩ := take_ok s ha.2 hr
    refine ⟨s1.copy (List.mem_append_right _ ha.1), by rw [List.length_cons, List.length_cons, l1], by rw [List.length_cons, List.length_cons, l2]⟩
  | .slot i :: ps, v :: vs, os, e, e1, m, s, ha, h => by
    unfold takeS at h
    obtain ⟨o, ho, h⟩ := Option.bind_eq_some_iff.mp h
    obtain ⟨r, hr, h⟩ := Option.map_eq_some_iff.mp h
    cases h
    obtain ⟨w, hw, p⟩ := Cov.get s.cov (Env.at_get ho)
    have hv : σ[i]? = some (some v) := ha.1
    rw [hv] at hw
    cases hw
    have c1 := (Cov.clear (i := i) s.cov).1
    have s1 : S K pv (e.set i none) σ ((v, o) :: m) H := ⟨c1, s.pin, s.res.perm ((p.append_right m).trans perm_in.symm)⟩
    obtain ⟨s2, l1, l2⟩ := take_ok s1 (ha.2.mono fun x hx => List.mem_cons_of_mem _ hx) hr
    refine ⟨s2.go fun l r => r.perm ?_, by rw [List.length_cons, List.length_cons, l1], by rw [List.length_cons, List.length_cons, l2]⟩
    rw [List.zip_cons_cons]
    exact List.Perm.append_right l List.perm_middle
  | [], _ :: _, _, _, _, _, _, h, _ => h.elim
  | _ :: _, [], _, _, _, _, _, h, _ => h.elim
theorem putS_len : ∀ {ps : List Opd} {outs e : Env}, (putS ps outs e).length = e.length
  | [], _, _ => by unfold putS; rfl
  | .slot i :: _, [], _ => by unfold putS; rfl
  | .dat i :: _, [], _ => by unfold putS; rfl
  | .slot i :: ps, some o :: os, e => by
    unfold putS
    rw [putS_len, List.length_set]
  | .dat d :: ps, some o :: os, e => by
    unfold putS
    rw [putS_len]
  | .dat d :: ps, none :: os, e => by
    unfold putS
    rw [putS_len]
  | .slot d :: ps, none :: os, e => by
    unfold putS
    rw [putS_len]
theorem put_ok : ∀ {ps : List Opd} {vs : List V} {outs e : Env} {l : List (V × O)} {m : List (V × O)}, S K pv e σ (l ++ (pairs outs (vs.map some) ++ rest)) H → HasAll σ m ps vs → S K pv (putS ps outs e) σ (l ++ rest) H
  | [], [], outs, e, l, m, s, _ => by
    unfold putS
    have : pairs outs (([] : List V).map some) = [] := by cases outs <;> rfl
    rw [this] at s
    exact s
  | .slot i :: ps, v :: vs, [], e, l, m, s, _ => by
    unfold putS
    exact s
  | .dat i :: ps, v :: vs, [], e, l, m, s, _ => by
    unfold putS
    exact s
  | .dat d :: ps, v :: vs, some o :: os, e, l, m, s, ha => by
    unfold putS
    refine put_ok (m := m) ?_ ha.2
    exact s.go fun k r => ((r.perm (List.Perm.append_right k (List.perm_middle (a := (v, o)) (l₁ := l) (l₂ := pairs os (vs.map some) ++ rest)))).tail)
  | .dat d :: ps, v :: vs, none :: os, e, l, m, s, ha => by
    unfold putS
    exact put_ok (m := m) s ha.2
  | .slot i :: ps, v :: vs, none :: os, e, l, m, s, ha => by
    unfold putS
    exact put_ok (m := m) s ha.2
  | .slot i :: ps, v :: vs, some o :: os, e, l, m, s, ha => by
    unfold putS
    refine put_ok (m := m) ?_ ha.2
    have hv : σ[i]? = some (some v) := ha.1
    obtain ⟨c2, p2⟩ := Cov.put (o := o) s.cov hv
    obtain ⟨_, k, pk⟩ := Cov.clear (i := i) s.cov
    refine ⟨c2, s.pin, ?_⟩
    have r := s.res
    have r1 : R K H (k ++ ((v, o) :: pairs (e.set i none) σ ++ (l ++ (pairs os (vs.map some) ++ rest)))) := by
      refine r.perm ?_
      have a1 : (l ++ (pairs (some o :: os) ((v :: vs).map some) ++ rest)).Perm ((v, o) :: (l ++ (pairs os (vs.map some) ++ rest))) := List.perm_middle
      refine (pk.append a1).trans ?_
      rw [List.append_assoc, List.cons_append]
      exact List.Perm.append_left k List.perm_middle
    exact r1.drop.perm (p2.append_right _).symm
  | [], _ :: _, _, _, _, _, _, h => h.elim
  | _ :: _, [], _, _, _, _, _, h => h.elim
end

/-! ### the rule -/
section
variable {X : Cx} {W : WX} {cl : Str → Value} {a : Expr} {pos p apos : Pos} {es : List Expr} {fa : M Opd} {fs : List (M Opd)} {k : Nat} {f : Addr} {fd : FuncData} {ps : List Str} {x : Str} {g : List O → CRes} {n : Nat}
theorem run_fnSD {CX : CXT} {sp : Sp} {dvs : List V} {ds : List Value} {E : XK} {pins : List (Addr × Obj)} {σ : L2.St} {H : Hp} {s : Shared} {Q : VK} {us : List Value} {vs : List V} (F : FnOk X.prog X.w X.K X.mg X.base CX k f fd ps sp) (hr : Room k X.A) (hb : Binds X.K fd ps ds) (hd : Vals dvs ds)
    (hx : PassesAt CX X σ E) (I : Inv X pins σ H s) (r : Vals vs us) (h : sp (vs ++ dvs) H Q E) : wpAny (model X.prog X.w) X.A (call (.ref f) us) (EP X pins σ Q) X.xe s := by
  have r2 : Vals (vs ++ dvs) (us ++ ds) := r.append hd
  have hl : (us ++ ds).length = ps.length := by rw [← r2.length]; exact F.len _ _ _ _ h
  refine wpAny_call (codeAny_mono (F.run X.A X.stack s H ⟨us, []⟩ (us ++ ds) (vs ++ dvs) Q E hr I.env0 (hb s us I.kIn hl) r2 h) fun r s' hq => ?_)
  cases r with
  | error e => exact hx pins H s e s' I hq
  | ok fl =>
    cases fl with
    | ret u => exact I.after hq
    | next => exact False.elim hq
    | brk => exact False.elim hq
    | cont => exact False.elim hq
def tCallSD (sp : Sp) (dvs : List V) (E : L2.St → XK) (t : TA) : TE := fun σ H Q => t σ H fun vs H1 => sp (vs ++ dvs) H1 Q (E σ)
theorem pe_callSD {CX : CXT} {sp : Sp} {dvs : List V} {ds : List Value} {E : L2.St → XK} {t : TA} (F : FnOk X.prog X.w X.K X.mg X.base CX k f fd ps sp) (hr : Room k X.A) (hg : Gl X x) (hm : X.mg x = some (.ref f)) (hk : PySem.W.keepIn X.K (.ref f) = true) (hb : Binds X.K fd ps ds) (hd : Vals dvs ds)
    (hx : ∀ σ, PassesAt CX X σ (E σ)) (ha : PA X (a :: es) t) (hdb : (x == ("__debug__" : Str)) = false) (he : starEach (a :: es) X.env = (false, eval a X.env) :: starEach es X.env) (hpl : (backTo pos (starEach es X.env)).any (·.1) = false) :
    PE X (.Call (.Name x p) (a :: es) [] pos) (tCallSD sp dvs E t) := by
  refine ⟨fun pins s σ H Q I h => ?_⟩
  refine wpAny_Call_Name_kw (ld_glob I hg hm ?_ hdb)
  refine PySem.W.callWith_K (h₀ := X.base) I.ok.mod.kin hk (thn (ha.run pos pins s σ H _ I h) fun us s1 ⟨vs, H1, I1, r, q⟩ => ⟨I1.kIn, ?_⟩) he hpl
  exact run_fnSD F hr hb hd (hx σ) I1 r q
def tCallKS (sp : Sp) (E : L2.St → XK) (t tk : TA) : TE := fun σ H Q => t σ H fun vs H1 => tk σ H1 fun zs H2 => sp (vs ++ zs) H2 Q (E σ)
theorem pe_callKS {CX : CXT} {sp : Sp} {E : L2.St → XK} {t tk : TA} {kn : Str} {ke : Expr} {kp : Pos} (F : FnOk X.prog X.w X.K X.mg X.base CX k f fd ps sp) (hr : Room k X.A) (hg : Gl X x) (hm : X.mg x = some (.ref f)) (hk : PySem.W.keepIn X.K (.ref f) = true)
    (hb : ∀ (s : Shared) (us ws : List Value), X.K.In s.heap → (us ++ ws).length = ps.length → ws.length = 1 → BindsTo s fd ⟨us, [kn].zip ws⟩ (ps.zip (us ++ ws)))
    (hx : ∀ σ, PassesAt CX X σ (E σ)) (ha : PA X (a :: es) t) (hkw : PK X [⟨some kn, ke, kp⟩] tk) (hk1 : ∀ σ H Q, tk σ H Q → tk σ H fun zs H' => zs.length = 1 ∧ Q zs H')
    (hdb : (x == ("__debug__" : Str)) = false) (he : starEach (a :: es) X.env = (false, eval a X.env) :: starEach es X.env) (hpl : (backTo pos (starEach (a :: es) X.env)).any (·.1) = false) :
    PE X (.Call (.Name x p) (a :: es) [⟨some kn, ke, kp⟩] pos) (tCallKS sp E t tk) := by
  refine ⟨fun pins s σ H Q I h => ?_⟩
  refine wpAny_Call_Name_kw (ld_glob I hg hm ?_ hdb)
  refine PySem.W.callWith_KW (h₀ := X.base) I.ok.mod.kin hk rfl (thn (ha.run pos pins s σ H _ I h) fun us s1 ⟨vs, H1, I1, r, q⟩ => ?_) (by rw [hpl]; rfl) he
  refine thn (hkw.run pos pins s1 σ H1 _ I1 (hk1 _ _ _ q)) fun ws s2 ⟨zs, H2, I2, rz, z1, q2⟩ => ⟨I2.kIn, ?_⟩
  have e1 : (backToKw pos (keywordEach [⟨some kn, ke, kp⟩] X.env)).filterMap (·.1) = [kn] := rfl
  rw [e1]
  have r2 : Vals (vs ++ zs) (us ++ ws) := r.append rz
  have hl : (us ++ ws).length = ps.length := by rw [← r2.length]; exact F.len _ _ _ _ q2
  have hw : ws.length = 1 := by rw [← rz.length]; exact z1
  refine wpAny_call (codeAny_mono (F.run X.A X.stack s2 H2 ⟨us, [kn].zip ws⟩ (us ++ ws) (vs ++ zs) Q (E σ) hr I2.env0 (hb s2 us ws I2.kIn hl hw) r2 q2) fun r s' hq => ?_)
  cases r with
  | error e => exact hx σ pins H2 s2 e s' I2 hq
  | ok fl =>
    cases fl with
    | ret u => exact I2.after hq
    | next => exact False.elim hq
    | brk => exact False.elim hq
    | cont => exact False.elim hq
theorem R.frz0 {K : PySem.W.Frag} {H : Hp} {l : List (V × O)} (r : R K H l) : ∀ {dvs : List V} {dd : List D}, dvs.length = dd.length → (∀ p ∈ dvs.zip dd, ∀ F, RD K F p.2 p.1) → R K H (dvs.zip (dd.map O.frz) ++ l)
  | [], [], _, _ => r
  | v :: vs, d :: ds, h, q => (R.frz0 r (dvs := vs) (dd := ds) (by simpa using h) fun p hp => q p (List.mem_cons_of_mem _ hp)).lit (q (v, d) List.mem_cons_self)
  | [], _ :: _, h, _ => by simp at h
  | _ :: _, [], h, _ => by simp at h
theorem call_core {ps0 : List Opd} {vs dvs : List V} {dd : List D} {pv : Nat → Option V} {e : Env} {σ : L2.St} {rest : List (V × O)} {H : Hp} {Q : VK} (s : S X.K pv e σ (opdRs ps0 vs rest) H) (ha : HasAll σ (opdRs ps0 vs rest) ps0 vs)
    (hl : dvs.length = dd.length) (hd : ∀ p ∈ dvs.zip dd, ∀ F, RD X.K F p.2 p.1) (hg0 : ∀ os : List O, os.length ≠ n → g os = .fail)
    (q : post (match takeS ps0 e with | none => .fail | some r => (g (r.1 ++ dd.map O.frz)).put ps0 r.2) (fun o e' => ∀ v H', S X.K pv e' σ ((v, o) :: rest) H' → Q v H') (fun c e' => ∀ H', S X.K pv e' σ rest H' → W (cl c) none σ H')) :
    spD X.K cl n g (vs ++ dvs) H Q (WE W σ) := by
  cases ht : takeS ps0 e with
  | none =>
    rw [ht] at q
    exact q.elim
  | some r =>
    obtain ⟨os, e1⟩ := r
    rw [ht] at q
    have q : post ((g (os ++ dd.map O.frz)).put ps0 e1) (fun o e' => ∀ v H', S X.K pv e' σ ((v, o) :: rest) H' → Q v H') (fun c e' => ∀ H', S X.K pv e' σ rest H' → W (cl c) none σ H') := q
    obtain ⟨s1, l1, l2⟩ := take_ok s ha ht
    have ez : (vs ++ dvs).zip (os ++ dd.map O.frz) = vs.zip os ++ dvs.zip (dd.map O.frz) := List.zip_append l1
    have hr : R X.K H ((vs ++ dvs).zip (os ++ dd.map O.frz) ++ (pairs e1 σ ++ opdRs ps0 vs rest)) := by
      rw [ez]
      have r1 := (s1.res).frz0 hl hd
      refine r1.perm ?_
      have a1 : (pairs e1 σ ++ (vs.zip os ++ opdRs ps0 vs rest)).Perm (vs.zip os ++ (pairs e1 σ ++ opdRs ps0 vs rest)) := by
        rw [← List.append_assoc, ← List.append_assoc]
        exact List.Perm.append_right _ List.perm_append_comm
      refine (List.Perm.append_left _ a1).trans ?_
      rw [← List.append_assoc]
      exact List.Perm.append_right _ List.perm_append_comm
    have hlen : (vs ++ dvs).length = (os ++ dd.map O.frz).length := by rw [List.length_append, List.length_append, List.length_map, l1, hl]
    have hn : (os ++ dd.map O.frz).length = n := by
      by_cases z : (os ++ dd.map O.frz).length = n
      · exact z
      · rw [hg0 _ z] at q
        exact q.elim
    refine ⟨os ++ dd.map O.frz, pairs e1 σ ++ opdRs ps0 vs rest, hlen.trans hn, hn, hr, ?_⟩
    have cutP : ∀ (outs : Env), ∃ m, (pairs outs ((vs ++ dvs).map some)).Perm (m ++ pairs outs (vs.map some)) := by
      intro outs
      rw [List.map_append]
      have key : ∀ (outs : Env) (a b : L2.St), ∃ m, (pairs outs (a ++ b)).Perm (m ++ pairs outs a) := by
        intro outs
        induction outs with
        | nil => exact fun a b => ⟨[], .refl _⟩
        | cons x outs ih =>
          intro a b
          cases a with
          | nil => exact ⟨pairs (x :: outs) b, by
              have : pairs (x :: outs) ([] : L2.St) = [] := by cases x <;> rfl
              rw [this, List.append_nil]
              exact .refl _⟩
          | cons y a =>
            obtain ⟨m, hm⟩ := ih a b
            cases x with
            | none => exact ⟨m, hm⟩
            | some o =>
              cases y with
              | none => exact ⟨m, hm⟩
              | some v => exact ⟨m, (hm.cons _).trans List.perm_middle.symm⟩
      exact key outs _ _
    cases hg : g (os ++ dd.map O.frz) with
    | fail =>
      rw [hg] at q
      exact q.elim
    | ok o outs =>
      rw [hg] at q
      have q : ∀ v H', S X.K pv (putS ps0 outs e1) σ ((v, o) :: rest) H' → Q v H' := q
      intro v H' r
      obtain ⟨m, pm⟩ := cutP outs
      have r2 : R X.K H' (pairs e1 σ ++ ([(v, o)] ++ (pairs outs (vs.map some) ++ opdRs ps0 vs rest))) := by
        have r3 : R X.K H' (m ++ ((v, o) :: (pairs outs (vs.map some) ++ (pairs e1 σ ++ opdRs ps0 vs rest)))) := by
          refine r.perm ?_
          refine (List.Perm.cons _ (List.Perm.append_right _ pm)).trans ?_
          rw [List.append_assoc]
          exact List.perm_middle.symm
        refine r3.drop.perm ?_
        rw [← List.append_assoc, ← List.cons_append]
        have a1 : ((v, o) :: (pairs outs (vs.map some) ++ pairs e1 σ)).Perm (pairs e1 σ ++ ([(v, o)] ++ pairs outs (vs.map some))) := by
          rw [← List.cons_append]
          exact List.perm_append_comm
        have a2 := List.Perm.append_right (opdRs ps0 vs rest) a1
        rw [List.append_assoc, List.append_assoc] at a2
        exact a2
      have s2 : S X.K pv e1 σ ([(v, o)] ++ (pairs outs (vs.map some) ++ opdRs ps0 vs rest)) H' := ⟨s1.cov, s1.pin, r2⟩
      exact q v H' (put_ok (m := opdRs ps0 vs rest) s2 ha).unopds2
    | exc c outs =>
      rw [hg] at q
      have q : ∀ H', S X.K pv (putS ps0 outs e1) σ rest H' → W (cl c) none σ H' := q
      intro H' r
      obtain ⟨m, pm⟩ := cutP outs
      have r2 : R X.K H' (pairs e1 σ ++ (pairs outs (vs.map some) ++ opdRs ps0 vs rest)) := by
        have r3 : R X.K H' (m ++ ((pairs outs (vs.map some) ++ (pairs e1 σ ++ opdRs ps0 vs rest)))) := by
          refine r.perm ?_
          refine (List.Perm.append_right _ pm).trans ?_
          rw [List.append_assoc]
        refine r3.drop.perm ?_
        rw [← List.append_assoc, ← List.append_assoc]
        exact List.Perm.append_right _ List.perm_append_comm
      have s2 : S X.K pv e1 σ ([] ++ (pairs outs (vs.map some) ++ opdRs ps0 vs rest)) H' := ⟨s1.cov, s1.pin, r2⟩
      exact q H' (S.unopds (put_ok (m := opdRs ps0 vs rest) s2 ha))
theorem pr_toA {b : Expr} {fx : M O} (h : PX X W cl b fx) : PR X W cl b (toA fx) := (pv_of h).imp fun σ H Q ⟨pv, e, rest, s, q⟩ => by
  unfold toA at q
  rw [post_bind] at q
  exact ⟨pv, e, rest, s, q.imp (fun d e1 q v H' s' => q v H' trivial s') fun _ _ z => z⟩
/-- f(e, ..) with the defaults dd behind -/
theorem px_fn {dvs : List V} {dd : List D} {ds : List Value} (F : FnOk X.prog X.w X.K X.mg X.base (L2.CX X.prog X.w) k f fd ps (spD X.K cl n g)) (tk : Takes X W) (hr : Room k X.A) (hg : Gl X x) (hm : X.mg x = some (.ref f)) (hk : PySem.W.keepIn X.K (.ref f) = true) (hb : Binds X.K fd ps ds) (hd : Vals dvs ds)
    (hl : dvs.length = dd.length) (hdd : ∀ p ∈ dvs.zip dd, ∀ F, RD X.K F p.2 p.1) (hg0 : ∀ os : List O, os.length ≠ n → g os = .fail)
    (hs : ∀ x ∈ a :: es, ∀ y p, x ≠ .Starred y p) (hdb : (x == ("__debug__" : Str)) = false) (ha : PAR X W cl (a :: es) (allR fs)) : PX X W cl (.Call (.Name x p) (a :: es) [] pos) (xCall g dd fs) := by
  have s1 := plain_star (env := X.env) (es := es) (hs a List.mem_cons_self)
  have s2 := plain_any (env := X.env) (pos := pos) fun x hx => hs x (List.mem_cons_of_mem _ hx)
  refine (pe_callSD (E := WE W) F hr hg hm hk hb hd (fun σ => passAt tk σ) ha hdb s1 s2).imp fun σ H Q ⟨pv, e, rest, s, q⟩ => ?_
  unfold xCall at q
  rw [post_bind] at q
  exact ⟨pv, e, rest, s, q.imp (fun ps0 e1 q vs H1 ha s1 => call_core s1 ha hl hdd hg0 q) fun _ _ z => z⟩
theorem allR_append {fs gs : List (M Opd)} : ∀ e, allR (fs ++ gs) e = (allR fs e).bind fun ps e1 => (allR gs e1).bind fun qs e2 => .ok (ps ++ qs) e2 := by
  induction fs with
  | nil =>
    intro e
    show allR gs e = (allR gs e).bind fun qs e2 => .ok qs e2
    cases allR gs e <;> rfl
  | cons x fs ih =>
    intro e
    show ((x e).bind fun a e1 => (allR (fs ++ gs) e1).bind fun l e2 => .ok (a :: l) e2) = ((x e).bind fun a e1 => (allR fs e1).bind fun l e2 => .ok (a :: l) e2).bind _
    cases x e with
    | fail => rfl
    | exc c e1 => rfl
    | ok a e1 =>
      show (allR (fs ++ gs) e1).bind _ = ((allR fs e1).bind _).bind _
      rw [ih]
      cases allR fs e1 with
      | fail => rfl
      | exc c e2 => rfl
      | ok l e2 =>
        show ((allR gs e2).bind _).bind _ = (allR gs e2).bind _
        cases allR gs e2 <;> rfl
/-- f(e, .., kn = ke) -/
theorem px_fnK {kn : Str} {ke : Expr} {kp : Pos} {fk : M Opd} (F : FnOk X.prog X.w X.K X.mg X.base (L2.CX X.prog X.w) k f fd ps (spD X.K cl n g)) (tk : Takes X W) (hr : Room k X.A) (hg : Gl X x) (hm : X.mg x = some (.ref f)) (hk : PySem.W.keepIn X.K (.ref f) = true)
    (hb : ∀ (s : Shared) (us ws : List Value), X.K.In s.heap → (us ++ ws).length = ps.length → ws.length = 1 → BindsTo s fd ⟨us, [kn].zip ws⟩ (ps.zip (us ++ ws))) (hg0 : ∀ os : List O, os.length ≠ n → g os = .fail)
    (hs : ∀ x ∈ a :: es, ∀ y p, x ≠ .Starred y p) (hdb : (x == ("__debug__" : Str)) = false) (ha : PAR X W cl (a :: es) (allR fs)) (hke : PR X W cl ke fk) : PX X W cl (.Call (.Name x p) (a :: es) [⟨some kn, ke, kp⟩] pos) (xCall g [] (fs ++ [fk])) := by
  have s1 := plain_star (env := X.env) (es := es) (hs a List.mem_cons_self)
  have s2 := plain_any (env := X.env) (pos := pos) hs
  refine (pe_callKS (E := WE W) F hr hg hm hk hb (fun σ => passAt tk σ) ha (pk_cons hke pk_nil) (fun σ H Q h => ?_) hdb s1 s2).imp fun σ H Q ⟨pv, e, rest, s, q⟩ => ?_
  · obtain ⟨pv, e, rest, s, q⟩ := h
    exact ⟨pv, e, rest, s, q.imp (fun p e1 q v H' hp s' => ⟨rfl, q v H' hp s'⟩) fun _ _ z => z⟩
  · unfold xCall at q
    rw [allR_append, Res.bind_bind, post_bind] at q
    refine ⟨pv, e, rest, s, q.imp (fun ps0 e1 q vs H1 ha s1 => ?_) fun _ _ z => z⟩
    rw [Res.bind_bind, post_bind] at q
    unfold allR at q
    rw [post_bind] at q
    refine ⟨pv, e1, opdRs ps0 vs rest, s1, q.imp (fun p0 e2 q v H2 hp s2 => ?_) fun _ _ z H' s' => z H' s'.unopds⟩
    have q : post (match takeS (ps0 ++ [p0]) e2 with | none => .fail | some r => (g (r.1 ++ ([] : List D).map O.frz)).put (ps0 ++ [p0]) r.2) _ _ := q
    have e3 : opdR p0 v (opdRs ps0 vs rest) = opdRs (ps0 ++ [p0]) (vs ++ [v]) rest := by
      have key : ∀ (ps0 : List Opd) (vs : List V) (rest : List (V × O)) (hh : ps0.length = vs.length), opdR p0 v (opdRs ps0 vs rest) = opdRs (ps0 ++ [p0]) (vs ++ [v]) rest := by
        intro ps0
        induction ps0 with
        | nil =>
          intro vs rest hh
          cases vs with
          | nil => rfl
          | cons x y => simp at hh
        | cons x ps0 ih =>
          intro vs rest hh
          cases vs with
          | nil => simp at hh
          | cons y vs => exact ih vs (opdR x y rest) (by simpa using hh)
      have hl : ∀ {ps0 : List Opd} {vs : List V} {m : List (V × O)}, HasAll σ m ps0 vs → ps0.length = vs.length := by
        intro ps0
        induction ps0 with
        | nil =>
          intro vs m h
          cases vs with
          | nil => rfl
          | cons x y => exact h.elim
        | cons x ps0 ih =>
          intro vs m h
          cases vs with
          | nil => exact h.elim
          | cons y vs => rw [List.length_cons, List.length_cons, ih h.2]
      exact key ps0 vs rest (hl ha)
    have ha2 : HasAll σ (opdRs (ps0 ++ [p0]) (vs ++ [v]) rest) (ps0 ++ [p0]) (vs ++ [v]) := by
      rw [← e3]
      have key : ∀ {ps0 : List Opd} {vs : List V} {m : List (V × O)}, HasAll σ m ps0 vs → Has p0 v σ m → HasAll σ m (ps0 ++ [p0]) (vs ++ [v]) := by
        intro ps0
        induction ps0 with
        | nil =>
          intro vs m h h2
          cases vs with
          | nil => exact ⟨h2, trivial⟩
          | cons x y => exact h.elim
        | cons x ps0 ih =>
          intro vs m h h2
          cases vs with
          | nil => exact h.elim
          | cons y vs => exact ⟨h.1, ih h.2 h2⟩
      exact key (ha.mono opdR_sub) (Has.of hp)
    rw [e3] at s2
    have r := call_core (dvs := []) (dd := []) s2 ha2 rfl (fun p hp => by cases hp) hg0 q
    rw [List.append_nil] at r
    exact r
end
end LR

set_option Elab.async false
set_option linter.all false
set_option maxRecDepth 100000
set_option maxHeartbeats 4000000
/-! What is walked: lists and tuples alike, enumerate, zip of two and three, in any mix. -/
namespace LR
open PySem PySem.Spec PyProof.Rows L2
open AutoSeq1 (wpAny_loadPart')

/-- a list (false), a tuple (true) -/
def SqB (K : PySem.W.Frag) (H : Hp) : Bool → Addr → List V → Prop
  | false, a, xs => SqL K H a xs
  | true, a, xs => SqT K H a xs
def isB (h : Heap) : Bool → Addr → Array Value → Prop
  | false, a, its => h.IsList a its
  | true, a, its => h.IsTuple a its
def itB (h : Heap) : Bool → Addr → Addr → Nat → Prop
  | false, it, a, i => h.IsListIter it a i
  | true, it, a, i => h.IsTupleIter it a i
def objB : Bool → Addr → Obj
  | false, a => { cls := .type "list_iterator", data := .fields #[.ref a, .int 0 0] }
  | true, a => { cls := .type "tuple_iterator", data := .fields #[.ref a, .int 0 0] }
theorem seqB {X : Cx} {pins : List (Addr × Obj)} {σ : L2.St} {H : Hp} {s : Shared} {b : Bool} {a : Addr} {xs : List V} (I : Inv X pins σ H s) (h : SqB X.K H b a xs) : ∃ its : List Value, Vals xs its ∧ isB s.heap b a its.toArray := by
  cases b with
  | false =>
    obtain ⟨its, r, p, _⟩ := I.list h
    exact ⟨its, r, p.isList⟩
  | true =>
    obtain ⟨its, r, p, _⟩ := I.tuple h
    exact ⟨its, r, p⟩
theorem seqB_inj {X : Cx} {pins : List (Addr × Obj)} {σ : L2.St} {H : Hp} {s : Shared} {b : Bool} {a : Addr} {xs ys : List V} (I : Inv X pins σ H s) (h : SqB X.K H b a xs) (h' : SqB X.K H b a ys) : xs = ys := by
  cases b with
  | false => exact I.list_inj h h'
  | true => exact I.tuple_inj h h'
theorem drawB {prog : Program} {w : World} {A : Around} (hh : A.handled = none) (b : Bool) (it a : Addr) (hne : a ≠ it) (items : Array Value) :
    Draws prog w A it [it, a] items.size (fun i v => items[i]? = some v) (fun i h => itB h b it a i ∧ isB h b a items) := by
  cases b with
  | false => exact Draws.list hh it a hne items
  | true => exact Draws.tuple hh it a hne items
theorem beginB (b : Bool) (a : Addr) (items : Array Value) : Begins (.ref a) (objB b a) fun h => isB h b a items := by
  cases b with
  | false => exact begins_list a items
  | true => exact begins_tuple a items
theorem itB_at {h h' : Heap} {b : Bool} {it a : Addr} {i : Nat} (x : itB h b it a i) (k : ∀ o, h.get? it = some o → h'.get? it = some o) : itB h' b it a i := by
  cases b with
  | false => exact Heap.IsListIter.at x k
  | true => exact Heap.IsTupleIter.at x k
theorem itB_obj {h : Heap} {b : Bool} {it a : Addr} {i : Nat} (x : itB h b it a i) : ∃ o, h.get? it = some o ∧ ∀ v, o.data ≠ .cell v := by
  cases b with
  | false =>
    obtain ⟨o, e, _, d⟩ := x
    exact ⟨o, e, fun v q => by rw [d] at q; cases q⟩
  | true =>
    obtain ⟨o, e, _, d⟩ := x
    exact ⟨o, e, fun v q => by rw [d] at q; cases q⟩
theorem itB_new {h : Heap} {b : Bool} {it a : Addr} (e : h.get? it = some (objB b a)) : itB h b it a 0 := by
  cases b with
  | false => exact ⟨_, e, rfl, rfl⟩
  | true => exact ⟨_, e, rfl, rfl⟩

/-! ### enumerate -/
theorem meets_enumerate_new1 {v : Value} {o : Obj} {H : Heap → Prop} (B : Begins v o H) :
    Meets (Builtin.«enumerate.__new__» ⟨[.type "enumerate", v], []⟩) (fun _ R s => H s.heap ∧
      R (.ok (.ret (.ref (s.heap.push o).objs.size))) { s with heap := (s.heap.push o).push { cls := .type "enumerate", data := .fields #[.none, .bool false, .ref s.heap.objs.size, rawInt 0, .none, .none] } }) :=
  .of_wp fun prog w A R s h => by
    obtain ⟨hp, g, d, tk, os⟩ := s; obtain ⟨h1, h⟩ := h
    have hsub := sub_enumerate
    have q1 : ∀ {A' : Around} {E : Value → Shared → Prop} {Q : Value → Shared → Prop}, Q (.ref hp.objs.size) ⟨hp.push o, g, d, tk, os⟩ → wpAny (model prog w) A' (pyIter v) Q E ⟨hp, g, d, tk, os⟩ :=
      fun q => B.iter prog w _ _ ⟨hp, g, d, tk, os⟩ _ h1 q
    wp_walk using q1
    refine wpAny_stack_any fun st => wpAny_pure ?_
    split
    · rename_i c _ _ _ _ _
      cases (c == Value.type "enumerate")
      · wp_walk using q1
        exact ⟨_, rfl, h⟩
      · wp_walk using q1
        exact ⟨_, rfl, h⟩
    · wp_walk using q1
      exact ⟨_, rfl, h⟩
theorem enum_begins1 {prog : Program} {w : World} {A : Around} {E : Value → Shared → Prop} {s : Shared} {v : Value} {o : Obj} {H : Heap → Prop} {Q : Value → Shared → Prop} (B : Begins v o H) (h1 : H s.heap)
    (h : ∀ h', IsEnum h' (s.heap.objs.size + 1) s.heap.objs.size 0 .none → h'.get? s.heap.objs.size = some o → h'.objs.size = s.heap.objs.size + 2 →
      (∀ b o, s.heap.get? b = some o → h'.get? b = some o) → Q (.ref (s.heap.objs.size + 1)) { s with heap := h' }) :
    wpAny (model prog w) A (call (.type "enumerate") [v]) Q E s := by
  refine callType_new F.called_enumerate (by decide) (F.typeCall_enumerate_1 _) (F.newCall_enumerate_1 _) (fun obj => F.args_object_init_2 obj _) F.entry_enumerate_new
    (meets_enumerate_new1 B) ⟨h1, ?_⟩
  have hz : (s.heap.push o).objs.size = s.heap.objs.size + 1 := Heap.size_push ..
  show _ ∧ _
  rw [hz]
  have he : IsEnum ((s.heap.push o).push { cls := .type "enumerate", data := .fields #[.none, .bool false, .ref s.heap.objs.size, rawInt 0, .none, .none] }) (s.heap.objs.size + 1) s.heap.objs.size 0 .none := by
    have := Heap.get?_push_size (s.heap.push o) (o := { cls := .type "enumerate", data := .fields #[.none, .bool false, .ref s.heap.objs.size, rawInt 0, .none, .none] }) rfl
    rw [hz] at this; exact this
  refine ⟨⟨_, he, rfl⟩, h _ he (Heap.get?_push_of_some _ (Heap.get?_push_size _ B.free)) (by rw [Heap.size_push, hz]) fun b o x => Heap.get?_push_of_some _ (Heap.get?_push_of_some _ x)⟩
def ItE (K : PySem.W.Frag) (b : Bool) (a : Addr) : It :=
  ⟨fun i H => ∃ (xs : List V) (x : V), SqB K H b a xs ∧ xs[i]? = some x, fun i H v H' => ∃ T x, v = .ref T ∧ H T = none ∧ H' = upd H T (.tup [.int (i : Nat), x]) ∧ ∀ xs, SqB K H b a xs → xs[i]? = some x, fun i H => ∃ xs : List V, SqB K H b a xs ∧ xs.length = i⟩
theorem turn_enumB {P : Program} {w : World} {K : PySem.W.Frag} {elts : List Expr} {kk : Nat} {tpos : Pos} {k : Bool} (a e it : Addr) :
    Turn P w K (.Tuple elts kk tpos) (ItE K k a) [e, it] e (fun i h => (∃ old, IsEnum h e it ((i : Nat) : Int) old) ∧ itB h k it a i ∧ e ≠ it) where
  mem := by simp
  obj := fun i h st b hb => by
    obtain ⟨⟨old, he⟩, hi, _⟩ := st
    have e' : b = e ∨ b = it := by simpa using hb
    rcases e' with z | z
    · rw [z]; exact ⟨_, he, fun v q => nomatch q⟩
    · rw [z]; exact itB_obj hi
  keep := fun i h h' st k => let ⟨⟨old, he⟩, hi, hne⟩ := st; ⟨⟨old, k e (by simp) _ he⟩, itB_at hi fun o q => k it (by simp) o q, hne⟩
  item := by
    intro X hP hw hK hc i pins s σ H E I hf st hg
    subst hP hw hK
    obtain ⟨⟨old, he⟩, hit, hne⟩ := st
    obtain ⟨xs, x, hq, hx⟩ := hg
    obtain ⟨its, rv, p⟩ := seqB I hq
    have hi : i < its.toArray.size := by
      have h1 := (List.getElem?_eq_some_iff.mp hx).1
      have h2 := rv.length
      simp
      omega
    have hel : e < s.heap.objs.size := Heap.lt_size he
    have hil : it < s.heap.objs.size := by obtain ⟨_, q, _⟩ := itB_obj hit; exact Heap.lt_size q
    have hae : a ≠ e := fun z => by
      have z2 := (hf e (by simp)).1
      rw [z] at p
      cases k with
      | false =>
        obtain ⟨o, ho, hc', _⟩ := p
        rw [he] at ho
        cases ho
        simp at hc'
      | true =>
        obtain ⟨o, ho, hc', _⟩ := p
        rw [he] at ho
        cases ho
        simp at hc'
    have hai : a ≠ it := fun z => by
      rw [z] at p
      cases k with
      | false =>
        obtain ⟨o, ho, hc', _⟩ := p
        obtain ⟨o2, ho2, hc2, _⟩ := hit
        rw [ho] at ho2
        cases ho2
        rw [hc'] at hc2
        simp at hc2
      | true =>
        obtain ⟨o, ho, hc', _⟩ := p
        obtain ⟨o2, ho2, hc2, _⟩ := hit
        rw [ho] at ho2
        cases ho2
        rw [hc'] at hc2
        simp at hc2
    refine wpAny_pyNext_enum_itemD (drawB (A := X.A.in1) (show X.A.in1.handled = none from I.ok.hd hc) k it a hai its.toArray) he ⟨hit, p⟩ hi hne (by simp [hne, hae.symm]) fun u h' tk hu ho hst hT hsz hk => ?_
    refine ⟨_, rfl, wpAny_letOwnedTupleGo_enum (s := { s with heap := h', toks := tk + 1 }) ho fun h'' he' sb => ?_⟩
    obtain ⟨y, hy, ru⟩ : ∃ y, xs[i]? = some y ∧ RelV y u := by
      obtain ⟨w', hw', rw'⟩ := rv.get hx
      have e1 : its[i]? = some u := by simpa using hu
      rw [e1] at hw'
      cases hw'
      exact ⟨x, hx, rw'⟩
    have hT2 : h''.get? s.heap.objs.size = some { cls := .type "tuple", data := .seq #[.int i tk, u] } := (sb.2 _ (Nat.ne_of_gt hel)).trans hT
    have new : ObjOk X.prog X.w (upd H s.heap.objs.size (.tup [.int (i : Nat), y])) h'' s.heap.objs.size (.tup [.int (i : Nat), y]) :=
      ⟨by show 2 ≤ sizeLine; decide, [.int i tk, u], .cons ⟨_, rfl⟩ (.cons ru .nil), ⟨_, hT2, rfl, _, rfl⟩⟩
    have I1 : Inv X pins σ (upd H s.heap.objs.size (.tup [.int (i : Nat), y])) { s with heap := h'', toks := tk + 1 } :=
      I.turnedNew (ch := [e, it]) (fun b ob hb q => (sb.2 b (fun z => hb (by simp [z]))).trans (hk b ob (fun z => hb (by simp [z])) (fun z => hb (by simp [z])) q)) hf (Nat.le_refl _) new
    refine ⟨.ref s.heap.objs.size, _, I1, rfl, ⟨_, y, rfl, I.hok.fresh (Nat.le_refl _), rfl, fun ys hy' => by rw [seqB_inj I hy' hq]; exact hy⟩, ⟨⟨u, ?_⟩, itB_at hst.1 fun o q => (sb.2 it (Ne.symm hne)).trans q, hne⟩, fun b hb => ?_⟩
    · have e1 : ((i + 1 : Nat) : Int) = (i : Int) + 1 := by omega
      rw [e1]; exact he'
    · have hb' : b < s.heap.objs.size := by
        have e' : b = e ∨ b = it := by simpa using hb
        rcases e' with z | z
        · rw [z]; exact hel
        · rw [z]; exact hil
      rw [upd_ne (Nat.ne_of_lt hb')]
      exact (hf b hb).1
  done := by
    intro X hP hw hK hc i pins s σ H E I hf st hg
    subst hP hw hK
    obtain ⟨⟨old, he⟩, hit, hne⟩ := st
    obtain ⟨xs, hq, hx⟩ := hg
    obtain ⟨its, rv, p⟩ := seqB I hq
    obtain ⟨f0, f1, f2, f3, f4, f5⟩ := hf it (by simp)
    have hai : a ≠ it := fun z => by
      rw [z] at p
      cases k with
      | false =>
        obtain ⟨o, ho, hc', _⟩ := p
        obtain ⟨o2, ho2, hc2, _⟩ := hit
        rw [ho] at ho2
        cases ho2
        rw [hc'] at hc2
        simp at hc2
      | true =>
        obtain ⟨o, ho, hc', _⟩ := p
        obtain ⟨o2, ho2, hc2, _⟩ := hit
        rw [ho] at ho2
        cases ho2
        rw [hc'] at hc2
        simp at hc2
    have hn : its.toArray.size = i := by
      have h2 := rv.length
      simp
      omega
    exact wpAny_pyNext_enum_endD (drawB (A := X.A.in1) (show X.A.in1.handled = none from I.ok.hd hc) k it a hai its.toArray) he (by rw [hn]; exact ⟨hit, p⟩) fun h' eb => ⟨rfl, I.turned (t' := s.toks) (fun b o hb q => eb b o hb q) f0 f1 f3 f4 f5⟩
  self := fun A i s Q E st h => let ⟨⟨_, he⟩, _⟩ := st; wpAny_pyIter_enum he h
def iEnumB (K : PySem.W.Frag) (ta : TA) : TI := fun σ H R => ta σ H fun vs H1 => ∃ k a xs, vs = [.ref a] ∧ SqB K H1 k a xs ∧ R (ItE K k a) H1
theorem pi_enumB {X : Cx} {e : Expr} {ta : TA} {p pos tpos : Pos} {elts : List Expr} {kk : Nat} (hg : Gl X "enumerate") (hm : X.mg "enumerate" = none) (ha : PA X [e] ta) (hs : starEach [e] X.env = [(false, eval e X.env)]) :
    PI X (.Tuple elts kk tpos) (.Call (.Name "enumerate" p) [e] [] pos) (iEnumB X.K ta) := by
  refine ⟨fun pins s σ H R I h => ?_⟩
  refine Call_ (ld_blt I hg hm boot_enumerate (PyProof.Rows.callWith_type1 (thn (ha.run pos pins s σ H _ I h) fun us s1 ⟨vs, H1, I1, r1, q1⟩ => ?_) hs rfl))
  obtain ⟨k, a, xs, ex, hq, q⟩ := q1
  subst ex
  cases r1 with
  | cons r rr =>
    cases rr
    cases r
    obtain ⟨its, rv, p'⟩ := seqB I1 hq
    refine enum_begins1 (beginB k a its.toArray) p' fun h' he hit hsz hk => wpAny_pyIter_enum he ?_
    have I2 : Inv X pins σ H1 { s1 with heap := h' } := I1.kept (t' := s1.toks) hk
    refine ⟨s1.heap.objs.size + 1, [s1.heap.objs.size + 1, s1.heap.objs.size], _, _, H1, rfl, I2, turn_enumB (k := k) a (s1.heap.objs.size + 1) s1.heap.objs.size, ⟨⟨.none, he⟩, itB_new hit, Nat.succ_ne_self _⟩, fun b hb => ?_, q⟩
    have e' : b = s1.heap.objs.size + 1 ∨ b = s1.heap.objs.size := by simpa using hb
    have hle : s1.heap.objs.size ≤ b := by
      rcases e' with z | z
      · rw [z]; exact Nat.le_add_right _ _
      · rw [z]; exact Nat.le_refl _
    exact I1.fpOk hle (I1.hok.fresh hle)

/-! ### a list, a tuple, a text -/
def iAny (K : PySem.W.Frag) (te : TE) : TI := fun σ H R => te σ H fun x H1 => (∃ a, x = .ref a ∧ (∃ xs, SqL K H1 a xs) ∧ R (Itl K a) H1) ∨ (∃ a, x = .ref a ∧ (∃ xs, SqT K H1 a xs) ∧ R (Itt K a) H1) ∨ ∃ z, x = .str z ∧ R (Its z) H1
theorem pi_any {X : Cx} {tg l : Expr} {tl : TE} (hl : PE X l tl) : PI X tg l (iAny X.K tl) := by
  refine ⟨fun pins s σ H R I h => ?_⟩
  refine thn (hl.run pins s σ H _ I h) fun v s1 ⟨x, H1, I1, r1, q1⟩ => ?_
  rcases q1 with ⟨a, e, ⟨xs, hq⟩, q⟩ | ⟨a, e, ⟨xs, hq⟩, q⟩ | ⟨z, e, q⟩
  · subst e
    cases r1
    obtain ⟨its, rv, p, hz⟩ := I1.list hq
    refine wpAny_pyIter_list p.isList ?_
    refine ⟨s1.heap.objs.size, [s1.heap.objs.size], _, _, H1, rfl, I1.kept (t' := s1.toks) fun b o e => Heap.get?_push_of_some _ e, turn_list a _, ⟨_, Heap.get?_push_size _ rfl, rfl, rfl⟩, fun b hb => ?_, q⟩
    have e : b = s1.heap.objs.size := by simpa using hb
    subst e
    exact I1.fpOk (Nat.le_refl _) (I1.hok.fresh (Nat.le_refl _))
  · subst e
    cases r1
    obtain ⟨its, rv, p, hz⟩ := I1.tuple hq
    refine wpAny_pyIter_tuple (show s1.heap.IsTuple a its.toArray from p) ?_
    refine ⟨s1.heap.objs.size, [s1.heap.objs.size], _, _, H1, rfl, I1.kept (t' := s1.toks) fun b o e => Heap.get?_push_of_some _ e, turn_tuple a _, ⟨_, Heap.get?_push_size _ rfl, rfl, rfl⟩, fun b hb => ?_, q⟩
    have e : b = s1.heap.objs.size := by simpa using hb
    subst e
    exact I1.fpOk (Nat.le_refl _) (I1.hok.fresh (Nat.le_refl _))
  · subst e
    obtain ⟨t, rfl⟩ := r1
    cases ha : z.cps.all (· < 128)
    · exact wpAny_pyIter_wide ha (pi_one (tk := s1.toks) I1 _ (turn_str _ z t "str_iterator" (.inr rfl)) ⟨_, Heap.get?_push_size _ rfl, rfl, rfl⟩ q)
    · exact wpAny_pyIter_ascii ha (pi_one (tk := s1.toks) I1 _ (turn_str _ z t "str_ascii_iterator" (.inl rfl)) ⟨_, Heap.get?_push_size _ rfl, rfl, rfl⟩ q)

/-! ### zip -/
theorem isB_seq {h : Heap} {k : Bool} {a : Addr} {its : Array Value} (p : isB h k a its) : ∃ o n, h.get? a = some o ∧ (o.cls = .type "list" ∨ o.cls = .type "tuple") ∧ o.data = .seq its n := by
  cases k with
  | false =>
    obtain ⟨o, ho, hc, n, hd⟩ := p
    exact ⟨o, n, ho, .inl hc, hd⟩
  | true =>
    obtain ⟨o, ho, hc, n, hd⟩ := p
    exact ⟨o, n, ho, .inr hc, hd⟩
theorem isB_at {h h' : Heap} {k : Bool} {a : Addr} {its : Array Value} (p : isB h k a its) (q : ∀ o, h.get? a = some o → h'.get? a = some o) : isB h' k a its := by
  cases k with
  | false =>
    obtain ⟨o, ho, r⟩ := p
    exact ⟨o, q o ho, r⟩
  | true =>
    obtain ⟨o, ho, r⟩ := p
    exact ⟨o, q o ho, r⟩
def ItZ2 (K : PySem.W.Frag) (k1 k2 : Bool) (a b : Addr) : It :=
  ⟨fun i H => ∃ (xs1 xs2 : List V) (x1 x2 : V), SqB K H k1 a xs1 ∧ SqB K H k2 b xs2 ∧ xs1[i]? = some x1 ∧ xs2[i]? = some x2,
    fun i H v H' => ∃ T x1 x2, v = .ref T ∧ H T = none ∧ H' = upd H T (.tup [x1, x2]) ∧ (∀ xs, SqB K H k1 a xs → xs[i]? = some x1) ∧ (∀ xs, SqB K H k2 b xs → xs[i]? = some x2),
    fun i H => ∃ xs1 xs2 : List V, SqB K H k1 a xs1 ∧ SqB K H k2 b xs2 ∧ i ≤ xs1.length ∧ i ≤ xs2.length ∧ (i = xs1.length ∨ i = xs2.length)⟩
theorem turn_zipB2 {P : Program} {w : World} {K : PySem.W.Frag} {elts : List Expr} {kk : Nat} {tpos : Pos} {k1 k2 : Bool} {a b z TI TO i1 i2 : Addr} (D : ZipSep2 z TI TO i1 i2 [i1, a] [i2, b]) (n1 : a ≠ i1) (n2 : b ≠ i2) :
    Turn P w K (.Tuple elts kk tpos) (ItZ2 K k1 k2 a b) [z, TI, TO, i1, i2] z (fun i h => IsZip h z TI TO .none ∧ IsTupOf2 h TI (.ref i1) (.ref i2) ∧ (∃ x1 x2, IsTupOf2 h TO x1 x2) ∧ itB h k1 i1 a i ∧ itB h k2 i2 b i) where
  mem := by simp
  obj := fun i h st c hc => by
    obtain ⟨hz, hTI, ⟨x1, x2, hTO⟩, h1, h2⟩ := st
    have e' : c = z ∨ c = TI ∨ c = TO ∨ c = i1 ∨ c = i2 := by simpa using hc
    rcases e' with q | q | q | q | q
    · rw [q]; exact ⟨_, hz, fun v q => nomatch q⟩
    · rw [q]; exact ⟨_, hTI, fun v q => nomatch q⟩
    · rw [q]; exact ⟨_, hTO, fun v q => nomatch q⟩
    · rw [q]; exact itB_obj h1
    · rw [q]; exact itB_obj h2
  keep := fun i h h' st k => by
    obtain ⟨hz, hTI, ⟨x1, x2, hTO⟩, h1, h2⟩ := st
    exact ⟨k z (by simp) _ hz, k TI (by simp) _ hTI, ⟨x1, x2, k TO (by simp) _ hTO⟩, itB_at h1 fun o q => k i1 (by simp) o q, itB_at h2 fun o q => k i2 (by simp) o q⟩
  item := by
    intro X hP hw hK hc i pins s σ H E I hf st hg
    subst hP hw hK
    obtain ⟨hz, hTI, ⟨y1, y2, hTO⟩, h1, h2⟩ := st
    have hh : X.A.in1.handled = none := I.ok.hd hc
    obtain ⟨xs1, xs2, x1, x2, hq1, hq2, hx1, hx2⟩ := hg
    obtain ⟨its1, rv1, p1⟩ := seqB I hq1
    obtain ⟨its2, rv2, p2⟩ := seqB I hq2
    have l1 : i < its1.toArray.size := by
      have h1 := (List.getElem?_eq_some_iff.mp hx1).1
      have h2 := rv1.length
      simp
      omega
    have l2 : i < its2.toArray.size := by
      have h1 := (List.getElem?_eq_some_iff.mp hx2).1
      have h2 := rv2.length
      simp
      omega
    have hzl : z < s.heap.objs.size := Heap.lt_size hz
    refine wpAny_pyNext_zipD2_item D (drawB (A := X.A.in1) hh k1 i1 a n1 its1.toArray) (drawB (A := X.A.in1) hh k2 i2 b n2 its2.toArray) hz hTI hTO ⟨h1, p1⟩ ⟨h2, p2⟩ l1 l2 fun u1 u2 h' tk hu1 hu2 z' TO' st1 st2 hT hsz hk => ?_
    refine ⟨_, rfl, wpAny_letOwnedTupleGo_zip (s := { s with heap := h', toks := tk }) z' fun h'' z'' sb => ?_⟩
    obtain ⟨ru1⟩ : RelV x1 u1 ∧ True := by
      obtain ⟨w', hw', rw'⟩ := rv1.get hx1
      have e1 : its1[i]? = some u1 := by simpa using hu1
      rw [e1] at hw'
      cases hw'
      exact ⟨rw', trivial⟩
    obtain ⟨ru2⟩ : RelV x2 u2 ∧ True := by
      obtain ⟨w', hw', rw'⟩ := rv2.get hx2
      have e1 : its2[i]? = some u2 := by simpa using hu2
      rw [e1] at hw'
      cases hw'
      exact ⟨rw', trivial⟩
    have hT2 : h''.get? s.heap.objs.size = some { cls := .type "tuple", data := .seq #[u1, u2] } := (sb.2 _ (Nat.ne_of_gt hzl)).trans hT
    have new : ObjOk X.prog X.w (upd H s.heap.objs.size (.tup [x1, x2])) h'' s.heap.objs.size (.tup [x1, x2]) :=
      ⟨by show 2 ≤ sizeLine; decide, [u1, u2], .cons ru1 (.cons ru2 .nil), ⟨_, hT2, rfl, _, rfl⟩⟩
    have I1 : Inv X pins σ (upd H s.heap.objs.size (.tup [x1, x2])) { s with heap := h'', toks := tk } :=
      I.turnedNew (t' := tk) (ch := [z, TI, TO, i1, i2]) (fun c o hb q => (sb.2 c (fun q' => hb (by simp [q']))).trans (hk c o (fun q' => hb (by simp [q'])) (fun q' => hb (by simp [q'])) (fun q' => hb (by simp [q'])) (fun q' => hb (by simp [q'])) q)) hf (Nat.le_refl _) new
    refine ⟨.ref s.heap.objs.size, _, I1, rfl, ⟨_, x1, x2, rfl, I.hok.fresh (Nat.le_refl _), rfl, fun l hl => by rw [seqB_inj I hl hq1]; exact hx1, fun l hl => by rw [seqB_inj I hl hq2]; exact hx2⟩, ⟨z'', ?_, ⟨u1, u2, ?_⟩, ?_, ?_⟩, fun c hcm => ?_⟩
    · exact (sb.2 _ D.TIz).trans (hk _ _ D.TIz D.TITO D.TIi1 D.TIi2 hTI)
    · exact (sb.2 _ D.TOz).trans TO'
    · exact itB_at st1.1 fun o q => (sb.2 _ (Ne.symm D.zi1)).trans q
    · exact itB_at st2.1 fun o q => (sb.2 _ (Ne.symm D.zi2)).trans q
    · have hlt : c < s.heap.objs.size := by
        have e' : c = z ∨ c = TI ∨ c = TO ∨ c = i1 ∨ c = i2 := by simpa using hcm
        rcases e' with q | q | q | q | q
        · rw [q]; exact hzl
        · rw [q]; exact Heap.lt_size hTI
        · rw [q]; exact Heap.lt_size hTO
        · rw [q]; obtain ⟨_, e1, _⟩ := itB_obj h1; exact Heap.lt_size e1
        · rw [q]; obtain ⟨_, e1, _⟩ := itB_obj h2; exact Heap.lt_size e1
      rw [upd_ne (Nat.ne_of_lt hlt)]
      exact (hf c hcm).1
  done := by
    intro X hP hw hK hc i pins s σ H E I hf st hg
    subst hP hw hK
    obtain ⟨hz, hTI, ⟨y1, y2, hTO⟩, h1, h2⟩ := st
    have hh : X.A.in1.handled = none := I.ok.hd hc
    obtain ⟨xs1, xs2, hq1, hq2, hl1, hl2, hend⟩ := hg
    obtain ⟨its1, rv1, p1⟩ := seqB I hq1
    have e1 : its1.toArray.size = xs1.length := by
      have h2 := rv1.length
      simp
      omega
    obtain ⟨its2, rv2, p2⟩ := seqB I hq2
    have e2 : its2.toArray.size = xs2.length := by
      have h2 := rv2.length
      simp
      omega
    exact wpAny_pyNext_zipD2_end D (drawB (A := X.A.in1) hh k1 i1 a n1 its1.toArray) (drawB (A := X.A.in1) hh k2 i2 b n2 its2.toArray) hz hTI hTO ⟨h1, p1⟩ ⟨h2, p2⟩ (by rw [e1]; exact hl1) (by rw [e2]; exact hl2) (by rw [e1, e2]; exact hend) fun h' tk hk => ⟨rfl, I.turnedL (t' := tk) (ch := [z, TI, TO, i1, i2]) (fun c o hb q => hk c o (fun q' => hb (by simp [q'])) (fun q' => hb (by simp [q'])) (fun q' => hb (by simp [q'])) (fun q' => hb (by simp [q'])) q) hf⟩
  self := fun A i s Q E st h => wpAny_pyIter_zip st.1 h
def iZipB2 (K : PySem.W.Frag) (ta : TA) : TI := fun σ H R => ta σ H fun vs H1 => ∃ k1 k2 a b xs1 xs2, vs = [.ref a, .ref b] ∧ SqB K H1 k1 a xs1 ∧ SqB K H1 k2 b xs2 ∧ R (ItZ2 K k1 k2 a b) H1
theorem pi_zipB2 {X : Cx} {e e2 : Expr} {ta : TA} {p pos tpos : Pos} {elts : List Expr} {kk : Nat} (hg : Gl X "zip") (hm : X.mg "zip" = none) (ha : PA X [e, e2] ta)
    (hs : starEach [e, e2] X.env = (false, eval e X.env) :: starEach [e2] X.env) (hpl : (backTo pos (starEach [e2] X.env)).any (·.1) = false) :
    PI X (.Tuple elts kk tpos) (.Call (.Name "zip" p) [e, e2] [] pos) (iZipB2 X.K ta) := by
  refine ⟨fun pins s σ H R I h => ?_⟩
  refine Call_ (ld_blt I hg hm PyProof.Rows.boot_zip (PyProof.Rows.callWith_type1 (thn (ha.run pos pins s σ H _ I h) fun us s1 ⟨vs, H1, I1, r1, q1⟩ => ?_) hs hpl))
  obtain ⟨k1, k2, a, b, xs1, xs2, ex, hq1, hq2, q⟩ := q1
  subst ex
  cases r1 with
  | cons r1 rr =>
    cases rr with
    | cons r2 rr =>
      cases rr
      cases r1
      cases r2
      obtain ⟨its1, rv1, p1⟩ := seqB I1 hq1
      have lt1 : a < s1.heap.objs.size := by obtain ⟨o, n, ho, _⟩ := isB_seq p1; exact Heap.lt_size ho
      obtain ⟨its2, rv2, p2⟩ := seqB I1 hq2
      have lt2 : b < s1.heap.objs.size := by obtain ⟨o, n, ho, _⟩ := isB_seq p2; exact Heap.lt_size ho
      have freshN : ∀ c, c ∈ [s1.heap.objs.size + 4, s1.heap.objs.size + 2, s1.heap.objs.size + 3, s1.heap.objs.size, s1.heap.objs.size + 1] → FpOk X pins H1 c := fun c hcm => by
        have e' : c = s1.heap.objs.size + 4 ∨ c = s1.heap.objs.size + 2 ∨ c = s1.heap.objs.size + 3 ∨ c = s1.heap.objs.size ∨ c = s1.heap.objs.size + 1 := by simpa using hcm
        have hle : s1.heap.objs.size ≤ c := by
          rcases e' with z | z | z | z | z
          · rw [z]; exact Nat.le_add_right _ _
          · rw [z]; exact Nat.le_add_right _ _
          · rw [z]; exact Nat.le_add_right _ _
          · rw [z]; exact Nat.le_refl _
          · rw [z]; exact Nat.le_add_right _ _
        exact I1.fpOk hle (I1.hok.fresh hle)
      refine zip_begins2 (beginB k1 a its1.toArray) (beginB k2 b its2.toArray) p1 p2 fun h' hz hTI hTO h1 h2 hsz hk => wpAny_pyIter_zip hz ?_
      have I2 : Inv X pins σ H1 { s1 with heap := h' } := I1.kept (t' := s1.toks) hk
      have b1 : ∀ b0 ∈ [a], b0 < s1.heap.objs.size := fun b0 hb => by
        have e : b0 = a := by simpa using hb
        rw [e]; exact lt1
      have b2 : ∀ b0 ∈ [b], b0 < s1.heap.objs.size := fun b0 hb => by
        have e : b0 = b := by simpa using hb
        rw [e]; exact lt2
      exact ⟨s1.heap.objs.size + 4, [s1.heap.objs.size + 4, s1.heap.objs.size + 2, s1.heap.objs.size + 3, s1.heap.objs.size, s1.heap.objs.size + 1], _, _, H1, rfl, I2, turn_zipB2 (zip_sep2 b1 b2) (Nat.ne_of_lt lt1) (Nat.ne_of_lt (Nat.lt_of_lt_of_le lt2 (Nat.le_add_right _ _))), ⟨hz, hTI, ⟨_, _, hTO⟩, itB_new h1, itB_new h2⟩, freshN, q⟩
def ItZ3 (K : PySem.W.Frag) (k1 k2 k3 : Bool) (a b c : Addr) : It :=
  ⟨fun i H => ∃ (xs1 xs2 xs3 : List V) (x1 x2 x3 : V), SqB K H k1 a xs1 ∧ SqB K H k2 b xs2 ∧ SqB K H k3 c xs3 ∧ xs1[i]? = some x1 ∧ xs2[i]? = some x2 ∧ xs3[i]? = some x3,
    fun i H v H' => ∃ T x1 x2 x3, v = .ref T ∧ H T = none ∧ H' = upd H T (.tup [x1, x2, x3]) ∧ (∀ xs, SqB K H k1 a xs → xs[i]? = some x1) ∧ (∀ xs, SqB K H k2 b xs → xs[i]? = some x2) ∧ (∀ xs, SqB K H k3 c xs → xs[i]? = some x3),
    fun i H => ∃ xs1 xs2 xs3 : List V, SqB K H k1 a xs1 ∧ SqB K H k2 b xs2 ∧ SqB K H k3 c xs3 ∧ i ≤ xs1.length ∧ i ≤ xs2.length ∧ i ≤ xs3.length ∧ (i = xs1.length ∨ i = xs2.length ∨ i = xs3.length)⟩
theorem turn_zipB3 {P : Program} {w : World} {K : PySem.W.Frag} {elts : List Expr} {kk : Nat} {tpos : Pos} {k1 k2 k3 : Bool} {a b c z TI TO i1 i2 i3 : Addr} (D : ZipSep3 z TI TO i1 i2 i3 [i1, a] [i2, b] [i3, c]) (n1 : a ≠ i1) (n2 : b ≠ i2) (n3 : c ≠ i3) :
    Turn P w K (.Tuple elts kk tpos) (ItZ3 K k1 k2 k3 a b c) [z, TI, TO, i1, i2, i3] z (fun i h => IsZip h z TI TO .none ∧ IsTupOf3 h TI (.ref i1) (.ref i2) (.ref i3) ∧ (∃ x1 x2 x3, IsTupOf3 h TO x1 x2 x3) ∧ itB h k1 i1 a i ∧ itB h k2 i2 b i ∧ itB h k3 i3 c i) where
  mem := by simp
  obj := fun i h st c hc => by
    obtain ⟨hz, hTI, ⟨x1, x2, x3, hTO⟩, h1, h2, h3⟩ := st
    have e' : c = z ∨ c = TI ∨ c = TO ∨ c = i1 ∨ c = i2 ∨ c = i3 := by simpa using hc
    rcases e' with q | q | q | q | q | q
    · rw [q]; exact ⟨_, hz, fun v q => nomatch q⟩
    · rw [q]; exact ⟨_, hTI, fun v q => nomatch q⟩
    · rw [q]; exact ⟨_, hTO, fun v q => nomatch q⟩
    · rw [q]; exact itB_obj h1
    · rw [q]; exact itB_obj h2
    · rw [q]; exact itB_obj h3
  keep := fun i h h' st k => by
    obtain ⟨hz, hTI, ⟨x1, x2, x3, hTO⟩, h1, h2, h3⟩ := st
    exact ⟨k z (by simp) _ hz, k TI (by simp) _ hTI, ⟨x1, x2, x3, k TO (by simp) _ hTO⟩, itB_at h1 fun o q => k i1 (by simp) o q, itB_at h2 fun o q => k i2 (by simp) o q, itB_at h3 fun o q => k i3 (by simp) o q⟩
  item := by
    intro X hP hw hK hc i pins s σ H E I hf st hg
    subst hP hw hK
    obtain ⟨hz, hTI, ⟨y1, y2, y3, hTO⟩, h1, h2, h3⟩ := st
    have hh : X.A.in1.handled = none := I.ok.hd hc
    obtain ⟨xs1, xs2, xs3, x1, x2, x3, hq1, hq2, hq3, hx1, hx2, hx3⟩ := hg
    obtain ⟨its1, rv1, p1⟩ := seqB I hq1
    obtain ⟨its2, rv2, p2⟩ := seqB I hq2
    obtain ⟨its3, rv3, p3⟩ := seqB I hq3
    have l1 : i < its1.toArray.size := by
      have h1 := (List.getElem?_eq_some_iff.mp hx1).1
      have h2 := rv1.length
      simp
      omega
    have l2 : i < its2.toArray.size := by
      have h1 := (List.getElem?_eq_some_iff.mp hx2).1
      have h2 := rv2.length
      simp
      omega
    have l3 : i < its3.toArray.size := by
      have h1 := (List.getElem?_eq_some_iff.mp hx3).1
      have h2 := rv3.length
      simp
      omega
    have hzl : z < s.heap.objs.size := Heap.lt_size hz
    refine wpAny_pyNext_zipD3_item D (drawB (A := X.A.in1) hh k1 i1 a n1 its1.toArray) (drawB (A := X.A.in1) hh k2 i2 b n2 its2.toArray) (drawB (A := X.A.in1) hh k3 i3 c n3 its3.toArray) hz hTI hTO ⟨h1, p1⟩ ⟨h2, p2⟩ ⟨h3, p3⟩ l1 l2 l3 fun u1 u2 u3 h' tk hu1 hu2 hu3 z' TO' st1 st2 st3 hT hsz hk => ?_
    refine ⟨_, rfl, wpAny_letOwnedTupleGo_zip (s := { s with heap := h', toks := tk }) z' fun h'' z'' sb => ?_⟩
    obtain ⟨ru1⟩ : RelV x1 u1 ∧ True := by
      obtain ⟨w', hw', rw'⟩ := rv1.get hx1
      have e1 : its1[i]? = some u1 := by simpa using hu1
      rw [e1] at hw'
      cases hw'
      exact ⟨rw', trivial⟩
    obtain ⟨ru2⟩ : RelV x2 u2 ∧ True := by
      obtain ⟨w', hw', rw'⟩ := rv2.get hx2
      have e1 : its2[i]? = some u2 := by simpa using hu2
      rw [e1] at hw'
      cases hw'
      exact ⟨rw', trivial⟩
    obtain ⟨ru3⟩ : RelV x3 u3 ∧ True := by
      obtain ⟨w', hw', rw'⟩ := rv3.get hx3
      have e1 : its3[i]? = some u3 := by simpa using hu3
      rw [e1] at hw'
      cases hw'
      exact ⟨rw', trivial⟩
    have hT2 : h''.get? s.heap.objs.size = some { cls := .type "tuple", data := .seq #[u1, u2, u3] } := (sb.2 _ (Nat.ne_of_gt hzl)).trans hT
    have new : ObjOk X.prog X.w (upd H s.heap.objs.size (.tup [x1, x2, x3])) h'' s.heap.objs.size (.tup [x1, x2, x3]) :=
      ⟨by show 3 ≤ sizeLine; decide, [u1, u2, u3], .cons ru1 (.cons ru2 (.cons ru3 .nil)), ⟨_, hT2, rfl, _, rfl⟩⟩
    have I1 : Inv X pins σ (upd H s.heap.objs.size (.tup [x1, x2, x3])) { s with heap := h'', toks := tk } :=
      I.turnedNew (t' := tk) (ch := [z, TI, TO, i1, i2, i3]) (fun c o hb q => (sb.2 c (fun q' => hb (by simp [q']))).trans (hk c o (fun q' => hb (by simp [q'])) (fun q' => hb (by simp [q'])) (fun q' => hb (by simp [q'])) (fun q' => hb (by simp [q'])) (fun q' => hb (by simp [q'])) q)) hf (Nat.le_refl _) new
    refine ⟨.ref s.heap.objs.size, _, I1, rfl, ⟨_, x1, x2, x3, rfl, I.hok.fresh (Nat.le_refl _), rfl, fun l hl => by rw [seqB_inj I hl hq1]; exact hx1, fun l hl => by rw [seqB_inj I hl hq2]; exact hx2, fun l hl => by rw [seqB_inj I hl hq3]; exact hx3⟩, ⟨z'', ?_, ⟨u1, u2, u3, ?_⟩, ?_, ?_, ?_⟩, fun c hcm => ?_⟩
    · exact (sb.2 _ D.TIz).trans (hk _ _ D.TIz D.TITO D.TIi1 D.TIi2 D.TIi3 hTI)
    · exact (sb.2 _ D.TOz).trans TO'
    · exact itB_at st1.1 fun o q => (sb.2 _ (Ne.symm D.zi1)).trans q
    · exact itB_at st2.1 fun o q => (sb.2 _ (Ne.symm D.zi2)).trans q
    · exact itB_at st3.1 fun o q => (sb.2 _ (Ne.symm D.zi3)).trans q
    · have hlt : c < s.heap.objs.size := by
        have e' : c = z ∨ c = TI ∨ c = TO ∨ c = i1 ∨ c = i2 ∨ c = i3 := by simpa using hcm
        rcases e' with q | q | q | q | q | q
        · rw [q]; exact hzl
        · rw [q]; exact Heap.lt_size hTI
        · rw [q]; exact Heap.lt_size hTO
        · rw [q]; obtain ⟨_, e1, _⟩ := itB_obj h1; exact Heap.lt_size e1
        · rw [q]; obtain ⟨_, e1, _⟩ := itB_obj h2; exact Heap.lt_size e1
        · rw [q]; obtain ⟨_, e1, _⟩ := itB_obj h3; exact Heap.lt_size e1
      rw [upd_ne (Nat.ne_of_lt hlt)]
      exact (hf c hcm).1
  done := by
    intro X hP hw hK hc i pins s σ H E I hf st hg
    subst hP hw hK
    obtain ⟨hz, hTI, ⟨y1, y2, y3, hTO⟩, h1, h2, h3⟩ := st
    have hh : X.A.in1.handled = none := I.ok.hd hc
    obtain ⟨xs1, xs2, xs3, hq1, hq2, hq3, hl1, hl2, hl3, hend⟩ := hg
    obtain ⟨its1, rv1, p1⟩ := seqB I hq1
    have e1 : its1.toArray.size = xs1.length := by
      have h2 := rv1.length
      simp
      omega
    obtain ⟨its2, rv2, p2⟩ := seqB I hq2
    have e2 : its2.toArray.size = xs2.length := by
      have h2 := rv2.length
      simp
      omega
    obtain ⟨its3, rv3, p3⟩ := seqB I hq3
    have e3 : its3.toArray.size = xs3.length := by
      have h2 := rv3.length
      simp
      omega
    exact wpAny_pyNext_zipD3_end D (drawB (A := X.A.in1) hh k1 i1 a n1 its1.toArray) (drawB (A := X.A.in1) hh k2 i2 b n2 its2.toArray) (drawB (A := X.A.in1) hh k3 i3 c n3 its3.toArray) hz hTI hTO ⟨h1, p1⟩ ⟨h2, p2⟩ ⟨h3, p3⟩ (by rw [e1]; exact hl1) (by rw [e2]; exact hl2) (by rw [e3]; exact hl3) (by rw [e1, e2, e3]; exact hend) fun h' tk hk => ⟨rfl, I.turnedL (t' := tk) (ch := [z, TI, TO, i1, i2, i3]) (fun c o hb q => hk c o (fun q' => hb (by simp [q'])) (fun q' => hb (by simp [q'])) (fun q' => hb (by simp [q'])) (fun q' => hb (by simp [q'])) (fun q' => hb (by simp [q'])) q) hf⟩
  self := fun A i s Q E st h => wpAny_pyIter_zip st.1 h
def iZipB3 (K : PySem.W.Frag) (ta : TA) : TI := fun σ H R => ta σ H fun vs H1 => ∃ k1 k2 k3 a b c xs1 xs2 xs3, vs = [.ref a, .ref b, .ref c] ∧ SqB K H1 k1 a xs1 ∧ SqB K H1 k2 b xs2 ∧ SqB K H1 k3 c xs3 ∧ R (ItZ3 K k1 k2 k3 a b c) H1
theorem pi_zipB3 {X : Cx} {e e2 e3 : Expr} {ta : TA} {p pos tpos : Pos} {elts : List Expr} {kk : Nat} (hg : Gl X "zip") (hm : X.mg "zip" = none) (ha : PA X [e, e2, e3] ta)
    (hs : starEach [e, e2, e3] X.env = (false, eval e X.env) :: starEach [e2, e3] X.env) (hpl : (backTo pos (starEach [e2, e3] X.env)).any (·.1) = false) :
    PI X (.Tuple elts kk tpos) (.Call (.Name "zip" p) [e, e2, e3] [] pos) (iZipB3 X.K ta) := by
  refine ⟨fun pins s σ H R I h => ?_⟩
  refine Call_ (ld_blt I hg hm PyProof.Rows.boot_zip (PyProof.Rows.callWith_type1 (thn (ha.run pos pins s σ H _ I h) fun us s1 ⟨vs, H1, I1, r1, q1⟩ => ?_) hs hpl))
  obtain ⟨k1, k2, k3, a, b, c, xs1, xs2, xs3, ex, hq1, hq2, hq3, q⟩ := q1
  subst ex
  cases r1 with
  | cons r1 rr =>
    cases rr with
    | cons r2 rr =>
      cases rr with
      | cons r3 rr =>
        cases rr
        cases r1
        cases r2
        cases r3
        obtain ⟨its1, rv1, p1⟩ := seqB I1 hq1
        have lt1 : a < s1.heap.objs.size := by obtain ⟨o, n, ho, _⟩ := isB_seq p1; exact Heap.lt_size ho
        obtain ⟨its2, rv2, p2⟩ := seqB I1 hq2
        have lt2 : b < s1.heap.objs.size := by obtain ⟨o, n, ho, _⟩ := isB_seq p2; exact Heap.lt_size ho
        obtain ⟨its3, rv3, p3⟩ := seqB I1 hq3
        have lt3 : c < s1.heap.objs.size := by obtain ⟨o, n, ho, _⟩ := isB_seq p3; exact Heap.lt_size ho
        have freshN : ∀ c, c ∈ [s1.heap.objs.size + 5, s1.heap.objs.size + 3, s1.heap.objs.size + 4, s1.heap.objs.size, s1.heap.objs.size + 1, s1.heap.objs.size + 2] → FpOk X pins H1 c := fun c hcm => by
          have e' : c = s1.heap.objs.size + 5 ∨ c = s1.heap.objs.size + 3 ∨ c = s1.heap.objs.size + 4 ∨ c = s1.heap.objs.size ∨ c = s1.heap.objs.size + 1 ∨ c = s1.heap.objs.size + 2 := by simpa using hcm
          have hle : s1.heap.objs.size ≤ c := by
            rcases e' with z | z | z | z | z | z
            · rw [z]; exact Nat.le_add_right _ _
            · rw [z]; exact Nat.le_add_right _ _
            · rw [z]; exact Nat.le_add_right _ _
            · rw [z]; exact Nat.le_refl _
            · rw [z]; exact Nat.le_add_right _ _
            · rw [z]; exact Nat.le_add_right _ _
          exact I1.fpOk hle (I1.hok.fresh hle)
        refine zip_begins3 (beginB k1 a its1.toArray) (beginB k2 b its2.toArray) (beginB k3 c its3.toArray) p1 p2 p3 fun h' hz hTI hTO h1 h2 h3 hsz hk => wpAny_pyIter_zip hz ?_
        have I2 : Inv X pins σ H1 { s1 with heap := h' } := I1.kept (t' := s1.toks) hk
        have b1 : ∀ b0 ∈ [a], b0 < s1.heap.objs.size := fun b0 hb => by
          have e : b0 = a := by simpa using hb
          rw [e]; exact lt1
        have b2 : ∀ b0 ∈ [b], b0 < s1.heap.objs.size := fun b0 hb => by
          have e : b0 = b := by simpa using hb
          rw [e]; exact lt2
        have b3 : ∀ b0 ∈ [c], b0 < s1.heap.objs.size := fun b0 hb => by
          have e : b0 = c := by simpa using hb
          rw [e]; exact lt3
        exact ⟨s1.heap.objs.size + 5, [s1.heap.objs.size + 5, s1.heap.objs.size + 3, s1.heap.objs.size + 4, s1.heap.objs.size, s1.heap.objs.size + 1, s1.heap.objs.size + 2], _, _, H1, rfl, I2, turn_zipB3 (zip_sep3 b1 b2 b3) (Nat.ne_of_lt lt1) (Nat.ne_of_lt (Nat.lt_of_lt_of_le lt2 (Nat.le_add_right _ _))) (Nat.ne_of_lt (Nat.lt_of_lt_of_le lt3 (Nat.le_add_right _ _))), ⟨hz, hTI, ⟨_, _, _, hTO⟩, itB_new h1, itB_new h2, itB_new h3⟩, freshN, q⟩
end LR

set_option Elab.async false
set_option linter.all false
set_option maxRecDepth 100000
set_option maxHeartbeats 2000000
/-! Statements, by value. -/
namespace LR
open PySem L2

inductive SRes where
  | fail
  | next (e : Env)
  | ret (o : O) (e : Env)
  | brk (e : Env)
  | cont (e : Env)
  | exc (c : Str) (e : Env)
abbrev SM := Env → SRes
def Res.stm {α : Type} (r : Res α) (f : α → Env → SRes) : SRes := match r with
  | .fail => .fail
  | .ok a e => f a e
  | .exc c e => .exc c e
@[simp] theorem stm_ok {α : Type} {a : α} {e : Env} {f : α → Env → SRes} : (Res.ok a e).stm f = f a e := rfl
@[simp] theorem stm_exc {α : Type} {a : Str} {e : Env} {f : α → Env → SRes} : (Res.exc a e).stm f = .exc a e := rfl
def SRes.andThen (r : SRes) (f : SM) : SRes := match r with
  | .next e => f e
  | r => r
@[simp] theorem then_next {e : Env} {f : SM} : (SRes.next e).andThen f = f e := rfl
@[simp] theorem then_ret {e : Env} {o : O} {f : SM} : (SRes.ret o e).andThen f = .ret o e := rfl
@[simp] theorem then_exc {e : Env} {o : Str} {f : SM} : (SRes.exc o e).andThen f = .exc o e := rfl
@[simp] theorem then_brk {e : Env} {f : SM} : (SRes.brk e).andThen f = .brk e := rfl
@[simp] theorem then_cont {e : Env} {f : SM} : (SRes.cont e).andThen f = .cont e := rfl
def sPass : SM := fun e => .next e
def sSeq : List SM → SM
  | [] => fun e => .next e
  | x :: r => fun e => (x e).andThen (sSeq r)
def sExpr (x : M O) : SM := fun e => (x e).stm fun _ e1 => .next e1
def sRet (x : M O) : SM := fun e => (x e).stm fun o e1 => .ret o e1
def sRetN : SM := fun e => .ret (.frz .non) e
/-- a name's thing is given away -/
def xMove (P : List Nat) (i : Nat) : M O := fun e => if P.contains i then xVar i e else match e.at i with
  | some o => .ok o (e.set i none)
  | none => .fail
def sIf (t : M Bool) (a b : SM) : SM := fun e => (t e).stm fun k e1 => if k then a e1 else b e1
def sBrk : SM := fun e => .brk e
def sCont : SM := fun e => .cont e
def sRaise (c : Str) : SM := fun e => .exc c e
def put1 (i : Nat) (o : O) (e : Env) : Option Env := if i < e.length then some (e.set i (some o)) else none
inductive Tg where
  | name (i : Nat)
  | tup (is : List Nat)
def Tg.slots : Tg → List Nat
  | .name i => [i]
  | .tup is => is
def putL : List Nat → List D → Env → Option Env
  | [], [], e => some e
  | i :: is, d :: ds, e => (put1 i (.frz d) e).bind (putL is ds)
  | _, _, _ => none
def Tg.put (t : Tg) (d : D) (e : Env) : Option Env := match t, d with
  | .name i, d => put1 i (.frz d) e
  | .tup is, .tup ds => putL is ds e
  | _, _ => none
def goOn (o : Option Env) : SRes := match o with
  | some e => .next e
  | none => .fail
@[simp] theorem goOn_some {e : Env} : goOn (some e) = .next e := rfl
/-- no pinned name is stored -/
def okP (P is : List Nat) : Bool := is.all fun i => !P.contains i
def sSet (P : List Nat) (i : Nat) (x : M O) : SM := fun e => (x e).stm fun o e1 => if okP P [i] then goOn (put1 i o e1) else .fail
def sAsg (P : List Nat) (t : Tg) (x : M O) : SM := fun e => (toV x e).stm fun d e1 => if okP P t.slots then goOn (t.put d e1) else .fail
def putO : List Nat → List O → Env → Option Env
  | [], [], e => some e
  | i :: is, o :: os, e => (put1 i o e).bind (putO is os)
  | _, _, _ => none
def sPar (P : List Nat) (is : List Nat) (xs : List (M O)) : SM := fun e => (allM xs e).stm fun os e1 => if okP P is then goOn (putO is os e1) else .fail
/-- o[k] = x, o a name's own list or dict -/
def putK {κ α : Type} [DecidableEq κ] (kvs : List (κ × α)) (k : κ) (v : α) : List (κ × α) :=
  if (kvs.any fun kv => decide (kv.1 = k)) then kvs.map (fun kv => if kv.1 = k then (kv.1, v) else kv) else kvs ++ [(k, v)]
def setD (k d : D) : O → Option O
  | .lst ds => match k with
    | .int i => (L2.ixN ds.length i).map fun n => .lst (ds.set n d)
    | _ => none
  | .dK kvs => (dKey k).bind fun k => if small kvs.length then some (.dK (LR.putK kvs k d)) else none
  | _ => none
def sSub (j : Nat) (k x : M O) : SM := fun e => (toV x e).stm fun d e1 => match e1.at j with
  | none => .fail
  | some _ => (toV k e1).stm fun kd e2 => match (e2.at j).bind (setD kd d) with
    | some o => .next (e2.set j (some o))
    | none => .fail
/-- methods of a name's own list -/
def isOwn (e : Env) (j : Nat) : Bool := match e.at j with
  | some (.lst _) => true
  | _ => false
def ownL (e : Env) (j : Nat) : Option (List D) := match e.at j with
  | some (.lst ds) => some ds
  | _ => none
inductive Mth where
  | append | extend | insert | pop
def mRun : Mth → List D → List D → Option (List D × D)
  | .append, ds, [d] => if small ds.length then some (ds ++ [d], .non) else none
  | .extend, ds, [.lst es] => if small (ds.length + es.length) then some (ds ++ es, .non) else none
  | .insert, ds, [.int i, d] => if small ds.length ∧ 0 ≤ i ∧ i < 100000 then some (ds.take i.toNat ++ [d] ++ ds.drop i.toNat, .non) else none
  | .pop, ds, [.int i] => if -100000 ≤ i ∧ i < 100000 then (seqIndex? i ds.length).bind fun k => (ds[k]?).map fun y => (ds.eraseIdx k, y) else none
  | _, _, _ => none
def xMth (m : Mth) (j : Nat) (xs : List (M D)) : M O := fun e => if isOwn e j then (allM xs e).bind fun ds e1 => match (ownL e1 j).bind fun l => mRun m l ds with
    | some r => .ok (.frz r.2) (e1.set j (some (.lst r.1)))
    | none => .fail
  else .fail

/-! ### loops -/
def loopS (tg : Tg) (body : SM) : List D → SM
  | [], e => .next e
  | d :: ds, e => match tg.put d e with
    | none => .fail
    | some e1 => match body e1 with
      | .next e2 => loopS tg body ds e2
      | .cont e2 => loopS tg body ds e2
      | .brk e2 => .next e2
      | r => r
def sFor (P : List Nat) (tg : Tg) (src : M (List D)) (body : SM) : SM := fun e => (src e).stm fun ds e1 => if okP P tg.slots then loopS tg body ds e1 else .fail
/-- so many turns -/
def runW (t : M Bool) (body : SM) : Nat → Env → Option SRes
  | 0, _ => none
  | n + 1, e => match t e with
    | .fail => some .fail
    | .exc c e1 => some (.exc c e1)
    | .ok false e1 => some (.next e1)
    | .ok true e1 => match body e1 with
      | .next e2 => runW t body n e2
      | .cont e2 => runW t body n e2
      | .brk e2 => some (.next e2)
      | r => some r
theorem runW_mono {t : M Bool} {body : SM} : ∀ {n m : Nat} {e : Env} {r : SRes}, n ≤ m → runW t body n e = some r → runW t body m e = some r
  | 0, _, _, _, _, h => by cases h
  | n + 1, 0, _, _, l, _ => by omega
  | n + 1, m + 1, e, r, l, h => by
    unfold runW at h ⊢
    cases ht : t e with
    | fail =>
      rw [ht] at h
      exact h
    | exc c e1 =>
      rw [ht] at h
      exact h
    | ok b e1 =>
      rw [ht] at h
      cases b with
      | false => exact h
      | true =>
        cases hb : body e1 with
        | next e2 =>
          simp only [hb] at h ⊢
          exact runW_mono (Nat.le_of_succ_le_succ l) h
        | cont e2 =>
          simp only [hb] at h ⊢
          exact runW_mono (Nat.le_of_succ_le_succ l) h
        | brk e2 =>
          simp only [hb] at h ⊢
          exact h
        | fail =>
          simp only [hb] at h ⊢
          exact h
        | ret o e2 =>
          simp only [hb] at h ⊢
          exact h
        | exc o e2 =>
          simp only [hb] at h ⊢
          exact h
open Classical in
noncomputable def sWhile (t : M Bool) (body : SM) : SM := fun e => if h : ∃ n r, runW t body n e = some r then (Classical.choose_spec h).choose else .fail
theorem sWhile_of {t : M Bool} {body : SM} {e : Env} {n : Nat} {r : SRes} (h : runW t body n e = some r) : sWhile t body e = r := by
  have hx : ∃ n r, runW t body n e = some r := ⟨n, r, h⟩
  unfold sWhile
  rw [dif_pos hx]
  have h2 := (Classical.choose_spec hx).choose_spec
  rcases Nat.le_total n (Classical.choose hx) with l | l
  · exact (Option.some.inj ((runW_mono l h).symm.trans h2)).symm
  · exact Option.some.inj ((runW_mono l h2).symm.trans h)
theorem sWhile_run {t : M Bool} {body : SM} {e : Env} {r : SRes} (h : sWhile t body e = r) (hr : r ≠ .fail) : ∃ n, runW t body n e = some r := by
  unfold sWhile at h
  split at h
  · rename_i hx
    exact ⟨Classical.choose hx, (Classical.choose_spec hx).choose_spec.trans (congrArg some h)⟩
  · exact absurd h.symm hr
theorem while_done {t : M Bool} {body : SM} {e e1 : Env} (h : t e = .ok false e1) : sWhile t body e = .next e1 := sWhile_of (n := 1) (by unfold runW; rw [h])
theorem while_brk {t : M Bool} {body : SM} {e e1 e2 : Env} (h : t e = .ok true e1) (hb : body e1 = .brk e2) : sWhile t body e = .next e2 := sWhile_of (n := 1) (by unfold runW; rw [h]; simp only [hb])
theorem while_ret {t : M Bool} {body : SM} {e e1 e2 : Env} {o : O} (h : t e = .ok true e1) (hb : body e1 = .ret o e2) : sWhile t body e = .ret o e2 := sWhile_of (n := 1) (by unfold runW; rw [h]; simp only [hb])
theorem while_exc {t : M Bool} {body : SM} {e e1 e2 : Env} {o : Str} (h : t e = .ok true e1) (hb : body e1 = .exc o e2) : sWhile t body e = .exc o e2 := sWhile_of (n := 1) (by unfold runW; rw [h]; simp only [hb])
theorem while_next {t : M Bool} {body : SM} {e e1 e2 : Env} {r : SRes} (h : t e = .ok true e1) (hb : body e1 = .next e2) (hr : sWhile t body e2 = r) (hf : r ≠ .fail) : sWhile t body e = r := by
  obtain ⟨n, hn⟩ := sWhile_run hr hf
  exact sWhile_of (n := n + 1) (by unfold runW; rw [h]; simp only [hb]; exact hn)

/-! ### what is walked -/
def chrs (s : Str) : List D := s.cps.toList.map fun c => .str ⟨#[c]⟩
def itemsOf : D → Option (List D)
  | .tup ds => some ds
  | .lst ds => some ds
  | .scr ns => some (ns.map D.int)
  | .str s => some (chrs s)
  | _ => none
def seqOf : D → Option (List D)
  | .tup ds => some ds
  | .lst ds => some ds
  | .scr ns => some (ns.map D.int)
  | _ => none
def srcAny (x : M O) : M (List D) := fun e => (toV x e).bind fun d e1 => give (itemsOf d) e1
def numbered : Nat → List D → List D
  | _, [] => []
  | n, d :: ds => .tup [.int n, d] :: numbered (n + 1) ds
def srcEnum (x : M O) : M (List D) := fun e => (toV x e).bind fun d e1 => give ((seqOf d).map (numbered 0)) e1
def zip2 : List D → List D → List D
  | a :: as, b :: bs => .tup [a, b] :: zip2 as bs
  | _, _ => []
def zip3 : List D → List D → List D → List D
  | a :: as, b :: bs, c :: cs => .tup [a, b, c] :: zip3 as bs cs
  | _, _, _ => []
def srcZip2 (x y : M O) : M (List D) := fun e => (allM [toV x, toV y] e).bind fun ds e1 => match ds with
  | [a, b] => give ((seqOf a).bind fun l => (seqOf b).map fun m => zip2 l m) e1
  | _ => .fail
def srcZip3 (x y z : M O) : M (List D) := fun e => (allM [toV x, toV y, toV z] e).bind fun ds e1 => match ds with
  | [a, b, c] => give ((seqOf a).bind fun l => (seqOf b).bind fun m => (seqOf c).map fun n => zip3 l m n) e1
  | _ => .fail
def upFrom (lo : Int) : Nat → List D
  | 0 => []
  | n + 1 => .int lo :: upFrom (lo + 1) n
def inSize (i : Int) : Bool := decide (-1000000 ≤ i ∧ i ≤ 1000000)
def srcRng1 (x : M O) : M (List D) := fun e => (toV x e).bind fun d e1 => match d with
  | .int i => if inSize i then .ok (upFrom 0 i.toNat) e1 else .fail
  | _ => .fail
def srcRng2 (x y : M O) : M (List D) := fun e => (allM [toV x, toV y] e).bind fun ds e1 => match ds with
  | [.int i, .int j] => if inSize i && inSize j then .ok (upFrom i (j - i).toNat) e1 else .fail
  | _ => .fail

/-! ### comprehensions -/
def wipeE (e : Env) : List Nat → Env
  | [] => e
  | v :: vs => (wipeE e vs).set v none
def bYes : M Bool := fun e => .ok true e
def lcLoop (vs : List Nat) (tg : Tg) (tt : M Bool) (te : M O) : List D → List D → M (List D)
  | acc, [], e => .ok acc e
  | acc, d :: ds, e => if small acc.length then match tg.put d e with
      | none => .fail
      | some e1 => match tt e1 with
        | .ok true e2 => match toV te e2 with
          | .ok y e3 => lcLoop vs tg tt te (acc ++ [y]) ds (wipeE e3 vs)
          | _ => .fail
        | .ok false e2 => lcLoop vs tg tt te acc ds (wipeE e2 vs)
        | _ => .fail
    else .fail
/-- names of the comprehension's own are set aside, and come back -/
def aside {α : Type} (vs : List Nat) (f : M α) : M α := fun e => match takeS ((vs.filter fun v => (e.at v).isSome).map .slot) e with
  | none => .fail
  | some (os, e1) => match f (wipeE e1 vs) with
    | .ok a e2 => .ok a (putS ((vs.filter fun v => (e.at v).isSome).map .slot) (os.map some) e2)
    | _ => .fail
def subL (is vs : List Nat) : Bool := is.all vs.contains
def xLc (vs : List Nat) (tg : Tg) (src : M (List D)) (tt : M Bool) (te : M O) : M O := fun e => (src e).bind fun ds e1 =>
  if subL tg.slots vs then (aside vs (lcLoop vs tg tt te [] ds) e1).bind fun l e2 => .ok (.lst l) e2 else .fail
def dcLoop (vs : List Nat) (tg : Tg) (tt : M Bool) (tk te : M O) : List (Key × D) → List D → M (List (Key × D))
  | acc, [], e => .ok acc e
  | acc, d :: ds, e => if small acc.length then match tg.put d e with
      | none => .fail
      | some e1 => match tt e1 with
        | .ok true e2 => match toV tk e2 with
          | .ok k e3 => match toV te e3 with
            | .ok y e4 => match dKey k with
              | some k => dcLoop vs tg tt tk te (LR.putK acc k y) ds (wipeE e4 vs)
              | none => .fail
            | _ => .fail
          | _ => .fail
        | .ok false e2 => dcLoop vs tg tt tk te acc ds (wipeE e2 vs)
        | _ => .fail
    else .fail
def xDc (vs : List Nat) (tg : Tg) (src : M (List D)) (tt : M Bool) (tk te : M O) : M O := fun e => (src e).bind fun ds e1 =>
  if subL tg.slots vs then (aside vs (dcLoop vs tg tt tk te [] ds) e1).bind fun l e2 => .ok (.dK l) e2 else .fail
/-- two sources, the second one's slots vs1 -/
def lcIn (vs1 : List Nat) (tg1 : Tg) (te : M O) : List D → List D → M (List D)
  | acc, [], e => .ok acc e
  | acc, d :: ds, e => if small acc.length then match tg1.put d e with
      | none => .fail
      | some e1 => match toV te e1 with
        | .ok y e3 => lcIn vs1 tg1 te (acc ++ [y]) ds (wipeE e3 vs1)
        | _ => .fail
    else .fail
def lcLoop2 (vs vs1 : List Nat) (tg tg1 : Tg) (src1 : M (List D)) (te : M O) : List D → List D → M (List D)
  | acc, [], e => .ok acc e
  | acc, d :: ds, e => match tg.put d e with
      | none => .fail
      | some e1 => match src1 e1 with
        | .ok items e2 => match lcIn vs1 tg1 te acc items (wipeE e2 vs1) with
          | .ok acc2 e3 => lcLoop2 vs vs1 tg tg1 src1 te acc2 ds (wipeE e3 vs)
          | _ => .fail
        | _ => .fail
def xLc2 (vs vs1 : List Nat) (tg tg1 : Tg) (src src1 : M (List D)) (te : M O) : M O := fun e => (src e).bind fun ds e1 =>
  if subL tg.slots vs && subL tg1.slots vs1 && subL vs1 vs then (aside vs (lcLoop2 vs vs1 tg tg1 src1 te [] ds) e1).bind fun l e2 => .ok (.lst l) e2 else .fail

/-! ### defs -/
/-- by-reference parameters handed back -/
def outsOf : List Bool → Env → Env
  | true :: fl, x :: e => x :: outsOf fl e
  | false :: fl, _ :: e => none :: outsOf fl e
  | _, _ => []
def startE (n : Nat) (os : List O) : Env := os.map some ++ List.replicate (n - os.length) none
/-- a def with so many names, parameters flagged -/
def runDef (n : Nat) (fl : List Bool) (body : SM) (os : List O) : CRes := if os.length = fl.length ∧ os.length ≤ n then match body (startE n os) with
    | .next e => .ok (.frz .non) (outsOf fl e)
    | .ret o e => .ok o (outsOf fl e)
    | .exc c e => .exc c (outsOf fl e)
    | _ => .fail
  else .fail
def pinOf : Nat → List Bool → List Nat
  | _, [] => []
  | i, true :: fl => i :: pinOf (i + 1) fl
  | i, false :: fl => pinOf (i + 1) fl
end LR

set_option Elab.async false
set_option linter.all false
set_option maxRecDepth 100000
set_option maxHeartbeats 2000000
/-! The machine does what LRStm says: statements. -/
namespace LR
open PySem L2

def postS (r : SRes) (nx : Env → Prop) (rt : O → Env → Prop) (bk ct : Env → Prop) (ex : Str → Env → Prop) : Prop := match r with
  | .fail => False
  | .next e => nx e
  | .ret o e => rt o e
  | .brk e => bk e
  | .cont e => ct e
  | .exc c e => ex c e
theorem postS_stm {α : Type} {r : Res α} {f : α → Env → SRes} {nx : Env → Prop} {rt : O → Env → Prop} {bk ct : Env → Prop} {ex : Str → Env → Prop} :
    postS (r.stm f) nx rt bk ct ex = post r (fun a e => postS (f a e) nx rt bk ct ex) ex := by
  cases r <;> rfl
theorem postS_then {r : SRes} {f : SM} {nx : Env → Prop} {rt : O → Env → Prop} {bk ct : Env → Prop} {ex : Str → Env → Prop} :
    postS (r.andThen f) nx rt bk ct ex = postS r (fun e => postS (f e) nx rt bk ct ex) rt bk ct ex := by
  cases r <;> rfl
theorem postS.imp {r : SRes} {nx nx' : Env → Prop} {rt rt' : O → Env → Prop} {bk bk' ct ct' : Env → Prop} {ex ex' : Str → Env → Prop} (h : postS r nx rt bk ct ex) (h1 : ∀ e, nx e → nx' e) (h2 : ∀ o e, rt o e → rt' o e) (h3 : ∀ e, bk e → bk' e) (h4 : ∀ e, ct e → ct' e) (h5 : ∀ c e, ex c e → ex' c e) :
    postS r nx' rt' bk' ct' ex' := by
  cases r with
  | fail => exact h
  | next e => exact h1 _ h
  | ret o e => exact h2 _ _ h
  | brk e => exact h3 _ h
  | cont e => exact h4 _ h
  | exc c e => exact h5 _ _ h
/-- what is wanted behind a statement, by value -/
def aft (K : PySem.W.Frag) (W : WX) (cl : Str → Value) (D : Ends) (pv : Nat → Option V) (rest : List (V × O)) (r : SRes) : Prop :=
  postS r (fun e => ∀ σ H, S K pv e σ rest H → D.nx σ H) (fun o e => ∀ v σ H, S K pv e σ ((v, o) :: rest) H → D.rt v H) (fun e => ∀ σ H, S K pv e σ rest H → D.bk σ H) (fun e => ∀ σ H, S K pv e σ rest H → D.ct σ H)
    (fun c e => ∀ σ H, S K pv e σ rest H → W (cl c) none σ H)
def Pins (pv : Nat → Option V) (P : List Nat) : Prop := ∀ i v, pv i = some v → P.contains i = true
def rS (K : PySem.W.Frag) (W : WX) (cl : Str → Value) (P : List Nat) (f : SM) : TS := fun D σ H => ∃ pv e rest, S K pv e σ rest H ∧ Pins pv P ∧ aft K W cl D pv rest (f e)
theorem _root_.L2.PS.imp {X : Cx} {e : Stmt} {t t' : TS} (h : PS X e t) (i : ∀ D σ H, t' D σ H → t D σ H) : PS X e t' := ⟨fun pins s σ H D I q => h.run pins s σ H D I (i D σ H q)⟩
theorem _root_.L2.PSs.imp {X : Cx} {e : List Stmt} {t t' : TS} (h : PSs X e t) (i : ∀ D σ H, t' D σ H → t D σ H) : PSs X e t' := ⟨fun pins s σ H D I q => h.run pins s σ H D I (i D σ H q)⟩
theorem _root_.L2.PG.imp {X : Cx} {e : Expr} {t t' : TG} (h : PG X e t) (i : ∀ v σ H Q, t' v σ H Q → t v σ H Q) : PG X e t' := ⟨fun pins s σ H v u Q I r q => h.run pins s σ H v u Q I r (i v σ H Q q)⟩
theorem _root_.L2.PI.imp {X : Cx} {a e : Expr} {t t' : TI} (h : PI X a e t) (i : ∀ σ H Q, t' σ H Q → t σ H Q) : PI X a e t' := ⟨fun pins s σ H Q I q => h.run pins s σ H Q I (i σ H Q q)⟩
abbrev PST (X : Cx) (W : WX) (cl : Str → Value) (P : List Nat) (a : Stmt) (f : SM) : Prop := PS X a (rS X.K W cl P f)
abbrev PSS (X : Cx) (W : WX) (cl : Str → Value) (P : List Nat) (a : List Stmt) (f : SM) : Prop := PSs X a (rS X.K W cl P f)

section
variable {X : Cx} {W : WX} {cl : Str → Value} {P : List Nat} {a b : Expr} {st : Stmt} {sts ss ss' : List Stmt} {pos : Pos} {f g : SM} {fs : List SM} {fx : M O} {ft : M Bool}
theorem pss_n : PSS X W cl P [] (sSeq []) := pss_nil.imp fun D σ H ⟨pv, e, rest, s, hp, q⟩ => q σ H s
theorem pss_c (h1 : PST X W cl P st f) (h2 : PSS X W cl P sts (sSeq fs)) : PSS X W cl P (st :: sts) (sSeq (f :: fs)) := (pss_cons h1 h2).imp fun D σ H ⟨pv, e, rest, s, hp, q⟩ => by
  refine ⟨pv, e, rest, s, hp, ?_⟩
  unfold aft sSeq at q
  rw [postS_then] at q
  exact q.imp (fun e1 q σ1 H1 s1 => ⟨pv, e1, rest, s1, hp, q⟩) (fun _ _ z => z) (fun _ z => z) (fun _ z => z) fun _ _ z => z
theorem ps_p : PST X W cl P (.Pass pos) sPass := ps_pass.imp fun D σ H ⟨pv, e, rest, s, hp, q⟩ => q σ H s
theorem ps_d {x : Str} {j : Nat} {p2 : Pos} : PST X W cl P (.Expr (.Constant (.str x) j p2) pos) sPass := ps_doc.imp fun D σ H ⟨pv, e, rest, s, hp, q⟩ => q σ H s
theorem ps_b : PST X W cl P (.Break pos) sBrk := ps_break.imp fun D σ H ⟨pv, e, rest, s, hp, q⟩ => q σ H s
theorem ps_c : PST X W cl P (.Continue pos) sCont := ps_continue.imp fun D σ H ⟨pv, e, rest, s, hp, q⟩ => q σ H s
theorem ps_e (h : PX X W cl a fx) (hs : swapsWith a none pos.line X.env = pure false) : PST X W cl P (.Expr a pos) (sExpr fx) := (ps_expr h hs).imp fun D σ H ⟨pv, e, rest, s, hp, q⟩ => by
  unfold aft sExpr at q
  rw [postS_stm] at q
  exact ⟨pv, e, rest, s, q.imp (fun o e1 q v H' s' => q σ H' s'.drop) fun c e1 q H' s' => q σ H' s'⟩
theorem ps_r (h : PX X W cl a fx) : PST X W cl P (.Return (some a) pos) (sRet fx) := (ps_ret h).imp fun D σ H ⟨pv, e, rest, s, hp, q⟩ => by
  unfold aft sRet at q
  rw [postS_stm] at q
  exact ⟨pv, e, rest, s, q.imp (fun o e1 q v H' s' => q v σ H' s') fun c e1 q H' s' => q σ H' s'⟩
theorem ps_rN : PST X W cl P (.Return none pos) sRetN := ps_retN.imp fun D σ H ⟨pv, e, rest, s, hp, q⟩ => q _ σ H (s.lit fun F => by unfold RD; rfl)
theorem ps_i (ht : PTT X W cl a ft) (h1 : PSS X W cl P ss f) (h2 : PSS X W cl P ss' g) : PST X W cl P (.If a ss ss' pos) (sIf ft f g) := (ps_if ht h1 h2).imp fun D σ H ⟨pv, e, rest, s, hp, q⟩ => by
  unfold aft sIf at q
  rw [postS_stm] at q
  refine ⟨pv, e, rest, s, q.imp (fun b e1 q H' s' => ?_) fun c e1 q H' s' => q σ H' s'⟩
  cases b with
  | true => exact ⟨pv, e1, rest, s', hp, q⟩
  | false => exact ⟨pv, e1, rest, s', hp, q⟩
theorem px_move {i : Nat} {x : Str} (hN : X.N[i]? = some x) (hv : Vis X.env.scope x) (hd : (x == ("__debug__" : Str)) = false) (hcd : (x == ("__classdict__" : Str)) = false) : PX X W cl (.Name x pos) (xMove P i) := by
  by_cases hP : P.contains i = true
  · exact (px_var (W := W) (cl := cl) hN hv hd hcd).imp fun σ H Q ⟨pv, e, rest, s, q⟩ => ⟨pv, e, rest, s, by unfold xMove at q; rw [if_pos hP] at q; exact q⟩
  · refine (pe_var hN hv hd hcd).imp fun σ H Q ⟨pv, e, rest, s, q⟩ => ?_
    unfold xMove at q
    rw [if_neg hP] at q
    cases ho : e.at i with
    | none =>
      rw [ho] at q
      exact q.elim
    | some o =>
      rw [ho] at q
      obtain ⟨v, hv, p⟩ := Cov.get s.cov (Env.at_get ho)
      exact ⟨v, hv, q v H (S.back (Cov.clear s.cov).1 s.pin (s.res.perm (p.append_right rest)))⟩

/-! ### stores -/
def Same (is : List Nat) (σ σ' : L2.St) : Prop := σ'.length = σ.length ∧ ∀ j, j ∉ is → σ'[j]? = σ[j]?
theorem Same.trans {is js : List Nat} {σ σ' σ'' : L2.St} (h : Same is σ σ') (k : Same js σ' σ'') : Same (is ++ js) σ σ'' :=
  ⟨k.1.trans h.1, fun j hj => (k.2 j fun z => hj (List.mem_append_right _ z)).trans (h.2 j fun z => hj (List.mem_append_left _ z))⟩
theorem Same.set {σ : L2.St} {i : Nat} {v : Option V} : Same [i] σ (σ.set i v) := ⟨List.length_set, fun j hj => List.getElem?_set_ne fun z => hj (by rw [z]; exact List.mem_cons_self)⟩
theorem put1_ok {K : PySem.W.Frag} {pv : Nat → Option V} {e e' : Env} {σ : L2.St} {rest : List (V × O)} {H : Hp} {v : V} {o : O} {i : Nat} (s : S K pv e σ ((v, o) :: rest) H) (hp : pv i = none) (h : put1 i o e = some e') : S K pv e' (σ.set i (some v)) rest H := by
  unfold put1 at h
  split at h
  · rename_i hl
    cases h
    have hl2 : i < σ.length := by rw [← s.cov.length]; exact hl
    obtain ⟨c2, p2⟩ := Cov.store (o := o) (v := v) s.cov hl2
    obtain ⟨_, m, pm⟩ := Cov.clear (i := i) s.cov
    refine ⟨c2, fun j w hj => ?_, ?_⟩
    · have hne : i ≠ j := fun z => by rw [z, hj] at hp; cases hp
      rw [List.getElem?_set_ne hne]
      exact s.pin j w hj
    · have r1 := s.res.perm (pm.append_right ((v, o) :: rest))
      rw [List.append_assoc] at r1
      exact r1.drop.perm ((perm_in).trans (p2.append_right rest).symm)
  · cases h
theorem put1_F {K : PySem.W.Frag} {F : Hp} {pv : Nat → Option V} {e e' : Env} {σ : L2.St} {rest : List (V × O)} {H : Hp} {v : V} {d : D} {i : Nat} (s : S0 K F pv e σ rest H) (f : RD K F d v) (hp : pv i = none) (h : put1 i (.frz d) e = some e') : S0 K F pv e' (σ.set i (some v)) rest H := by
  unfold put1 at h
  split at h
  · rename_i hl
    cases h
    have hl2 : i < σ.length := by rw [← s.cov.length]; exact hl
    obtain ⟨c2, p2⟩ := Cov.store (o := .frz d) (v := v) s.cov hl2
    obtain ⟨_, m, pm⟩ := Cov.clear (i := i) s.cov
    refine ⟨c2, fun j w hj => ?_, ?_⟩
    · have hne : i ≠ j := fun z => by rw [z, hj] at hp; cases hp
      rw [List.getElem?_set_ne hne]
      exact s.pin j w hj
    · have r1 := s.res.perm (pm.append_right rest)
      rw [List.append_assoc] at r1
      have dropF : ∀ {m l : List (V × O)}, R0 K F H (m ++ l) → R0 K F H l := by
        intro m
        induction m with
        | nil => exact fun z => z
        | cons x m ih => exact fun z => ih (R0.tail z)
      exact ((dropF r1).der f).perm (p2.append_right rest).symm
  · cases h
theorem putL_ok {K : PySem.W.Frag} {F : Hp} {pv : Nat → Option V} {rest : List (V × O)} {H : Hp} : ∀ {is : List Nat} {ds : List D} {vs : List V} {e e' : Env} {σ : L2.St}, S0 K F pv e σ rest H → RDs K F ds vs → (∀ i ∈ is, pv i = none) → putL is ds e = some e' →
    vs.length = is.length ∧ ∃ σ', (∀ Q : L2.St → Hp → Prop, Q σ' H → (is.map gName).foldr gCons gNil vs σ H Q) ∧ S0 K F pv e' σ' rest H ∧ Same is σ σ'
  | [], [], vs, e, e', σ, s, r, hp, h => by
    unfold RDs at r
    cases h
    rw [r]
    exact ⟨rfl, σ, fun Q q => ⟨rfl, q⟩, s, rfl, fun _ _ => rfl⟩
  | i :: is, d :: ds, vs, e, e', σ, s, r, hp, h => by
    unfold RDs at r
    obtain ⟨v, ws, e1, rd, rs⟩ := r
    unfold putL at h
    obtain ⟨e2, h1, h2⟩ := Option.bind_eq_some_iff.mp h
    have s1 := put1_F s rd (hp i List.mem_cons_self) h1
    obtain ⟨l, σ', q, s2, sm⟩ := putL_ok s1 rs (fun j hj => hp j (List.mem_cons_of_mem _ hj)) h2
    rw [e1]
    refine ⟨by rw [List.length_cons, List.length_cons, l], σ', fun Q qq => ⟨v, ws, rfl, q Q qq⟩, s2, ?_⟩
    exact (Same.set (σ := σ) (i := i) (v := some v)).trans sm
  | [], _ :: _, _, _, _, _, _, _, _, h => by cases h
  | _ :: _, [], _, _, _, _, _, _, _, h => by cases h
/-- a target's reading -/
def rG (K : PySem.W.Frag) (t : Tg) : TG := fun v σ H Q => ∃ pv e rest d e', S K pv e σ ((v, .frz d) :: rest) H ∧ (∀ i ∈ t.slots, pv i = none) ∧ t.put d e = some e' ∧ ∀ σ', Same t.slots σ σ' → S K pv e' σ' rest H → Q σ' H
abbrev PGG (X : Cx) (a : Expr) (t : Tg) : Prop := PG X a (rG X.K t)
theorem pg_n {i : Nat} {x : Str} (hN : X.N.Nodup) (hi : X.N[i]? = some x) (hx : Loc X.env.scope x) (hf : X.fn x = true ∨ X.env.scope.names.lookup x = some .local) : PGG X (.Name x pos) (.name i) :=
  (pg_name hN hi hx hf).imp fun v σ H Q ⟨pv, e, rest, d, e', s, hp, h, q⟩ => q _ Same.set (put1_ok s (hp i List.mem_cons_self) h)
theorem pg_t {k : Nat} {is : List Nat} {es : List Expr} (hc : X.calm = true) (h : PGs X es ((is.map gName).foldr gCons gNil)) (hn : (assignEach es X.env).length = is.length) (hst : (assignEach es X.env).findIdx? (·.1) = none) : PGG X (.Tuple es k pos) (.tup is) :=
  (pg_tup hc h hn hst).imp fun v σ H Q ⟨pv, e, rest, d, e', s, hp, h, q⟩ => by
    cases d with
    | tup ds =>
      obtain ⟨F, s0⟩ := s.opn
      obtain ⟨f, r⟩ := s0.res.mem (List.mem_append_right _ List.mem_cons_self)
      have r := r.1
      unfold RD at r
      obtain ⟨aa, vs, e1, sq, rs⟩ := r
      obtain ⟨l, σ', qq, s2, sm⟩ := putL_ok s0 rs hp h
      exact ⟨aa, vs, e1, s0.le.sqT sq, l, qq Q (q σ' sm s2.cl.drop)⟩
    | _ => cases h
theorem okP_of {pv : Nat → Option V} {is : List Nat} (hp : Pins pv P) (h : okP P is = true) : ∀ i ∈ is, pv i = none := fun i hi => by
  have h1 := List.all_eq_true.mp h i hi
  cases hv : pv i with
  | none => rfl
  | some v =>
    rw [hp i v hv] at h1
    cases h1
theorem ps_a {tg : Expr} {t : Tg} (h : PX X W cl a fx) (hg : PGG X tg t) (hs : swapsWithSole [tg] a pos.line X.env = pure false) (hw : swappedStores [tg] a X.env = pure none) (h1 : (assignEach [tg] X.env).map (·.2) = [assign tg X.env]) : PST X W cl P (.Assign [tg] a pos) (sAsg P t fx) :=
  (ps_asg (pv_of h) hg hs hw h1).imp fun D σ H ⟨pv, e, rest, s, hp, q⟩ => by
    unfold aft sAsg at q
    rw [postS_stm] at q
    refine ⟨pv, e, rest, s, q.imp (fun d e1 q v H' s' => ?_) fun c e1 q H' s' => q σ H' s'⟩
    split at q
    · rename_i hk
      cases hput : t.put d e1 with
      | none =>
        rw [hput] at q
        exact q.elim
      | some e2 =>
        rw [hput] at q
        exact ⟨pv, e1, rest, d, e2, s', okP_of hp hk, hput, fun σ' _ s2 => q σ' H' s2⟩
    · exact q.elim
theorem ps_s {i : Nat} {x : Str} {p2 : Pos} (hN : X.N.Nodup) (hi : X.N[i]? = some x) (hx : Loc X.env.scope x) (h : PX X W cl a fx) (hs : swapsWith a (some (.Name x p2)) pos.line X.env = pure false) (hf : X.fn x = true ∨ X.env.scope.names.lookup x = some .local) : PST X W cl P (.Assign [.Name x p2] a pos) (sSet P i fx) :=
  (ps_set hN hi hx h hs hf).imp fun D σ H ⟨pv, e, rest, s, hp, q⟩ => by
    unfold aft sSet at q
    rw [postS_stm] at q
    refine ⟨pv, e, rest, s, q.imp (fun o e1 q v H' s' => ?_) fun c e1 q H' s' => q σ H' s'⟩
    split at q
    · rename_i hk
      cases hput : put1 i o e1 with
      | none =>
        rw [hput] at q
        exact q.elim
      | some e2 =>
        rw [hput] at q
        exact q _ H' (put1_ok s' (okP_of hp hk i List.mem_cons_self) hput)
    · exact q.elim

/-! ### several owned values -/
def rAO (K : PySem.W.Frag) (W : WX) (cl : Str → Value) (f : M (List O)) : TA := fun σ H Q => ∃ pv e rest, S K pv e σ rest H ∧ post (f e) (fun os e' => ∀ vs H', vs.length = os.length → S K pv e' σ (vs.zip os ++ rest) H' → Q vs H') (fun c e' => ∀ H', S K pv e' σ rest H' → W (cl c) none σ H')
abbrev PAO (X : Cx) (W : WX) (cl : Str → Value) (a : List Expr) (f : M (List O)) : Prop := PA X a (rAO X.K W cl f)
theorem pao_nil : PAO X W cl [] (allM []) := pa_nil.imp fun σ H Q ⟨pv, e, rest, s, q⟩ => q [] H rfl s
theorem pao_cons {es : List Expr} {fs : List (M O)} (ha : PX X W cl a fx) (hr : PAO X W cl es (allM fs)) (hs : starEach (a :: es) X.env = (false, eval a X.env) :: starEach es X.env) : PAO X W cl (a :: es) (allM (fx :: fs)) := (pa_cons ha hr hs).imp fun σ H Q ⟨pv, e, rest, s, q⟩ => by
  unfold allM at q
  rw [post_bind] at q
  refine ⟨pv, e, rest, s, q.imp (fun d e1 q v H1 s1 => ?_) fun _ _ z => z⟩
  rw [post_bind] at q
  refine ⟨pv, e1, (v, d) :: rest, s1, q.imp (fun ds e2 q vs H2 hl s2 => ?_) fun _ _ z H' s' => z H' s'.drop⟩
  refine q (v :: vs) H2 (by rw [List.length_cons, List.length_cons, hl]) (s2.go fun l r => r.perm ?_)
  rw [List.zip_cons_cons]
  exact List.Perm.append_right l List.perm_middle
/-- two names by two values -/
theorem ps_2 {i j : Nat} {x y : Str} {px py pt : Pos} {kt k2 : Nat} {pt2 : Pos} {f1 f2 : M O} (hc : X.calm = true) (hN : X.N.Nodup) (hi : X.N[i]? = some x) (hj : X.N[j]? = some y) (hij : i ≠ j)
    (hx : X.env.scope.names.lookup x = some .local) (hy : X.env.scope.names.lookup y = some .local) (ha : PAO X W cl [a, b] (allM [f1, f2]))
    (hw : swappedStores [.Tuple [.Name x px, .Name y py] kt pt] (.Tuple [a, b] k2 pt2) X.env = pure (some [x, y])) :
    PST X W cl P (.Assign [.Tuple [.Name x px, .Name y py] kt pt] (.Tuple [a, b] k2 pt2) pos) (sPar P [i, j] [f1, f2]) :=
  (ps_par hc hN hi hj hij hx hy ha hw rfl).imp fun D σ H ⟨pv, e, rest, s, hp, q⟩ => by
    unfold aft sPar at q
    rw [postS_stm] at q
    refine ⟨pv, e, rest, s, q.imp (fun os e1 q vs H' hl s' => ?_) fun c e1 q H' s' => q σ H' s'⟩
    split at q
    · rename_i hk
      cases hput : putO [i, j] os e1 with
      | none =>
        rw [hput] at q
        exact q.elim
      | some e2 =>
        rw [hput] at q
        match os, vs, hl, hput, s' with
        | [o1, o2], [v1, v2], _, hput, s' =>
          refine ⟨v1, v2, rfl, q _ H' ?_⟩
          obtain ⟨e3, h1, h2⟩ := Option.bind_eq_some_iff.mp (show (put1 i o1 e1).bind (putO [j] [o2]) = some e2 from hput)
          obtain ⟨e4, h3, h4⟩ := Option.bind_eq_some_iff.mp (show (put1 j o2 e3).bind (putO [] []) = some e2 from h2)
          have e5 : e4 = e2 := Option.some.inj h4
          rw [← e5]
          have s1 := put1_ok s' (okP_of hp hk i List.mem_cons_self) h1
          exact put1_ok s1 (okP_of hp hk j (List.mem_cons_of_mem _ List.mem_cons_self)) h3
        | [], _, _, hput, _ => cases hput
        | [_], _, _, hput, _ =>
          obtain ⟨e3, h1, h2⟩ := Option.bind_eq_some_iff.mp hput
          cases h2
        | _ :: _ :: _ :: _, _, _, hput, _ =>
          obtain ⟨e3, h1, h2⟩ := Option.bind_eq_some_iff.mp hput
          obtain ⟨e4, h3, h4⟩ := Option.bind_eq_some_iff.mp h2
          cases h4
    · exact q.elim
theorem ps_3 {i j l : Nat} {x y z : Str} {c : Expr} {px py pz pt : Pos} {kt k2 : Nat} {pt2 : Pos} {f1 f2 f3 : M O} (hc : X.calm = true) (hN : X.N.Nodup) (hi : X.N[i]? = some x) (hj : X.N[j]? = some y) (hl : X.N[l]? = some z) (hij : i ≠ j) (hil : i ≠ l) (hjl : j ≠ l)
    (hx : X.env.scope.names.lookup x = some .local) (hy : X.env.scope.names.lookup y = some .local) (hz : X.env.scope.names.lookup z = some .local) (ha : PAO X W cl [a, b, c] (allM [f1, f2, f3]))
    (hw : swappedStores [.Tuple [.Name x px, .Name y py, .Name z pz] kt pt] (.Tuple [a, b, c] k2 pt2) X.env = pure (some [x, y, z])) :
    PST X W cl P (.Assign [.Tuple [.Name x px, .Name y py, .Name z pz] kt pt] (.Tuple [a, b, c] k2 pt2) pos) (sPar P [i, j, l] [f1, f2, f3]) :=
  (L2.ps_par3 hc hN hi hj hl hij hil hjl hx hy hz ha hw rfl).imp fun D σ H ⟨pv, e, rest, s, hp, q⟩ => by
    unfold aft sPar at q
    rw [postS_stm] at q
    refine ⟨pv, e, rest, s, q.imp (fun os e1 q vs H' hl s' => ?_) fun c e1 q H' s' => q σ H' s'⟩
    split at q
    · rename_i hk
      cases hput : putO [i, j, l] os e1 with
      | none =>
        rw [hput] at q
        exact q.elim
      | some e2 =>
        rw [hput] at q
        match os, vs, hl, hput, s' with
        | [o1, o2, o3], [v1, v2, v3], _, hput, s' =>
          refine ⟨v1, v2, v3, rfl, q _ H' ?_⟩
          obtain ⟨e3, h1, h2⟩ := Option.bind_eq_some_iff.mp (show (put1 i o1 e1).bind (putO [j, l] [o2, o3]) = some e2 from hput)
          obtain ⟨e4, h3, h4⟩ := Option.bind_eq_some_iff.mp (show (put1 j o2 e3).bind (putO [l] [o3]) = some e2 from h2)
          obtain ⟨e6, h5, h6⟩ := Option.bind_eq_some_iff.mp (show (put1 l o3 e4).bind (putO [] []) = some e2 from h4)
          have e5 : e6 = e2 := Option.some.inj h6
          rw [← e5]
          have s1 := put1_ok s' (okP_of hp hk i (by simp)) h1
          have s2 := put1_ok s1 (okP_of hp hk j (by simp)) h3
          exact put1_ok s2 (okP_of hp hk l (by simp)) h5
        | [], _, _, hput, _ => cases hput
        | [_], _, _, hput, _ =>
          obtain ⟨e3, h1, h2⟩ := Option.bind_eq_some_iff.mp hput
          cases h2
        | [_, _], _, _, hput, _ =>
          obtain ⟨e3, h1, h2⟩ := Option.bind_eq_some_iff.mp hput
          obtain ⟨e4, h3, h4⟩ := Option.bind_eq_some_iff.mp h2
          cases h4
        | _ :: _ :: _ :: _ :: _, _, _, hput, _ =>
          obtain ⟨e3, h1, h2⟩ := Option.bind_eq_some_iff.mp hput
          obtain ⟨e4, h3, h4⟩ := Option.bind_eq_some_iff.mp h2
          obtain ⟨e5, h5, h6⟩ := Option.bind_eq_some_iff.mp h4
          cases h6
    · exact q.elim
end
end LR

set_option Elab.async false
set_option linter.all false
set_option maxRecDepth 100000
set_option maxHeartbeats 2000000
/-! Loops, and what they walk. -/
namespace LR
open PySem L2

/-- the walked thing's items, whatever else is held -/
def Gives (K : PySem.W.Frag) (J : It) (w : List (V × O)) (items : List D) : Prop := ∀ i H l, R K H (w ++ l) →
  (∀ d, items[i]? = some d → J.go i H ∧ ∀ v H', J.yld i H v H' → R K H' ((v, .frz d) :: (w ++ l))) ∧ (i = items.length → J.stop i H)
def rI (K : PySem.W.Frag) (W : WX) (cl : Str → Value) (f : M (List D)) : TI := fun σ H R => ∃ pv e rest, S K pv e σ rest H ∧
  post (f e) (fun items e' => ∀ J w H', S K pv e' σ (w ++ rest) H' → Gives K J w items → R J H') (fun c e' => ∀ H', S K pv e' σ rest H' → W (cl c) none σ H')
abbrev PSrc (X : Cx) (W : WX) (cl : Str → Value) (tg a : Expr) (f : M (List D)) : Prop := PI X tg a (rI X.K W cl f)
theorem S.mid {K : PySem.W.Frag} {pv : Nat → Option V} {e : Env} {σ : L2.St} {w rest : List (V × O)} {H : Hp} (s : S K pv e σ (w ++ rest) H) : R K H (w ++ (pairs e σ ++ rest)) := s.res.perm (by
  rw [← List.append_assoc, ← List.append_assoc]
  exact List.Perm.append_right _ List.perm_append_comm)
theorem S.unmid {K : PySem.W.Frag} {pv : Nat → Option V} {e : Env} {σ : L2.St} {w rest : List (V × O)} {H H' : Hp} {x : V × O} (s : S K pv e σ (w ++ rest) H) (r : R K H' (x :: (w ++ (pairs e σ ++ rest)))) : S K pv e σ (x :: (w ++ rest)) H' :=
  S.back s.cov s.pin (r.perm (.cons _ (by
    rw [← List.append_assoc, ← List.append_assoc]
    exact List.Perm.append_right _ List.perm_append_comm)))
theorem drop_step {α : Type} {l : List α} {i : Nat} (h : i < l.length) : l.drop i = l[i] :: l.drop (i + 1) := List.drop_eq_getElem_cons h

section
variable {X : Cx} {W : WX} {cl : Str → Value} {P : List Nat} {a b : Expr} {st : Stmt} {sts ss ss' : List Stmt} {pos : Pos} {f g : SM} {fs : List SM} {fx : M O} {ft : M Bool}
theorem ps_f {tg : Expr} {t : Tg} {src : M (List D)} (hpass : PassesOwn (model X.prog X.w) X.A X.env X.xe) (hc : X.calm = true) (hi : PSrc X W cl tg a src) (hg : PGG X tg t) (hb : PSS X W cl P ss f) (hs : ∀ x, foldedSetIterable a X.env x = pure x) : PST X W cl P (.For tg a ss [] pos) (sFor P t src f) :=
  (ps_for hpass hc hi hg hb hs).imp fun D σ H ⟨pv, e, rest, s, hp, q⟩ => by
    unfold aft sFor at q
    rw [postS_stm] at q
    refine ⟨pv, e, rest, s, q.imp (fun items e1 q J w H1 s1 G => ?_) fun c e1 q H' s' => q σ H' s'⟩
    split at q
    case isFalse => exact q.elim
    rename_i hk
    refine ⟨fun i m σ H => ∃ e, m = items.length - i ∧ i ≤ items.length ∧ S X.K pv e σ (w ++ rest) H ∧ aft X.K W cl D pv rest (loopS t f (items.drop i) e), ⟨_, e1, rfl, Nat.zero_le _, s1, q⟩, ?_⟩
    rintro i m σ H ⟨e, rfl, hi, s, q⟩
    by_cases hlt : i < items.length
    · obtain ⟨go, yl⟩ := (G i H _ s.mid).1 _ (List.getElem?_eq_getElem hlt)
      refine .inr ⟨go, fun σ' H' => ∃ e, S X.K pv e σ' (w ++ rest) H' ∧ aft X.K W cl D pv rest (loopS t f (items.drop (i + 1)) e), fun σ' H' ⟨e, s', q'⟩ => ⟨items.length - (i + 1), by omega, e, rfl, hlt, s', q'⟩, fun v H' y => ?_⟩
      have s2 := s.unmid (yl v H' y)
      rw [drop_step hlt] at q
      unfold loopS at q
      cases hput : t.put items[i] e with
      | none =>
        rw [hput] at q
        exact q.elim
      | some e2 =>
        rw [hput] at q
        refine ⟨pv, e, w ++ rest, items[i], e2, s2, okP_of hp hk, hput, fun σ' _ s3 => ⟨pv, e2, w ++ rest, s3, hp, ?_⟩⟩
        unfold aft
        dsimp only at q
        cases hf : f e2 with
        | fail =>
          rw [hf] at q
          exact q.elim
        | next e3 =>
          rw [hf] at q
          exact fun σ H s => ⟨e3, s, q⟩
        | cont e3 =>
          rw [hf] at q
          exact fun σ H s => ⟨e3, s, q⟩
        | brk e3 =>
          rw [hf] at q
          exact fun σ H s => q σ H s.nopart
        | ret o e3 =>
          rw [hf] at q
          exact fun v σ H s => q v σ H s.noparts
        | exc c e3 =>
          rw [hf] at q
          exact fun σ H s => q σ H s.nopart
    · have e2 : i = items.length := by omega
      refine .inl ⟨(G i H _ s.mid).2 e2, ?_⟩
      have e3 : items.drop i = [] := List.drop_of_length_le (by omega)
      rw [e3] at q
      exact q σ H s.nopart
theorem ps_w (hpass : PassesOwn (model X.prog X.w) X.A X.env X.xe) (ht : PTT X W cl a ft) (hb : PSS X W cl P ss f) : PST X W cl P (.While a ss [] pos) (sWhile ft f) :=
  (ps_while hpass ht hb).imp fun D σ H ⟨pv, e, rest, s, hp, q⟩ => by
    have hn : ∃ n r, runW ft f n e = some r ∧ aft X.K W cl D pv rest r := by
      cases hr : sWhile ft f e with
      | fail =>
        rw [hr] at q
        exact q.elim
      | _ =>
        rw [hr] at q
        obtain ⟨n, h⟩ := sWhile_run hr fun z => nomatch z
        exact ⟨n, _, h, q⟩
    obtain ⟨n, r, hr, q⟩ := hn
    refine ⟨fun m σ H => ∃ e r, S X.K pv e σ rest H ∧ runW ft f m e = some r ∧ aft X.K W cl D pv rest r, ⟨n, e, r, s, hr, q⟩, ?_⟩
    rintro m σ H ⟨e, r, s, hr, q⟩
    cases m with
    | zero => cases hr
    | succ m =>
      unfold runW at hr
      refine ⟨pv, e, rest, s, ?_⟩
      cases ht : ft e with
      | fail =>
        rw [ht] at hr
        cases hr
        exact q.elim
      | exc c e1 =>
        rw [ht] at hr
        cases hr
        exact fun H' s' => q σ H' s'
      | ok b e1 =>
        rw [ht] at hr
        cases b with
        | false =>
          cases hr
          exact fun H' s' => q σ H' s'
        | true =>
          intro H' s'
          show ∃ N : L2.St → Hp → Prop, _
          refine ⟨fun σ H => ∃ e, S X.K pv e σ rest H ∧ runW ft f m e = some r, fun σ' H' ⟨e, s, h⟩ => ⟨m, Nat.lt_succ_self m, e, r, s, h, q⟩, pv, e1, rest, s', hp, ?_⟩
          unfold aft
          cases hf : f e1 with
          | fail =>
            simp only [hf] at hr
            cases hr
            exact q.elim
          | next e3 =>
            simp only [hf] at hr
            exact fun σ H s => ⟨e3, s, hr⟩
          | cont e3 =>
            simp only [hf] at hr
            exact fun σ H s => ⟨e3, s, hr⟩
          | brk e3 =>
            simp only [hf] at hr
            cases hr
            exact fun σ H s => q σ H s
          | ret o e3 =>
            simp only [hf] at hr
            cases hr
            exact fun v σ H s => q v σ H s
          | exc c e3 =>
            simp only [hf] at hr
            cases hr
            exact fun σ H s => q σ H s

/-! ### sources -/
theorem frz_at {K : PySem.W.Frag} {F H : Hp} {v : V} {d : D} {l : List (V × O)} (r : R0 K F H l) (h : (v, O.frz d) ∈ l) : RD K F d v := by
  obtain ⟨f, q⟩ := r.mem h
  exact q.1
theorem ints_rds {K : PySem.W.Frag} {F : Hp} : ∀ ns : List Int, RDs K F (ns.map D.int) (ns.map V.int)
  | [] => .nil
  | n :: ns => .cons (by unfold RD; rfl) (ints_rds ns)
theorem seq_rd {K : PySem.W.Frag} {F H : Hp} (le : Le F H) {d : D} {v : V} {items : List D} (h : RD K F d v) (hi : seqOf d = some items) : ∃ k a vs, v = .ref a ∧ SqB K H k a vs ∧ RDs K F items vs := by
  cases d with
  | tup ds =>
    unfold RD at h
    obtain ⟨a, vs, e1, q, r⟩ := h
    cases hi
    exact ⟨true, a, vs, e1, le.sqT q, r⟩
  | lst ds =>
    unfold RD at h
    obtain ⟨a, vs, e1, q, r⟩ := h
    cases hi
    exact ⟨false, a, vs, e1, .inl (.inl (le _ _ q)), r⟩
  | scr ns =>
    unfold RD at h
    obtain ⟨a, e1, q⟩ := h
    cases hi
    exact ⟨false, a, _, e1, le.sqL q, ints_rds ns⟩
  | _ => cases hi
theorem RDs.idx {K : PySem.W.Frag} {F : Hp} {ds : List D} {vs : List V} {i : Nat} {d : D} (r : RDs K F ds vs) (h : ds[i]? = some d) : ∃ v, vs[i]? = some v ∧ RD K F d v := r.get h
theorem chrs_get {s : Str} {i : Nat} {d : D} (h : (chrs s)[i]? = some d) : ∃ c, s.cps[i]? = some c ∧ d = .str ⟨#[c]⟩ := by
  unfold chrs at h
  rw [List.getElem?_map] at h
  obtain ⟨c, hc, e⟩ := Option.map_eq_some_iff.mp h
  exact ⟨c, by rw [← Array.getElem?_toList]; exact hc, e.symm⟩
theorem src_any {tg : Expr} (h : PX X W cl a fx) : PSrc X W cl tg a (srcAny fx) := (pi_any (pv_of h)).imp fun σ H Q ⟨pv, e, rest, s, q⟩ => by
  unfold srcAny at q
  rw [post_bind] at q
  refine ⟨pv, e, rest, s, q.imp (fun d e1 q v H1 s1 => ?_) fun _ _ z => z⟩
  cases hi : itemsOf d with
  | none =>
    rw [hi] at q
    exact q.elim
  | some items =>
    rw [hi] at q
    have q : ∀ J w H', S X.K pv e1 σ (w ++ rest) H' → Gives X.K J w items → Q J H' := q
    obtain ⟨F, s0⟩ := s1.opn
    have rd := frz_at s0.res (List.mem_append_right _ List.mem_cons_self)
    have seqL : ∀ a, v = .ref a → (∀ (F H : Hp), Le F H → RD X.K F d v → ∃ vs, SqL X.K H a vs ∧ RDs X.K F items vs) → Gives X.K (Itl X.K a) [(v, .frz d)] items := fun a ea hh i H l r => by
      obtain ⟨F, r0⟩ := r
      obtain ⟨vs, sq, rs⟩ := hh F H r0.le (frz_at r0 List.mem_cons_self)
      refine ⟨fun d1 hd1 => ?_, fun ei => ⟨vs, sq, by rw [rs.length]; omega⟩⟩
      obtain ⟨u, hu, ru⟩ := rs.idx hd1
      refine ⟨⟨vs, u, sq, hu⟩, fun w H' ⟨eH, hw⟩ => ?_⟩
      rw [eH]
      have := hw vs sq
      rw [hu] at this
      cases this
      exact ⟨F, r0.der ru⟩
    have seqT : ∀ a, v = .ref a → (∀ (F H : Hp), Le F H → RD X.K F d v → ∃ vs, SqT X.K H a vs ∧ RDs X.K F items vs) → Gives X.K (Itt X.K a) [(v, .frz d)] items := fun a ea hh i H l r => by
      obtain ⟨F, r0⟩ := r
      obtain ⟨vs, sq, rs⟩ := hh F H r0.le (frz_at r0 List.mem_cons_self)
      refine ⟨fun d1 hd1 => ?_, fun ei => ⟨vs, sq, by rw [rs.length]; omega⟩⟩
      obtain ⟨u, hu, ru⟩ := rs.idx hd1
      refine ⟨⟨vs, u, sq, hu⟩, fun w H' ⟨eH, hw⟩ => ?_⟩
      rw [eH]
      have := hw vs sq
      rw [hu] at this
      cases this
      exact ⟨F, r0.der ru⟩
    cases d with
    | tup ds =>
      obtain rfl : ds = items := Option.some.inj hi
      have rd2 := rd
      unfold RD at rd2
      obtain ⟨a, vs, e2, sq, rs⟩ := rd2
      refine .inr (.inl ⟨a, e2, ⟨vs, s0.le.sqT sq⟩, q _ [(v, .frz (.tup ds))] H1 s1 (seqT a e2 fun F H le rd => ?_)⟩)
      unfold RD at rd
      obtain ⟨b, ws, e3, sq, rs⟩ := rd
      rw [e2] at e3
      cases e3
      exact ⟨ws, le.sqT sq, rs⟩
    | lst ds =>
      obtain rfl : ds = items := Option.some.inj hi
      have rd2 := rd
      unfold RD at rd2
      obtain ⟨a, vs, e2, sq, rs⟩ := rd2
      refine .inl ⟨a, e2, ⟨vs, .inl (.inl (s0.le _ _ sq))⟩, q _ [(v, .frz (.lst ds))] H1 s1 (seqL a e2 fun F H le rd => ?_)⟩
      unfold RD at rd
      obtain ⟨b, ws, e3, sq, rs⟩ := rd
      rw [e2] at e3
      cases e3
      exact ⟨ws, .inl (.inl (le _ _ sq)), rs⟩
    | scr ns =>
      cases hi
      have rd2 := rd
      unfold RD at rd2
      obtain ⟨a, e2, sq⟩ := rd2
      refine .inl ⟨a, e2, ⟨_, s0.le.sqL sq⟩, q _ [(v, .frz (.scr ns))] H1 s1 (seqL a e2 fun F H le rd => ?_)⟩
      unfold RD at rd
      obtain ⟨b, e3, sq⟩ := rd
      rw [e2] at e3
      cases e3
      exact ⟨_, le.sqL sq, ints_rds ns⟩
    | str x =>
      cases hi
      unfold RD at rd
      refine .inr (.inr ⟨x, rd, q _ [(v, .frz (.str x))] H1 s1 fun i H l r => ⟨fun d1 hd1 => ?_, fun ei => ?_⟩⟩)
      · obtain ⟨c, hc, ed⟩ := chrs_get hd1
        refine ⟨(Array.getElem?_eq_some_iff.mp hc).1, fun w H' ⟨eH, c2, hc2, ew⟩ => ?_⟩
        rw [hc] at hc2
        cases hc2
        rw [eH, ed, ew]
        exact r.lit fun F => by unfold RD; rfl
      · show x.cps.size ≤ i
        rw [ei]
        unfold chrs
        rw [List.length_map, Array.length_toList]
        exact Nat.le_refl _
    | _ => cases hi
theorem numbered_len : ∀ {n : Nat} {ds : List D}, (numbered n ds).length = ds.length
  | _, [] => rfl
  | n, d :: ds => by
    unfold numbered
    rw [List.length_cons, List.length_cons, numbered_len]
theorem numbered_get : ∀ {n i : Nat} {ds : List D} {d : D}, (numbered n ds)[i]? = some d → ∃ x, ds[i]? = some x ∧ d = .tup [.int ((n + i : Nat) : Int), x]
  | n, i, [], d, h => by
    unfold numbered at h
    simp at h
  | n, 0, x :: ds, d, h => by
    unfold numbered at h
    cases h
    exact ⟨x, rfl, rfl⟩
  | n, i + 1, x :: ds, d, h => by
    unfold numbered at h
    obtain ⟨y, hy, e⟩ := numbered_get (n := n + 1) (i := i) (ds := ds) (d := d) (by simpa using h)
    exact ⟨y, by simpa using hy, by rw [e]; congr 4; omega⟩
theorem sqB_inj {K : PySem.W.Frag} {H : Hp} {k : Bool} {a : Addr} {xs ys : List V} {Xc : Cx} : True := trivial
theorem zip2_get : ∀ {as bs : List D} {i : Nat} {d : D}, (zip2 as bs)[i]? = some d → ∃ x y, as[i]? = some x ∧ bs[i]? = some y ∧ d = .tup [x, y]
  | [], _, i, d, h => by
    unfold zip2 at h
    simp at h
  | _ :: _, [], i, d, h => by
    unfold zip2 at h
    simp at h
  | x :: as, y :: bs, 0, d, h => by
    unfold zip2 at h
    cases h
    exact ⟨x, y, rfl, rfl, rfl⟩
  | x :: as, y :: bs, i + 1, d, h => by
    unfold zip2 at h
    obtain ⟨u, v, h1, h2, e⟩ := zip2_get (as := as) (bs := bs) (i := i) (d := d) (by simpa using h)
    exact ⟨u, v, by simpa using h1, by simpa using h2, e⟩
theorem zip2_len : ∀ {as bs : List D}, (zip2 as bs).length ≤ as.length ∧ (zip2 as bs).length ≤ bs.length ∧ ((zip2 as bs).length = as.length ∨ (zip2 as bs).length = bs.length)
  | [], _ => by
    unfold zip2
    simp
  | _ :: _, [] => by
    unfold zip2
    simp
  | x :: as, y :: bs => by
    unfold zip2
    have := zip2_len (as := as) (bs := bs)
    simp only [List.length_cons]
    omega
theorem zip3_get : ∀ {as bs cs : List D} {i : Nat} {d : D}, (zip3 as bs cs)[i]? = some d → ∃ x y z, as[i]? = some x ∧ bs[i]? = some y ∧ cs[i]? = some z ∧ d = .tup [x, y, z]
  | [], _, _, i, d, h => by
    unfold zip3 at h
    simp at h
  | _ :: _, [], _, i, d, h => by
    unfold zip3 at h
    simp at h
  | _ :: _, _ :: _, [], i, d, h => by
    unfold zip3 at h
    simp at h
  | x :: as, y :: bs, z :: cs, 0, d, h => by
    unfold zip3 at h
    cases h
    exact ⟨x, y, z, rfl, rfl, rfl, rfl⟩
  | x :: as, y :: bs, z :: cs, i + 1, d, h => by
    unfold zip3 at h
    obtain ⟨u, v, w, h1, h2, h3, e⟩ := zip3_get (as := as) (bs := bs) (cs := cs) (i := i) (d := d) (by simpa using h)
    exact ⟨u, v, w, by simpa using h1, by simpa using h2, by simpa using h3, e⟩
theorem zip3_len : ∀ {as bs cs : List D}, (zip3 as bs cs).length ≤ as.length ∧ (zip3 as bs cs).length ≤ bs.length ∧ (zip3 as bs cs).length ≤ cs.length ∧ ((zip3 as bs cs).length = as.length ∨ (zip3 as bs cs).length = bs.length ∨ (zip3 as bs cs).length = cs.length)
  | [], _, _ => by
    unfold zip3
    simp
  | _ :: _, [], _ => by
    unfold zip3
    simp
  | _ :: _, _ :: _, [] => by
    unfold zip3
    simp
  | x :: as, y :: bs, z :: cs => by
    unfold zip3
    have := zip3_len (as := as) (bs := bs) (cs := cs)
    simp only [List.length_cons]
    omega
theorem upFrom_len : ∀ {n : Nat} {lo : Int}, (upFrom lo n).length = n
  | 0, _ => rfl
  | n + 1, lo => by
    unfold upFrom
    rw [List.length_cons, upFrom_len]
theorem upFrom_get : ∀ {n i : Nat} {lo : Int} {d : D}, (upFrom lo n)[i]? = some d → i < n ∧ d = .int (lo + i)
  | 0, i, lo, d, h => by
    unfold upFrom at h
    simp at h
  | n + 1, 0, lo, d, h => by
    unfold upFrom at h
    cases h
    exact ⟨Nat.succ_pos n, by congr 1; omega⟩
  | n + 1, i + 1, lo, d, h => by
    unfold upFrom at h
    obtain ⟨h1, e⟩ := upFrom_get (n := n) (i := i) (lo := lo + 1) (d := d) (by simpa using h)
    exact ⟨Nat.succ_lt_succ h1, by rw [e]; congr 1; omega⟩
def kindB : D → Bool
  | .tup _ => true
  | _ => false
theorem seqB_of {K : PySem.W.Frag} {d : D} {v : V} {ds : List D} {k : Bool} {a : Addr} {F H F' H' : Hp} (le : Le F H) (r : RD K F d v) (hi : seqOf d = some ds) (le' : Le F' H') (r' : RD K F' d v) (hv : v = .ref a) (hk : ∃ vs, SqB K H k a vs) (hkk : k = kindB d) :
    ∃ vs, SqB K H' k a vs ∧ RDs K F' ds vs := by
  cases d with
  | tup es =>
    cases hi
    unfold RD at r'
    obtain ⟨b, vs, e1, q, rs⟩ := r'
    rw [hv] at e1
    cases e1
    rw [hkk]
    exact ⟨vs, le'.sqT q, rs⟩
  | lst es =>
    cases hi
    unfold RD at r'
    obtain ⟨b, vs, e1, q, rs⟩ := r'
    rw [hv] at e1
    cases e1
    rw [hkk]
    exact ⟨vs, .inl (.inl (le' _ _ q)), rs⟩
  | scr ns =>
    cases hi
    unfold RD at r'
    obtain ⟨b, e1, q⟩ := r'
    rw [hv] at e1
    cases e1
    rw [hkk]
    exact ⟨_, le'.sqL q, ints_rds ns⟩
  | _ => cases hi
/-- a sequence told by its data: its kind, its address, and its values in whatever heap it is held -/
theorem seq_at {K : PySem.W.Frag} {F H : Hp} {d : D} {v : V} {ds : List D} (le : Le F H) (r : RD K F d v) (hi : seqOf d = some ds) :
    ∃ k a, v = .ref a ∧ ∀ F' H', Le F' H' → RD K F' d v → ∃ vs, SqB K H' k a vs ∧ RDs K F' ds vs := by
  have : ∃ a, v = .ref a := by
    obtain ⟨k, a, vs, e, _⟩ := seq_rd le r hi
    exact ⟨a, e⟩
  obtain ⟨a, e⟩ := this
  refine ⟨_, a, e, fun F' H' le' r' => seqB_of (H := H) (k := kindB d) le r hi le' r' e ?_ rfl⟩
  obtain ⟨k, b, vs, e1, sq, _⟩ := seq_rd le r hi
  cases d with
  | tup es =>
    unfold RD at r
    obtain ⟨b, vs, e1, q, rs⟩ := r
    rw [e] at e1
    cases e1
    exact ⟨vs, le.sqT q⟩
  | lst es =>
    unfold RD at r
    obtain ⟨b, vs, e1, q, rs⟩ := r
    rw [e] at e1
    cases e1
    exact ⟨vs, .inl (.inl (le _ _ q))⟩
  | scr ns =>
    unfold RD at r
    obtain ⟨b, e1, q⟩ := r
    rw [e] at e1
    cases e1
    exact ⟨_, le.sqL q⟩
  | _ => cases hi
theorem R0.newP {K : PySem.W.Frag} {F H : Hp} {l : List (V × O)} {T : Addr} {ds : List D} {vs : List V} (h : R0 K F H l) (hp : H T = none) (f : RDs K F ds vs) : R K (upd H T (.tup vs)) ((.ref T, .frz (.tup ds)) :: l) := h.newT hp f
theorem src_enum {tg : List Expr} {kk : Nat} {tpos p : Pos} (hg : Gl X "enumerate") (hm : X.mg "enumerate" = none) (hs : ∀ y p, a ≠ .Starred y p) (h : PX X W cl a fx) : PSrc X W cl (.Tuple tg kk tpos) (.Call (.Name "enumerate" p) [a] [] pos) (srcEnum fx) :=
  (pi_enumB hg hm (pa_cons (pv_of h) pa_nil (plain_star hs)) (plain_star hs)).imp fun σ H Q ⟨pv, e, rest, s, q⟩ => by
    unfold srcEnum at q
    rw [post_bind] at q
    refine ⟨pv, e, rest, s, q.imp (fun d e1 q v H1 s1 => ?_) fun _ _ z => z⟩
    cases hi : seqOf d with
    | none =>
      rw [hi] at q
      exact q.elim
    | some ds =>
      rw [hi] at q
      have q : ∀ J w H', S X.K pv e1 σ (w ++ rest) H' → Gives X.K J w (numbered 0 ds) → Q J H' := q
      obtain ⟨F, s0⟩ := s1.opn
      have rd := frz_at s0.res (List.mem_append_right _ List.mem_cons_self)
      obtain ⟨k, aa, ea, al⟩ := seq_at s0.le rd hi
      obtain ⟨vs, sq, rs⟩ := al F H1 s0.le rd
      refine ⟨k, aa, vs, by rw [ea], sq, q _ [(v, .frz d)] H1 s1 fun i H l r => ?_⟩
      obtain ⟨F, r0⟩ := r
      obtain ⟨vs, sq, rs⟩ := al F H r0.le (frz_at r0 List.mem_cons_self)
      refine ⟨fun d1 hd1 => ?_, fun ei => ⟨vs, sq, by rw [rs.length, ei, numbered_len]⟩⟩
      obtain ⟨x, hx, ed⟩ := numbered_get hd1
      obtain ⟨u, hu, ru⟩ := rs.idx hx
      refine ⟨⟨vs, u, sq, hu⟩, fun w H' ⟨T, y, ew, hT, eH, hy⟩ => ?_⟩
      have := hy vs sq
      rw [hu] at this
      cases this
      rw [eH, ew, ed]
      refine r0.newP hT (.cons ?_ (.cons ru .nil))
      unfold RD
      rw [Nat.zero_add]
/-! ### zip -/
theorem src_zip2 {tg : List Expr} {kk : Nat} {tpos p : Pos} {fy : M O} (hg : Gl X "zip") (hm : X.mg "zip" = none) (hs : ∀ x ∈ [a, b], ∀ y p, x ≠ .Starred y p) (h : PX X W cl a fx) (h2 : PX X W cl b fy) : PSrc X W cl (.Tuple tg kk tpos) (.Call (.Name "zip" p) [a, b] [] pos) (srcZip2 fx fy) := by
  have hs1 : starEach [a, b] X.env = (false, eval a X.env) :: starEach [b] X.env := plain_star (hs a (by simp))
  have hs2 : starEach [b] X.env = (false, eval b X.env) :: starEach [] X.env := plain_star (hs b (by simp))
  refine (pi_zipB2 hg hm (pa_all_cons (pv_of h) (pa_all_cons (pv_of h2) pa_all_nil hs2) hs1) hs1 (plain_any fun x hx => hs x (List.mem_cons_of_mem _ hx))).imp fun σ H Q ⟨pv, e, rest, s, q⟩ => ?_
  unfold srcZip2 at q
  rw [post_bind] at q
  refine ⟨pv, e, rest, s, q.imp (fun ds e1 q vs H1 hl s1 => ?_) fun _ _ z => z⟩
  match ds, vs, hl, s1, q with
  | [d1, d2], [v1, v2], _, s1, q =>
    cases hi1 : seqOf d1 with
    | none =>
      simp only [hi1] at q
      exact q.elim
    | some l1 =>
      cases hi2 : seqOf d2 with
      | none =>
        simp only [hi1, hi2] at q
        exact q.elim
      | some l2 =>
        simp only [hi1, hi2] at q
        have q : ∀ J w H', S X.K pv e1 σ (w ++ rest) H' → Gives X.K J w (zip2 l1 l2) → Q J H' := q
        have s1 : S X.K pv e1 σ ([(v1, .frz d1), (v2, .frz d2)] ++ rest) H1 := s1
        obtain ⟨F, s0⟩ := s1.opn
        have rd1 : RD X.K F d1 v1 := frz_at s0.res (List.mem_append_right _ List.mem_cons_self)
        have rd2 : RD X.K F d2 v2 := frz_at s0.res (List.mem_append_right _ (List.mem_cons_of_mem _ List.mem_cons_self))
        obtain ⟨k1, a1, ea1, al1⟩ := seq_at s0.le rd1 hi1
        obtain ⟨k2, a2, ea2, al2⟩ := seq_at s0.le rd2 hi2
        obtain ⟨vs1, sq1, rs1⟩ := al1 F H1 s0.le rd1
        obtain ⟨vs2, sq2, rs2⟩ := al2 F H1 s0.le rd2
        refine ⟨k1, k2, a1, a2, vs1, vs2, by rw [ea1, ea2], sq1, sq2, q _ _ H1 s1 fun i H l r => ?_⟩
        obtain ⟨F, r0⟩ := r
        obtain ⟨vs1, sq1, rs1⟩ := al1 F H r0.le (frz_at r0 List.mem_cons_self)
        obtain ⟨vs2, sq2, rs2⟩ := al2 F H r0.le (frz_at r0 (List.mem_cons_of_mem _ List.mem_cons_self))
        refine ⟨fun d hd => ?_, fun ei => ⟨vs1, vs2, sq1, sq2, ?_⟩⟩
        · obtain ⟨x, y, hx, hy, ed⟩ := zip2_get hd
          obtain ⟨u1, hu1, ru1⟩ := rs1.idx hx
          obtain ⟨u2, hu2, ru2⟩ := rs2.idx hy
          refine ⟨⟨vs1, vs2, u1, u2, sq1, sq2, hu1, hu2⟩, fun w H' ⟨T, y1, y2, ew, hT, eH, hy1, hy2⟩ => ?_⟩
          have t1 := hy1 vs1 sq1
          have t2 := hy2 vs2 sq2
          rw [hu1] at t1
          rw [hu2] at t2
          cases t1
          cases t2
          rw [eH, ew, ed]
          exact r0.newP hT (.cons ru1 (.cons ru2 .nil))
        · have := zip2_len (as := l1) (bs := l2)
          rw [rs1.length, rs2.length, ei]
          exact ⟨this.1, this.2.1, this.2.2⟩
  | [], _, _, _, q => exact q.elim
  | [_], _, _, _, q => exact q.elim
  | _ :: _ :: _ :: _, _, _, _, q => exact q.elim
theorem src_zip3 {tg : List Expr} {c : Expr} {kk : Nat} {tpos p : Pos} {fy fz : M O} (hg : Gl X "zip") (hm : X.mg "zip" = none) (hs : ∀ x ∈ [a, b, c], ∀ y p, x ≠ .Starred y p) (h : PX X W cl a fx) (h2 : PX X W cl b fy) (h3 : PX X W cl c fz) :
    PSrc X W cl (.Tuple tg kk tpos) (.Call (.Name "zip" p) [a, b, c] [] pos) (srcZip3 fx fy fz) := by
  have hs1 : starEach [a, b, c] X.env = (false, eval a X.env) :: starEach [b, c] X.env := plain_star (hs a (by simp))
  have hs2 : starEach [b, c] X.env = (false, eval b X.env) :: starEach [c] X.env := plain_star (hs b (by simp))
  have hs3 : starEach [c] X.env = (false, eval c X.env) :: starEach [] X.env := plain_star (hs c (by simp))
  refine (pi_zipB3 hg hm (pa_all_cons (pv_of h) (pa_all_cons (pv_of h2) (pa_all_cons (pv_of h3) pa_all_nil hs3) hs2) hs1) hs1 (plain_any fun x hx => hs x (List.mem_cons_of_mem _ hx))).imp fun σ H Q ⟨pv, e, rest, s, q⟩ => ?_
  unfold srcZip3 at q
  rw [post_bind] at q
  refine ⟨pv, e, rest, s, q.imp (fun ds e1 q vs H1 hl s1 => ?_) fun _ _ z => z⟩
  match ds, vs, hl, s1, q with
  | [d1, d2, d3], [v1, v2, v3], _, s1, q =>
    cases hi1 : seqOf d1 with
    | none =>
      simp only [hi1] at q
      exact q.elim
    | some l1 =>
      cases hi2 : seqOf d2 with
      | none =>
        simp only [hi1, hi2] at q
        exact q.elim
      | some l2 =>
        cases hi3 : seqOf d3 with
        | none =>
          simp only [hi1, hi2, hi3] at q
          exact q.elim
        | some l3 =>
          simp only [hi1, hi2, hi3] at q
          have q : ∀ J w H', S X.K pv e1 σ (w ++ rest) H' → Gives X.K J w (zip3 l1 l2 l3) → Q J H' := q
          have s1 : S X.K pv e1 σ ([(v1, .frz d1), (v2, .frz d2), (v3, .frz d3)] ++ rest) H1 := s1
          obtain ⟨F, s0⟩ := s1.opn
          have rd1 : RD X.K F d1 v1 := frz_at s0.res (List.mem_append_right _ (by simp))
          have rd2 : RD X.K F d2 v2 := frz_at s0.res (List.mem_append_right _ (by simp))
          have rd3 : RD X.K F d3 v3 := frz_at s0.res (List.mem_append_right _ (by simp))
          obtain ⟨k1, a1, ea1, al1⟩ := seq_at s0.le rd1 hi1
          obtain ⟨k2, a2, ea2, al2⟩ := seq_at s0.le rd2 hi2
          obtain ⟨k3, a3, ea3, al3⟩ := seq_at s0.le rd3 hi3
          obtain ⟨vs1, sq1, rs1⟩ := al1 F H1 s0.le rd1
          obtain ⟨vs2, sq2, rs2⟩ := al2 F H1 s0.le rd2
          obtain ⟨vs3, sq3, rs3⟩ := al3 F H1 s0.le rd3
          refine ⟨k1, k2, k3, a1, a2, a3, vs1, vs2, vs3, by rw [ea1, ea2, ea3], sq1, sq2, sq3, q _ _ H1 s1 fun i H l r => ?_⟩
          obtain ⟨F, r0⟩ := r
          obtain ⟨vs1, sq1, rs1⟩ := al1 F H r0.le (frz_at r0 (by simp))
          obtain ⟨vs2, sq2, rs2⟩ := al2 F H r0.le (frz_at r0 (by simp))
          obtain ⟨vs3, sq3, rs3⟩ := al3 F H r0.le (frz_at r0 (by simp))
          refine ⟨fun d hd => ?_, fun ei => ⟨vs1, vs2, vs3, sq1, sq2, sq3, ?_⟩⟩
          · obtain ⟨x, y, z, hx, hy, hz, ed⟩ := zip3_get hd
            obtain ⟨u1, hu1, ru1⟩ := rs1.idx hx
            obtain ⟨u2, hu2, ru2⟩ := rs2.idx hy
            obtain ⟨u3, hu3, ru3⟩ := rs3.idx hz
            refine ⟨⟨vs1, vs2, vs3, u1, u2, u3, sq1, sq2, sq3, hu1, hu2, hu3⟩, fun w H' ⟨T, y1, y2, y3, ew, hT, eH, hy1, hy2, hy3⟩ => ?_⟩
            have t1 := hy1 vs1 sq1
            have t2 := hy2 vs2 sq2
            have t3 := hy3 vs3 sq3
            rw [hu1] at t1
            rw [hu2] at t2
            rw [hu3] at t3
            cases t1
            cases t2
            cases t3
            rw [eH, ew, ed]
            exact r0.newP hT (.cons ru1 (.cons ru2 (.cons ru3 .nil)))
          · have := zip3_len (as := l1) (bs := l2) (cs := l3)
            rw [rs1.length, rs2.length, rs3.length, ei]
            exact ⟨this.1, this.2.1, this.2.2.1, this.2.2.2⟩
  | [], _, _, _, q => exact q.elim
  | [_], _, _, _, q => exact q.elim
  | [_, _], _, _, _, q => exact q.elim
  | _ :: _ :: _ :: _ :: _, _, _, _, q => exact q.elim
/-! ### range -/
theorem rng_gives {K : PySem.W.Frag} {lo : Int} {n : Nat} : Gives K (Itr lo n) [] (upFrom lo n) := fun i H l r => ⟨fun d hd => by
  obtain ⟨hlt, e⟩ := upFrom_get hd
  refine ⟨hlt, fun v H' ⟨eH, ev⟩ => ?_⟩
  rw [eH, ev, e]
  exact r.lit fun F => by unfold RD; rfl, fun ei => by
  rw [upFrom_len] at ei
  exact Nat.le_of_eq ei.symm⟩
theorem src_rng1 {tg : Expr} {p : Pos} (hg : Gl X "range") (hm : X.mg "range" = none) (hs : ∀ y p, a ≠ .Starred y p) (h : PX X W cl a fx) : PSrc X W cl tg (.Call (.Name "range" p) [a] [] pos) (srcRng1 fx) :=
  (pi_range1 hg hm (pa_cons (pv_of h) pa_nil (plain_star hs)) (plain_star hs)).imp fun σ H Q ⟨pv, e, rest, s, q⟩ => by
    unfold srcRng1 at q
    rw [post_bind] at q
    refine ⟨pv, e, rest, s, q.imp (fun d e1 q v H1 s1 => ?_) fun _ _ z => z⟩
    cases d with
    | int j =>
      dsimp only at q
      split at q
      · rename_i hz
        have hz : -1000000 ≤ j ∧ j ≤ 1000000 := of_decide_eq_true hz
        obtain ⟨F, s0⟩ := s1.opn
        have rd := frz_at s0.res (List.mem_append_right _ List.mem_cons_self)
        unfold RD at rd
        exact ⟨j, by rw [rd], by omega, by omega, q _ [] H1 s1.drop rng_gives⟩
      · exact q.elim
    | _ => exact q.elim
theorem src_rng2 {tg : Expr} {p : Pos} {fy : M O} (hg : Gl X "range") (hm : X.mg "range" = none) (hs : ∀ x ∈ [a, b], ∀ y p, x ≠ .Starred y p) (h : PX X W cl a fx) (h2 : PX X W cl b fy) : PSrc X W cl tg (.Call (.Name "range" p) [a, b] [] pos) (srcRng2 fx fy) := by
  have hs1 : starEach [a, b] X.env = (false, eval a X.env) :: starEach [b] X.env := plain_star (hs a (by simp))
  have hs2 : starEach [b] X.env = (false, eval b X.env) :: starEach [] X.env := plain_star (hs b (by simp))
  refine (pi_range2 hg hm (pa_all_cons (pv_of h) (pa_all_cons (pv_of h2) pa_all_nil hs2) hs1) (by rw [hs1, hs2]; rfl) (by rw [hs2]; rfl)).imp fun σ H Q ⟨pv, e, rest, s, q⟩ => ?_
  unfold srcRng2 at q
  rw [post_bind] at q
  refine ⟨pv, e, rest, s, q.imp (fun ds e1 q vs H1 hl s1 => ?_) fun _ _ z => z⟩
  match ds, vs, hl, s1, q with
  | [.int i, .int j], [v1, v2], _, s1, q =>
    dsimp only at q
    split at q
    · rename_i hz
      have hz := Bool.and_eq_true_iff.mp hz
      have hz1 : -1000000 ≤ i ∧ i ≤ 1000000 := of_decide_eq_true hz.1
      have hz2 : -1000000 ≤ j ∧ j ≤ 1000000 := of_decide_eq_true hz.2
      have s1 : S X.K pv e1 σ ([(v1, .frz (.int i)), (v2, .frz (.int j))] ++ rest) H1 := s1
      obtain ⟨F, s0⟩ := s1.opn
      have rd1 : RD X.K F (.int i) v1 := frz_at s0.res (List.mem_append_right _ (by simp))
      have rd2 : RD X.K F (.int j) v2 := frz_at s0.res (List.mem_append_right _ (by simp))
      unfold RD at rd1 rd2
      exact ⟨i, j, by rw [rd1, rd2], by omega, q _ [] H1 s1.nopart rng_gives⟩
    · exact q.elim
  | [], _, _, _, q => exact q.elim
  | [_], _, _, _, q => simp at q; exact q.elim
  | _ :: _ :: _ :: _, _, _, _, q => simp at q; exact q.elim
end
end LR

set_option Elab.async false
set_option linter.all false
set_option maxRecDepth 100000
set_option maxHeartbeats 2000000
/-! Items stored, methods of a name's own list. -/
namespace LR
open PySem L2

theorem frz_in {K : PySem.W.Frag} {F : Hp} {pv : Nat → Option V} {e : Env} {σ : L2.St} {l : List (V × O)} {H : Hp} {v : V} {d : D} (s : S0 K F pv e σ l H) (h : (v, O.frz d) ∈ l) : RD K F d v := frz_at s.res (List.mem_append_right _ h)
/-- a slot's own thing, apart -/
theorem S.slot {K : PySem.W.Frag} {pv : Nat → Option V} {e : Env} {σ : L2.St} {m : List (V × O)} {H : Hp} {j : Nat} {o : O} (s : S K pv e σ m H) (h : e.at j = some o) : ∃ v, σ[j]? = some (some v) ∧ R K H ((v, o) :: (pairs (e.set j none) σ ++ m)) := by
  obtain ⟨v, hv, p⟩ := Cov.get s.cov (Env.at_get h)
  exact ⟨v, hv, s.res.perm (p.append_right m)⟩
theorem S.slotBack {K : PySem.W.Frag} {pv : Nat → Option V} {e : Env} {σ : L2.St} {m m' : List (V × O)} {H H' : Hp} {j : Nat} {o : O} {v : V} (s : S K pv e σ m H) (h : σ[j]? = some (some v)) (r : R K H' ((v, o) :: (pairs (e.set j none) σ ++ m'))) : S K pv (e.set j (some o)) σ m' H' := by
  obtain ⟨c2, p⟩ := Cov.put (o := o) s.cov h
  exact ⟨c2, s.pin, r.perm (p.append_right m').symm⟩
theorem putK_any {F : Hp} {K : PySem.W.Frag} {α : Type} {kvs : List (Key × α)} {ws : List (Key × V)} (hk : ws.map (·.1) = kvs.map (·.1)) (k : Key) : (ws.any fun kv => decide (kv.1 = k)) = kvs.any fun kv => decide (kv.1 = k) := by
  have h1 : (ws.any fun kv => decide (kv.1 = k)) = (ws.map (·.1)).any fun j => decide (j = k) := by rw [List.any_map]; rfl
  have h2 : (kvs.any fun kv => decide (kv.1 = k)) = (kvs.map (·.1)).any fun j => decide (j = k) := by rw [List.any_map]; rfl
  rw [h1, h2, hk]
theorem putK_map {K : PySem.W.Frag} {F : Hp} {k : Key} {d : D} {v : V} (hd : RD K F d v) : ∀ {kvs : List (Key × D)} {ws : List (Key × V)}, ws.map (·.1) = kvs.map (·.1) → RDs K F (kvs.map (·.2)) (ws.map (·.2)) →
    (ws.map fun kv => if kv.1 = k then (kv.1, v) else kv).map (·.1) = (kvs.map fun kv => if kv.1 = k then (kv.1, d) else kv).map (·.1) ∧
    RDs K F ((kvs.map fun kv => if kv.1 = k then (kv.1, d) else kv).map (·.2)) ((ws.map fun kv => if kv.1 = k then (kv.1, v) else kv).map (·.2))
  | [], [], _, _ => ⟨rfl, .nil⟩
  | p :: kvs, q :: ws, hk, r => by
    have e1 : q.1 = p.1 := by
      have := congrArg List.head? hk
      simpa using this
    have e2 : ws.map (·.1) = kvs.map (·.1) := by
      have := congrArg List.tail hk
      simpa using this
    obtain ⟨v0, r0, e3, rd, rs⟩ := (show ∃ v0 r0, (q :: ws).map (·.2) = v0 :: r0 ∧ RD K F p.2 v0 ∧ RDs K F (kvs.map (·.2)) r0 by
      rw [List.map_cons] at r
      unfold RDs at r
      exact r)
    have e4 : q.2 = v0 ∧ ws.map (·.2) = r0 := by
      rw [List.map_cons] at e3
      exact List.cons.inj e3
    obtain ⟨h1, h2⟩ := putK_map hd e2 (by rw [e4.2]; exact rs)
    by_cases z : p.1 = k
    · have z2 : q.1 = k := e1.trans z
      simp only [List.map_cons, if_pos z, if_pos z2]
      exact ⟨by rw [h1, e1], .cons hd h2⟩
    · have z2 : ¬ q.1 = k := fun y => z (e1.symm.trans y)
      simp only [List.map_cons, if_neg z, if_neg z2]
      exact ⟨by rw [h1, e1], .cons (by rw [e4.1]; exact rd) h2⟩
  | [], _ :: _, hk, _ => by simp at hk
  | _ :: _, [], hk, _ => by simp at hk
theorem putK_rd {K : PySem.W.Frag} {F : Hp} {k : Key} {d : D} {v : V} (hd : RD K F d v) {kvs : List (Key × D)} {ws : List (Key × V)} (hk : ws.map (·.1) = kvs.map (·.1)) (r : RDs K F (kvs.map (·.2)) (ws.map (·.2))) :
    (L2.putK ws k v).map (·.1) = (LR.putK kvs k d).map (·.1) ∧ RDs K F ((LR.putK kvs k d).map (·.2)) ((L2.putK ws k v).map (·.2)) := by
  unfold L2.putK LR.putK
  rw [putK_any (F := F) (K := K) hk k]
  split
  · exact putK_map hd hk r
  · rw [List.map_append, List.map_append, List.map_append, List.map_append, hk]
    exact ⟨rfl, r.append (.cons hd .nil)⟩

section
variable {X : Cx} {W : WX} {cl : Str → Value} {P : List Nat} {a b : Expr} {pos apos npos p2 : Pos} {fx fk : M O}
theorem PSet.or {t u : TSet} (h : PSet X t) (k : PSet X u) : PSet X fun o i v H Q => t o i v H Q ∨ u o i v H Q := fun pins s σ H o i v ov iv w Q I r1 r2 r3 q => q.elim (h pins s σ H o i v ov iv w Q I r1 r2 r3) (k pins s σ H o i v ov iv w Q I r1 r2 r3)
theorem ps_sub {j : Nat} {x : Str} (hu : X.A.units + 1 < cLine) (hN : X.N[j]? = some x) (hv : Vis X.env.scope x) (hd : (x == ("__debug__" : Str)) = false) (hcd : (x == ("__classdict__" : Str)) = false)
    (hk : PX X W cl b fk) (h : PX X W cl a fx) (hs : swapsWithSole [.Subscript (.Name x npos) b p2] a pos.line X.env = pure false) (hb : ∀ l u s p, b ≠ .Slice l u s p) :
    PST X W cl P (.Assign [.Subscript (.Name x npos) b p2] a pos) (sSub j fk fx) := by
  have ha : ∀ v, assign (.Subscript (.Name x npos) b p2) X.env v = (do
      let ov ← holding [v] (eval (.Name x npos) X.env)
      let iv ← holding [v, ov] (eval b X.env)
      standAt p2
      holding [v, ov, iv] (setItem ov iv v)
      release [v, ov, iv] []) := by
    intro v
    cases b <;> first
      | rfl
      | exact absurd rfl (hb _ _ _ _)
  refine (ps_asg (pv_of h) (pg_sub (pe_var hN hv hd hcd) (pv_of hk) (PSet.or set_list (set_dict hu)) ha) hs rfl rfl).imp fun D σ H ⟨pv, e, rest, s, hp, q⟩ => ?_
  unfold aft sSub at q
  rw [postS_stm] at q
  refine ⟨pv, e, rest, s, q.imp (fun d e1 q v H1 s1 => ?_) fun c e1 q H' s' => q σ H' s'⟩
  cases ho : e1.at j with
  | none =>
    rw [ho] at q
    exact q.elim
  | some o0 =>
    rw [ho] at q
    dsimp only at q
    rw [postS_stm] at q
    obtain ⟨u, hu, _⟩ := s1.slot ho
    refine ⟨u, hu, pv, e1, (v, .frz d) :: rest, s1, q.imp (fun kd e2 q i H2 s2 => ?_) fun c e2 q H' s' => q σ H' s'.drop⟩
    cases ho2 : e2.at j with
    | none =>
      rw [ho2] at q
      exact q.elim
    | some o =>
      rw [ho2] at q
      have q : postS (match setD kd d o with | some o => SRes.next (e2.set j (some o)) | none => .fail) _ _ _ _ _ := q
      obtain ⟨F, s0⟩ := s2.opn
      have rk := frz_in s0 List.mem_cons_self
      have rd := frz_in s0 (List.mem_cons_of_mem _ List.mem_cons_self)
      obtain ⟨u2, hu2, p⟩ := Cov.get s0.cov (Env.at_get ho2)
      rw [hu] at hu2
      cases hu2
      have r0 := s0.res.perm (p.append_right _)
      cases ho3 : setD kd d o with
      | none =>
        rw [ho3] at q
        exact q.elim
      | some o' =>
        rw [ho3] at q
        have qq : ∀ σ' H', S X.K pv (e2.set j (some o')) σ' rest H' → D.nx σ' H' := q
        cases o with
        | lst ds =>
          cases kd with
          | int i0 =>
            obtain ⟨n, hn, e3⟩ := Option.map_eq_some_iff.mp (show (L2.ixN ds.length i0).map (fun n => O.lst (ds.set n d)) = some o' from ho3)
            obtain ⟨f, t⟩ := r0.mem List.mem_cons_self
            obtain ⟨aa, vs, e4, hH, rs, _⟩ := t
            unfold RD at rk
            subst e4
            refine .inl ⟨aa, vs, i0, n, rfl, rk, hH, by rw [rs.length]; exact hn, qq σ _ ?_⟩
            rw [← e3]
            have s9 := S.slotBack s2 hu (R0.mutL r0 (rs.set rd n))
            exact s9.drop.drop
          | _ => cases ho3
        | dK kvs =>
          obtain ⟨k, hk, e3⟩ := Option.bind_eq_some_iff.mp (show (dKey kd).bind (fun k => if small kvs.length then some (O.dK (LR.putK kvs k d)) else none) = some o' from ho3)
          split at e3
          · rename_i hz
            have e3 := Option.some.inj e3
            obtain ⟨f, t⟩ := r0.mem List.mem_cons_self
            obtain ⟨aa, ws, e4, hH, hks, rs, _⟩ := t
            have ek : i = kV k := key_v hk (rk.vw s0.le)
            have hl : ws.length = kvs.length := by
              have := congrArg List.length hks
              simpa using this
            have hz2 : kvs.length ≤ 100000 := of_decide_eq_true hz
            subst e4
            refine .inr ⟨aa, _, rfl, .inl ⟨ws, k, hH, ek, Nat.lt_of_le_of_lt (by rw [hl]; exact hz2) (by decide), rfl⟩, qq σ _ ?_⟩
            rw [← e3]
            obtain ⟨h1, h2⟩ := putK_rd (k := k) rd hks rs
            have s9 := S.slotBack s2 hu (R0.mut r0 (o' := .dK (LR.putK kvs k d)) (fun _ z => nomatch z) ⟨aa, _, rfl, upd_same, h1, h2, rfl⟩)
            exact s9.drop.drop
          · cases e3
        | _ => cases ho3

/-! ### methods of a name's own list -/
def mId : Mth → String
  | .append => "list.append"
  | .extend => "list.extend"
  | .insert => "list.insert"
  | .pop => "list.pop"
def mName : Mth → Str
  | .append => "append"
  | .extend => "extend"
  | .insert => "insert"
  | .pop => "pop"
theorem mth_rule (m : Mth) : ∃ r, MtR X (mId m) r ∧ ∀ {F H : Hp} {l : Addr} {xs vs : List V} {ls ds ls' : List D} {d : D} {Q : VK}, Le F H → H l = some (.lst xs) → RDs X.K F ls xs → RDs X.K F ds vs → mRun m ls ds = some (ls', d) →
    (∀ (v : V) (xs' : List V), RD X.K F d v → RDs X.K F ls' xs' → Q v (upd H l (.lst xs'))) → r (.ref l) vs H Q := by
  have one : ∀ {F : Hp} {d : D} {vs : List V}, RDs X.K F [d] vs → ∃ v, vs = [v] ∧ RD X.K F d v := fun h => by
    unfold RDs at h
    obtain ⟨v, r, e, h1, h2⟩ := h
    unfold RDs at h2
    exact ⟨v, by rw [e, h2], h1⟩
  have two : ∀ {F : Hp} {d d' : D} {vs : List V}, RDs X.K F [d, d'] vs → ∃ v w, vs = [v, w] ∧ RD X.K F d v ∧ RD X.K F d' w := fun h => by
    unfold RDs at h
    obtain ⟨v, r, e, h1, h2⟩ := h
    unfold RDs at h2
    obtain ⟨w, r2, e2, h3, h4⟩ := h2
    unfold RDs at h4
    exact ⟨v, w, by rw [e, e2, h4], h1, h3⟩
  have non : ∀ {F : Hp}, RD X.K F .non .non := by
    intro F
    unfold RD
    rfl
  have lt : ∀ {n : Nat}, LR.small n = true → n < sizeLine := fun {n} h => Nat.lt_of_le_of_lt (of_decide_eq_true h) (by decide)
  cases m with
  | append =>
    refine ⟨_, mt_append, fun {F H l xs vs ls ds ls' d Q} le hH hr ha h q => ?_⟩
    match ds, ha, h with
    | [y], ha, h =>
      obtain ⟨v, ev, rv⟩ := one ha
      have h : (if LR.small ls.length = true then some (ls ++ [y], D.non) else none) = some (ls', d) := h
      split at h
      · rename_i hz
        cases h
        rw [ev]
        exact ⟨l, xs, v, rfl, rfl, hH, by rw [hr.length]; exact lt hz, q _ _ non (hr.append (.cons rv .nil))⟩
      · cases h
    | [], _, h => cases h
    | _ :: _ :: _, _, h => cases h
  | extend =>
    refine ⟨_, mt_extend, fun {F H l xs vs ls ds ls' d Q} le hH hr ha h q => ?_⟩
    match ds, ha, h with
    | [.lst es], ha, h =>
      obtain ⟨v, ev, rv⟩ := one ha
      have h : (if LR.small (ls.length + es.length) = true then some (ls ++ es, D.non) else none) = some (ls', d) := h
      split at h
      · rename_i hz
        cases h
        unfold RD at rv
        obtain ⟨b, zs, e2, hF, rz⟩ := rv
        rw [ev, e2]
        exact ⟨l, b, xs, zs, rfl, rfl, hH, le _ _ hF, by rw [hr.length, rz.length]; exact size_ok hz, q _ _ non (hr.append rz)⟩
      · cases h
    | [], _, h => cases h
    | [.non], _, h => cases h
    | [.bl _], _, h => cases h
    | [.int _], _, h => cases h
    | [.str _], _, h => cases h
    | [.tup _], _, h => cases h
    | [.scr _], _, h => cases h
    | [.dK _ _], _, h => cases h
    | _ :: _ :: _, _, h => simp [mRun] at h
  | insert =>
    refine ⟨_, mt_insert, fun {F H l xs vs ls ds ls' d Q} le hH hr ha h q => ?_⟩
    match ds, ha, h with
    | [.int i, y], ha, h =>
      obtain ⟨v, w, ev, rv, rw'⟩ := two ha
      have h : (if LR.small ls.length = true ∧ 0 ≤ i ∧ i < 100000 then some (ls.take i.toNat ++ [y] ++ ls.drop i.toNat, D.non) else none) = some (ls', d) := h
      split at h
      · rename_i hz
        cases h
        unfold RD at rv
        rw [ev, rv]
        exact ⟨l, xs, i, w, rfl, rfl, hH, by rw [hr.length]; exact lt hz.1, hz.2.1, by omega, q _ _ non (((hr.take _).append (.cons rw' .nil)).append (hr.drop _))⟩
      · cases h
    | [], _, h => cases h
    | [_], _, h => simp [mRun] at h
    | [.non, _], _, h => cases h
    | [.bl _, _], _, h => cases h
    | [.lst _, _], _, h => cases h
    | [.str _, _], _, h => cases h
    | [.tup _, _], _, h => cases h
    | [.scr _, _], _, h => cases h
    | [.dK _ _, _], _, h => cases h
    | _ :: _ :: _ :: _, _, h => simp [mRun] at h
  | pop =>
    refine ⟨_, mt_popAt, fun {F H l xs vs ls ds ls' d Q} le hH hr ha h q => ?_⟩
    match ds, ha, h with
    | [.int i], ha, h =>
      obtain ⟨v, ev, rv⟩ := one ha
      have h : (if -100000 ≤ i ∧ i < 100000 then (seqIndex? i ls.length).bind fun k => (ls[k]?).map fun y => (ls.eraseIdx k, y) else none) = some (ls', d) := h
      split at h
      · rename_i hz
        obtain ⟨k, hk, h⟩ := Option.bind_eq_some_iff.mp h
        obtain ⟨y, hy, h⟩ := Option.map_eq_some_iff.mp h
        cases h
        unfold RD at rv
        obtain ⟨w, hw, ry⟩ := hr.get hy
        rw [ev, rv]
        exact ⟨l, xs, i, k, w, rfl, rfl, hH, by omega, by omega, by rw [hr.length]; exact hk, hw, q _ _ ry (hr.eraseIdx k)⟩
      · cases h
    | [], _, h => cases h
    | [.non], _, h => cases h
    | [.bl _], _, h => cases h
    | [.lst _], _, h => cases h
    | [.str _], _, h => cases h
    | [.tup _], _, h => cases h
    | [.scr _], _, h => cases h
    | [.dK _ _], _, h => cases h
    | _ :: _ :: _, _, h => simp [mRun] at h
theorem mth_slot (m : Mth) : Slot "list" (mName m) (mId m) := by
  cases m with
  | append => exact PySem.F.slot_list_append
  | extend => exact PySem.F.slot_list_extend
  | insert => exact PySem.F.slot_list_insert
  | pop => exact PySem.F.slot_list_pop
theorem mth_type (m : Mth) : typeOf (.builtin (mId m)) = pure (.type "method_descriptor") := by
  cases m with
  | append => exact PySem.F.type_list_append
  | extend => exact PySem.F.type_list_extend
  | insert => exact PySem.F.type_list_insert
  | pop => exact PySem.F.type_list_pop
theorem px_mth {m : Mth} {j : Nat} {x : Str} {es : List Expr} {fs : List (M D)} (hN : X.N[j]? = some x) (hv : Vis X.env.scope x) (hd : (x == ("__debug__" : Str)) = false) (hcd : (x == ("__classdict__" : Str)) = false)
    (ha : PAA X W cl (a :: es) (allM fs)) (hs : ∀ x ∈ a :: es, ∀ y p, x ≠ .Starred y p) (hl : (apos.endLine == pos.line) = true) (hn : es.length < 20) :
    PX X W cl (.Call (.Attribute (.Name x npos) (mName m) apos) (a :: es) [] pos) (xMth m j fs) := by
  obtain ⟨r, hm, hr⟩ := mth_rule (X := X) m
  have h1 := plain_star (env := X.env) (es := es) (hs a List.mem_cons_self)
  have h2 := plain_any (env := X.env) (pos := pos) fun x hx => hs x (List.mem_cons_of_mem _ hx)
  have h3 := plain_any (env := X.env) (pos := pos) hs
  have hall : ∀ {l : List (Bool × Sem Value)}, l.any (·.1) = false → l.all (fun x => !x.1) = true := by
    intro l
    induction l with
    | nil => exact fun _ => rfl
    | cons p l ih =>
      intro h
      rw [List.any_cons, Bool.or_eq_false_iff] at h
      rw [List.all_cons, h.1, ih h.2]
      rfl
  refine (pe_bm PySem.F.plainAttrs_list (mth_slot m) (mth_type m) hm (pe_var hN hv hd hcd) ha rfl ?_ hl h1 h2).imp fun σ H Q ⟨pv, e, rest, s, q⟩ => ?_
  · rw [hall h3]
    have : decide ((a :: es).length + ([] : List Keyword).length + (if ([] : List Keyword).isEmpty then 0 else 1) < 30) = true := by
      refine decide_eq_true ?_
      rw [List.length_cons]
      show es.length + 1 + 0 + 0 < 30
      omega
    rw [this]
    rfl
  · unfold xMth at q
    cases ho : e.at j with
    | none =>
      unfold isOwn at q
      rw [ho] at q
      exact q.elim
    | some o =>
      cases o with
      | lst l0 =>
        have hi : isOwn e j = true := by
          unfold isOwn
          rw [ho]
        rw [if_pos hi, post_bind] at q
        obtain ⟨u, hu, r0⟩ := s.slot ho
        obtain ⟨aa, xs, e9, hH, _⟩ := r0.lst
        refine ⟨u, hu, ?_, pv, e, rest, s, q.imp (fun ds e1 q vs H1 hl s1 => ?_) fun _ _ z => z⟩
        · rw [e9]
          exact .inl ⟨rfl, xs, .inl (.inl hH)⟩
        · cases ho1 : e1.at j with
          | none =>
            unfold ownL at q
            rw [ho1] at q
            exact q.elim
          | some o1 =>
            cases o1 with
            | lst ls =>
              unfold ownL at q
              rw [ho1] at q
              have q : post (match mRun m ls ds with | some r => Res.ok (O.frz r.2) (e1.set j (some (.lst r.1))) | none => .fail) _ _ := q
              cases hmr : mRun m ls ds with
              | none =>
                rw [hmr] at q
                exact q.elim
              | some rr =>
                rw [hmr] at q
                obtain ⟨F, s0⟩ := s1.opn
                have rds := S0.parts s0 hl
                obtain ⟨u2, hu2, p⟩ := Cov.get s0.cov (Env.at_get ho1)
                rw [hu] at hu2
                cases hu2
                have r1 := s0.res.perm (p.append_right _)
                obtain ⟨f, t⟩ := r1.mem List.mem_cons_self
                obtain ⟨bb, ys, e4, hH1, rs, _⟩ := t
                subst e4
                refine hr s0.le hH1 rs rds (show mRun m ls ds = some (rr.1, rr.2) from hmr) fun w xs' rw' rxs => q w _ ?_
                have r2 : R0 X.K F H1 ((.ref bb, .lst ls) :: (w, .frz rr.2) :: (pairs (e1.set j none) σ ++ (vs.zip (ds.map O.frz) ++ rest))) := (r1.der rw').perm (.swap _ _ _)
                have r3 := r2.mutL rxs
                have s3 : S X.K pv (e1.set j (some (.lst rr.1))) σ ((w, .frz rr.2) :: (vs.zip (ds.map O.frz) ++ rest)) _ := S.slotBack s1 hu (r3.perm (.cons _ perm_in.symm))
                exact s3.noparts
            | frz d =>
              unfold ownL at q
              rw [ho1] at q
              exact q.elim
            | dK d =>
              unfold ownL at q
              rw [ho1] at q
              exact q.elim
            | dT d =>
              unfold ownL at q
              rw [ho1] at q
              exact q.elim
      | frz d =>
        unfold isOwn at q
        rw [ho] at q
        exact q.elim
      | dK d =>
        unfold isOwn at q
        rw [ho] at q
        exact q.elim
      | dT d =>
        unfold isOwn at q
        rw [ho] at q
        exact q.elim
end
end LR

set_option Elab.async false
set_option linter.all false
set_option maxRecDepth 100000
set_option maxHeartbeats 2000000
/-! Comprehensions. -/
namespace LR
open PySem L2

/-! ### names set aside -/
def Clean (vs : List Nat) (e : Env) : Prop := ∀ v ∈ vs, e.at v = none
theorem at_set_none {e : Env} {v w : Nat} : Env.at (e.set w none) v = if v = w then none else e.at v := by
  unfold Env.at
  by_cases h : v = w
  · rw [if_pos h, h]
    by_cases hl : w < e.length
    · rw [List.getElem?_set_self hl]
      rfl
    · rw [List.getElem?_eq_none (by rw [List.length_set]; omega)]
      rfl
  · rw [if_neg h, List.getElem?_set_ne (fun z => h z.symm)]
theorem wipeE_at {e : Env} : ∀ {vs : List Nat} {v : Nat}, (wipeE e vs).at v = if v ∈ vs then none else e.at v
  | [], v => by
    unfold wipeE
    simp
  | w :: vs, v => by
    unfold wipeE
    rw [at_set_none, wipeE_at]
    by_cases h : v = w
    · simp [h]
    · simp [h]
theorem wipeE_clean {e : Env} {vs : List Nat} : Clean vs (wipeE e vs) := fun v hv => by rw [wipeE_at, if_pos hv]
section
variable {K : PySem.W.Frag} {pv : Nat → Option V} {e : Env} {σ : L2.St} {m rest : List (V × O)} {H : Hp}
theorem S.clr {i : Nat} (s : S K pv e σ m H) : S K pv (e.set i none) σ m H := by
  obtain ⟨c, k, p⟩ := Cov.clear (i := i) s.cov
  refine ⟨c, s.pin, ?_⟩
  have r := s.res.perm (p.append_right m)
  rw [List.append_assoc] at r
  exact r.drop
theorem S.wipeE : ∀ {vs : List Nat}, S K pv e σ m H → S K pv (LR.wipeE e vs) σ m H
  | [], s => s
  | v :: vs, s => S.clr (S.wipeE (vs := vs) s)
theorem cov_set {x : Option V} : ∀ {e : Env} {σ : L2.St} {v : Nat}, e.at v = none → (Cov e (σ.set v x) ↔ Cov e σ) ∧ pairs e (σ.set v x) = pairs e σ
  | [], [], _, _ => ⟨Iff.rfl, rfl⟩
  | [], _ :: _, 0, _ => ⟨Iff.rfl, rfl⟩
  | [], _ :: _, _ + 1, _ => ⟨Iff.rfl, rfl⟩
  | _ :: _, [], _, _ => ⟨Iff.rfl, rfl⟩
  | none :: e, y :: σ, 0, _ => ⟨Iff.rfl, rfl⟩
  | some o :: e, y :: σ, 0, h => by cases h
  | none :: e, y :: σ, v + 1, h => by
    have h2 : Env.at e v = none := h
    exact ⟨(cov_set (v := v) h2).1, (cov_set (v := v) h2).2⟩
  | some o :: e, some y :: σ, v + 1, h => by
    have h2 : Env.at e v = none := h
    refine ⟨(cov_set (v := v) h2).1, ?_⟩
    show (y, o) :: pairs e (σ.set v x) = (y, o) :: pairs e σ
    rw [(cov_set (v := v) h2).2]
  | some o :: e, none :: σ, v + 1, h => by
    have h2 : Env.at e v = none := h
    exact ⟨Iff.rfl, (cov_set (v := v) h2).2⟩
theorem cov_wipe : ∀ {vs : List Nat}, Clean vs e → (Cov e (wipe σ vs) ↔ Cov e σ) ∧ pairs e (wipe σ vs) = pairs e σ
  | [], _ => ⟨Iff.rfl, rfl⟩
  | v :: vs, h => by
    have ih := cov_wipe (vs := vs) fun w hw => h w (List.mem_cons_of_mem _ hw)
    have h1 : (Cov e ((wipe σ vs).set v none) ↔ Cov e (wipe σ vs)) ∧ pairs e ((wipe σ vs).set v none) = pairs e (wipe σ vs) := cov_set (h v List.mem_cons_self)
    unfold wipe
    exact ⟨h1.1.trans ih.1, h1.2.trans ih.2⟩
def pinB (vs : List Nat) (pv : Nat → Option V) : Nat → Option V := fun i => if i ∈ vs then none else pv i
theorem wipe_get {vs : List Nat} {j : Nat} (h : j ∉ vs) : (wipe σ vs)[j]? = σ[j]? := by
  induction vs with
  | nil => rfl
  | cons v vs ih =>
    unfold wipe
    rw [List.getElem?_set_ne (fun z => h (by rw [z]; exact List.mem_cons_self)), ih fun z => h (List.mem_cons_of_mem _ z)]
theorem wipe_in {vs : List Nat} {j : Nat} (h : j ∈ vs) (hl : j < σ.length) : (wipe σ vs)[j]? = some none := by
  induction vs with
  | nil => cases h
  | cons v vs ih =>
    unfold wipe
    by_cases z : v = j
    · rw [z, List.getElem?_set_self (by rw [wipe_length]; exact hl)]
    · rw [List.getElem?_set_ne z]
      rcases List.mem_cons.mp h with y | y
      · exact absurd y.symm z
      · exact ih y
theorem S.toBlk {vs : List Nat} (s : S K pv e σ m H) (h : Clean vs e) : S K (pinB vs pv) e (wipe σ vs) m H := by
  obtain ⟨h1, h2⟩ := cov_wipe (σ := σ) h
  refine ⟨h1.mpr s.cov, fun i v hv => ?_, by rw [h2]; exact s.res⟩
  unfold pinB at hv
  split at hv
  · cases hv
  · rename_i hi
    rw [wipe_get hi]
    exact s.pin i v hv
theorem S.ofBlk {vs : List Nat} {pv' : Nat → Option V} (s : S K pv' e (wipe σ vs) m H) (h : Clean vs e) (hp : ∀ i v, pv i = some v → σ[i]? = some (some v)) : S K pv e σ m H := by
  obtain ⟨h1, h2⟩ := cov_wipe (σ := σ) h
  exact ⟨h1.mp s.cov, hp, by rw [← h2]; exact s.res⟩
theorem wipe_same {vs is : List Nat} {σ σ' : L2.St} (h : Same is (wipe σ vs) σ') (hs : ∀ i ∈ is, i ∈ vs) : wipe σ' vs = wipe σ vs := by
  refine List.ext_getElem? fun j => ?_
  have hl : σ'.length = σ.length := by rw [h.1, wipe_length]
  by_cases hj : j ∈ vs
  · by_cases hlt : j < σ.length
    · rw [wipe_in hj (by rw [hl]; exact hlt), wipe_in hj hlt]
    · rw [List.getElem?_eq_none (by rw [wipe_length, hl]; omega), List.getElem?_eq_none (by rw [wipe_length]; omega)]
  · rw [wipe_get hj, wipe_get hj, h.2 j fun z => hj (hs j z), wipe_get hj]
theorem has_slots {m : List (V × O)} (c : Cov e σ) : ∀ {lv : List Nat}, (∀ v ∈ lv, (e.at v).isSome = true) → ∃ vals, HasAll σ m (lv.map Opd.slot) vals
  | [], _ => ⟨[], trivial⟩
  | v :: lv, h => by
    obtain ⟨vals, hv⟩ := has_slots (m := m) c (lv := lv) fun w hw => h w (List.mem_cons_of_mem _ hw)
    obtain ⟨o, ho⟩ := Option.isSome_iff_exists.mp (h v List.mem_cons_self)
    obtain ⟨u, hu, _⟩ := Cov.get c (Env.at_get ho)
    exact ⟨u :: vals, hu, hv⟩
theorem pairs_zip : ∀ {os : List O} {vals : List V}, pairs (os.map some) (vals.map some) = vals.zip os
  | [], [] => rfl
  | [], _ :: _ => rfl
  | _ :: _, [] => rfl
  | o :: os, v :: vals => by
    show (v, o) :: pairs (os.map some) (vals.map some) = _
    rw [pairs_zip]
    rfl
/-- what a comprehension's block begins with, and how all comes back -/
theorem aside_ok {α : Type} {vs : List Nat} {f : M α} {r : α} {e3 : Env} (s : S K pv e σ m H) (h : aside vs f e = .ok r e3) :
    ∃ (saved : List (V × O)) (e1 e2 : Env), S K (pinB vs pv) e1 (wipe σ vs) (m ++ saved) H ∧ Clean vs e1 ∧ f e1 = .ok r e2 ∧
      ∀ {l : List (V × O)} {H' : Hp}, S K (pinB vs pv) e2 (wipe σ vs) (l ++ saved) H' → Clean vs e2 → S K pv e3 σ l H' := by
  unfold aside at h
  generalize hlv : (vs.filter fun v => (e.at v).isSome) = lv at h
  cases ht : takeS (lv.map .slot) e with
  | none =>
    rw [ht] at h
    cases h
  | some p =>
    obtain ⟨os, e0⟩ := p
    rw [ht] at h
    dsimp only at h
    cases hf : f (LR.wipeE e0 vs) with
    | fail =>
      rw [hf] at h
      cases h
    | exc c e2 =>
      rw [hf] at h
      cases h
    | ok a e2 =>
      rw [hf] at h
      obtain ⟨h1, h2⟩ := Res.ok.inj h
      subst h1
      obtain ⟨vals, ha⟩ := has_slots (m := m) s.cov (lv := lv) fun v hv => by
        rw [← hlv] at hv
        exact (List.mem_filter.mp hv).2
      obtain ⟨s1, l1, l2⟩ := take_ok s ha ht
      have s2 := (s1.wipeE (vs := vs)).toBlk wipeE_clean
      refine ⟨vals.zip os, _, e2, s2.go fun l r => r.perm (List.perm_append_comm.append_right l), wipeE_clean, hf, fun {l H'} s3 hc => ?_⟩
      have s4 : S K pv e2 σ (l ++ vals.zip os) H' := s3.ofBlk hc s.pin
      rw [← h2]
      have s5 := put_ok (rest := []) (l := l) (m := m) (outs := os.map some) (by rw [pairs_zip, List.append_nil]; exact s4) ha
      rw [List.append_nil] at s5
      exact s5
end

/-! ### one source -/
theorem lc_step {vs : List Nat} {tg : Tg} {tt : M Bool} {te : M O} {acc ds l : List D} {d : D} {e e3 : Env} (h : lcLoop vs tg tt te acc (d :: ds) e = .ok l e3) :
    small acc.length = true ∧ ∃ e1, tg.put d e = some e1 ∧ ((∃ e2 y e4, tt e1 = .ok true e2 ∧ toV te e2 = .ok y e4 ∧ lcLoop vs tg tt te (acc ++ [y]) ds (wipeE e4 vs) = .ok l e3) ∨ ∃ e2, tt e1 = .ok false e2 ∧ lcLoop vs tg tt te acc ds (wipeE e2 vs) = .ok l e3) := by
  unfold lcLoop at h
  split at h
  · rename_i hz
    refine ⟨hz, ?_⟩
    cases hp : tg.put d e with
    | none =>
      rw [hp] at h
      cases h
    | some e1 =>
      rw [hp] at h
      refine ⟨e1, rfl, ?_⟩
      dsimp only at h
      cases ht : tt e1 with
      | fail =>
        rw [ht] at h
        cases h
      | exc c e2 =>
        rw [ht] at h
        cases h
      | ok b e2 =>
        rw [ht] at h
        cases b with
        | false => exact .inr ⟨e2, rfl, h⟩
        | true =>
          dsimp only at h
          cases hv : toV te e2 with
          | fail =>
            rw [hv] at h
            cases h
          | exc c e2 =>
            rw [hv] at h
            cases h
          | ok y e4 =>
            rw [hv] at h
            exact .inl ⟨e2, y, e4, rfl, hv, h⟩
  · cases h
abbrev W0 : WX := fun _ _ _ _ => False
section
variable {X : Cx} {W : WX} {cl : Str → Value} {a b tg : Expr} {pos : Pos} {fx te tk : M O} {ft : M Bool} {t : Tg} {src : M (List D)}
theorem _root_.L2.PTs.imp {X : Cx} {e : List Expr} {t t' : TT} (h : PTs X e t) (i : ∀ σ H Q, t' σ H Q → t σ H Q) : PTs X e t' := ⟨fun pins s σ H Q I q => h.run pins s σ H Q I (i σ H Q q)⟩
abbrev PTTs (X : Cx) (W : WX) (cl : Str → Value) (a : List Expr) (f : M Bool) : Prop := PTs X a (rT X.K W cl f)
theorem pts_n : PTTs X W cl [] bYes := pts_nil.imp fun σ H Q ⟨pv, e, rest, s, q⟩ => q H s
theorem pts_1 (h : PTT X W cl a ft) : PTTs X W cl [a] ft := pts_one h
/-- the block's parts, whatever the block's own dict and cells are -/
structure Blk (X : Cx) (scope : Scope) (own : List (Str × Nat)) : Prop where
  ok : BlkOk X.N X.env.scope scope own
theorem lst_fit {n : Nat} (h : small n = true) : n < sizeLine := Nat.lt_of_le_of_lt (of_decide_eq_true h) (by decide)
theorem lcq0 {K : PySem.W.Frag} {Q : VK} {pv : Nat → Option V} {e : Env} {σ : L2.St} {rest : List (V × O)} {vs : List Nat} {J : It} {w : List (V × O)} {H1 : Hp} {items l : List D} {e3 : Env} (hsub : subL t.slots vs = true) (s1 : S K pv e σ (w ++ rest) H1) (G : Gives K J w items)
    (ha : aside vs (lcLoop vs t ft te [] items) e = .ok l e3) (hq : ∀ v H', S K pv e3 σ (w ++ ((v, .lst l) :: rest)) H' → Q v H') :
    ∀ D, H1 D = none → ∃ Wf : Nat → Nat → Hp → Prop, (∃ m, Wf 0 m (upd H1 D (.lst []))) ∧ ∀ i m H, Wf i m H →
      (J.stop i H ∧ Q (.ref D) H) ∨ (J.go i H ∧ ∃ Nx : Hp → Prop, (∀ H', Nx H' → ∃ m', m' < m ∧ Wf (i + 1) m' H') ∧ ∀ x H', J.yld i H x H' → rG K t x (wipe σ vs) H' fun σ2 H2 => wipe σ2 vs = wipe σ vs ∧ rT K W0 cl ft σ2 H2 fun b H3 =>
        if b = true then rV K W0 cl (toV te) σ2 H3 fun y H4 => ∃ acc, H4 D = some (.lst acc) ∧ acc.length < sizeLine ∧ Nx (upd H4 D (.lst (acc ++ [y]))) else Nx H3) := by
  intro D hD
  obtain ⟨saved, e1, e2, s2, hc1, hf, back⟩ := aside_ok s1 ha
  have hsl : ∀ i ∈ t.slots, i ∈ vs := fun i hi => by
    have := List.all_eq_true.mp hsub i hi
    simpa using this
  obtain ⟨F, s0⟩ := s2.opn
  have s3 := s0.mkL hD (F := F) (ds := []) (vs := []) .nil
  have ord : ∀ {x : V × O}, (x :: (w ++ rest ++ saved)).Perm (w ++ (x :: (rest ++ saved))) := by
    intro x
    rw [List.append_assoc]
    exact List.perm_middle.symm
  have s4 : S K (pinB vs pv) e1 (wipe σ vs) (w ++ ((.ref D, .lst []) :: (rest ++ saved))) (upd H1 D (.lst [])) := s3.go fun l r => r.perm (ord.append_right l)
  refine ⟨fun i m H => ∃ e acc, m = items.length - i ∧ i ≤ items.length ∧ S K (pinB vs pv) e (wipe σ vs) (w ++ ((.ref D, .lst acc) :: (rest ++ saved))) H ∧ Clean vs e ∧ lcLoop vs t ft te acc (items.drop i) e = .ok l e2, ⟨_, e1, [], rfl, Nat.zero_le _, s4, hc1, hf⟩, ?_⟩
  rintro i m H ⟨e, acc, rfl, hi, s, hc, hl⟩
  by_cases hlt : i < items.length
  · obtain ⟨go, yl⟩ := (G i H _ s.mid).1 _ (List.getElem?_eq_getElem hlt)
    rw [drop_step hlt] at hl
    obtain ⟨hz, e5, hput, alt⟩ := lc_step hl
    refine .inr ⟨go, fun H' => ∃ e acc, S K (pinB vs pv) e (wipe σ vs) (w ++ ((.ref D, .lst acc) :: (rest ++ saved))) H' ∧ Clean vs e ∧ lcLoop vs t ft te acc (items.drop (i + 1)) e = .ok l e2, fun H' ⟨e, acc, s', c', q'⟩ => ⟨items.length - (i + 1), by omega, e, acc, rfl, hlt, s', c', q'⟩, fun v H' y => ?_⟩
    have s5 := s.unmid (yl v H' y)
    refine ⟨pinB vs pv, e, _, items[i], e5, s5, fun j hj => by unfold pinB; rw [if_pos (hsl j hj)], hput, fun σ' sm s6 => ?_⟩
    have hw := wipe_same sm hsl
    refine ⟨hw, pinB vs pv, e5, _, s6, ?_⟩
    have hpp : pinB vs (pinB vs pv) = pinB vs pv := by
      funext i
      unfold pinB
      split <;> rfl
    rcases alt with ⟨e6, y, e7, ht, hv, hl⟩ | ⟨e6, ht, hl⟩
    · rw [ht]
      intro H7 s7
      dsimp only
      rw [if_pos rfl]
      refine ⟨pinB vs pv, e6, _, s7, ?_⟩
      rw [hv]
      intro yv H8 s8
      have s9 : S K (pinB vs pv) e7 σ' ((.ref D, .lst acc) :: ((yv, .frz y) :: (w ++ (rest ++ saved)))) H8 := s8.go fun l r => by
        refine r.perm (List.Perm.append_right l ?_)
        exact (List.Perm.cons _ List.perm_middle).trans (.swap _ _ _)
      obtain ⟨F, s10⟩ := s9.opn
      have hy : RD K F y yv := frz_in s10 (List.mem_cons_of_mem _ List.mem_cons_self)
      obtain ⟨f, tt⟩ := s10.res.mem (List.mem_append_right _ List.mem_cons_self)
      obtain ⟨bb, xs, eb, hH, rs, _⟩ := tt
      cases eb
      refine ⟨xs, hH, by rw [rs.length]; exact lst_fit hz, wipeE e7 vs, acc ++ [y], ?_, wipeE_clean, hl⟩
      have r11 := (s10.res.perm perm_in).mutL (rs.append (.cons hy .nil))
      have s11 : S K (pinB vs pv) e7 σ' ((.ref D, .lst (acc ++ [y])) :: ((yv, .frz y) :: (w ++ (rest ++ saved)))) _ := S.back s10.cov s10.pin r11
      have s12 : S K (pinB vs pv) e7 σ' (w ++ ((.ref D, .lst (acc ++ [y])) :: (rest ++ saved))) _ := s11.drop2.go fun l r => r.perm (List.Perm.append_right l List.perm_middle.symm)
      have s13 := (s12.wipeE (vs := vs)).toBlk wipeE_clean
      rw [hpp, hw] at s13
      exact s13
    · rw [ht]
      intro H7 s7
      dsimp only
      rw [if_neg Bool.false_ne_true]
      refine ⟨wipeE e6 vs, acc, ?_, wipeE_clean, hl⟩
      have s13 := (s7.wipeE (vs := vs)).toBlk wipeE_clean
      rw [hpp, hw] at s13
      exact s13
  · have e9 : i = items.length := by omega
    refine .inl ⟨(G i H _ s.mid).2 e9, ?_⟩
    have e10 : items.drop i = [] := List.drop_of_length_le (by omega)
    rw [e10] at hl
    unfold lcLoop at hl
    obtain ⟨h1, h2⟩ := Res.ok.inj hl
    subst h1 h2
    have s14 : S K (pinB vs pv) e (wipe σ vs) (w ++ ((.ref D, .lst acc) :: rest) ++ saved) H := s.go fun l r => r.perm (List.Perm.append_right l (by rw [List.append_assoc]; exact .refl _))
    exact hq _ H (back s14 hc)
theorem lcq {K : PySem.W.Frag} {Q : VK} {pv : Nat → Option V} {e : Env} {σ : L2.St} {rest : List (V × O)} {vs : List Nat} {J : It} {w : List (V × O)} {H1 : Hp} {items l : List D} {e3 : Env} (hsub : subL t.slots vs = true) (s1 : S K pv e σ (w ++ rest) H1) (G : Gives K J w items)
    (ha : aside vs (lcLoop vs t ft te [] items) e = .ok l e3) (hq : ∀ v H', S K pv e3 σ ((v, .lst l) :: rest) H' → Q v H') :
    ∀ D, H1 D = none → ∃ Wf : Nat → Nat → Hp → Prop, (∃ m, Wf 0 m (upd H1 D (.lst []))) ∧ ∀ i m H, Wf i m H →
      (J.stop i H ∧ Q (.ref D) H) ∨ (J.go i H ∧ ∃ Nx : Hp → Prop, (∀ H', Nx H' → ∃ m', m' < m ∧ Wf (i + 1) m' H') ∧ ∀ x H', J.yld i H x H' → rG K t x (wipe σ vs) H' fun σ2 H2 => wipe σ2 vs = wipe σ vs ∧ rT K W0 cl ft σ2 H2 fun b H3 =>
        if b = true then rV K W0 cl (toV te) σ2 H3 fun y H4 => ∃ acc, H4 D = some (.lst acc) ∧ acc.length < sizeLine ∧ Nx (upd H4 D (.lst (acc ++ [y]))) else Nx H3) := lcq0 (cl := cl) hsub s1 G ha fun v H' s' => hq v H' s'.nopart
/-- a comprehension over a name's own list: the list is kept aside, and given back -/
def xLcO (vs : List Nat) (t : Tg) (j : Nat) (tt : M Bool) (te : M O) : M O := fun e => match e.at j with
  | some (.lst items) => if subL t.slots vs then (aside vs (lcLoop vs t tt te [] items) (e.set j none)).bind fun l e2 => .ok (.lst l) (e2.set j (some (.lst items))) else .fail
  | _ => .fail
theorem own_gives {K : PySem.W.Frag} {a : Addr} {items : List D} : Gives K (Itl K a) [(.ref a, .lst items)] items := fun i H l r => by
  obtain ⟨F, r0⟩ := r
  obtain ⟨f, b, vs, eb, hH, rs, _⟩ := r0.mem List.mem_cons_self
  cases eb
  refine ⟨fun d1 hd1 => ?_, fun ei => ⟨vs, .inl (.inl hH), by rw [rs.length]; omega⟩⟩
  obtain ⟨u, hu, ru⟩ := rs.idx hd1
  refine ⟨⟨vs, u, .inl (.inl hH), hu⟩, fun w H' ⟨eH, hw⟩ => ?_⟩
  rw [eH]
  have := hw vs (.inl (.inl hH))
  rw [hu] at this
  cases this
  exact ⟨F, r0.der ru⟩
theorem px_lcO {j : Nat} {ifs : List Expr} {scope : Scope} {own : List (Str × Nat)} (hc : X.calm = true) (hN : X.N.Nodup) (hi : PR X W cl a (rVar j)) (ok : BlkOk X.N X.env.scope scope own)
    (hg : ∀ (s : Shared) (H : Hp) (C : Addr) (cs : List (Str × Addr)) (fp : List Addr), PGG (X.blk s H scope (compEnvC scope cs C X.env) fp) tg t)
    (ht : ∀ (s : Shared) (H : Hp) (C : Addr) (cs : List (Str × Addr)) (fp : List Addr), PTTs (X.blk s H scope (compEnvC scope cs C X.env) fp) W0 cl ifs ft)
    (he : ∀ (s : Shared) (H : Hp) (C : Addr) (cs : List (Str × Addr)) (fp : List Addr), PX (X.blk s H scope (compEnvC scope cs C X.env) fp) W0 cl b te) (hs : ∀ x, foldedSetIterable a X.env x = pure x) :
    PX X W cl (.ListComp b [⟨tg, a, ifs, 0⟩] scope pos) (xLcO (own.map (·.2)) t j ft te) :=
  (pe_lc hc hN (pi_any hi) ok hg ht (fun s H C cs fp => pv_of (he s H C cs fp)) hs).imp fun σ H Q ⟨pv, e, rest, s, q⟩ => by
    unfold xLcO at q
    cases hj : e.at j with
    | none =>
      rw [hj] at q
      exact q.elim
    | some o =>
      rw [hj] at q
      cases o with
      | lst items =>
        dsimp only at q
        split at q
        case isFalse => exact q.elim
        rename_i hsub
        rw [post_bind] at q
        refine ⟨pv, e, rest, s, ?_⟩
        unfold rVar
        rw [hj]
        intro v H1 hv s1
        have ha : HasAll σ rest [Opd.slot j] [v] := ⟨hv, trivial⟩
        have htk : takeS [Opd.slot j] e = some ([.lst items], e.set j none) := by
          unfold takeS
          rw [hj]
          rfl
        have s2 : S X.K pv (e.set j none) σ ([(v, O.lst items)] ++ rest) H1 := (take_ok s1 ha htk).1
        obtain ⟨F, s3⟩ := s2.opn
        obtain ⟨f, a', vs, ea, hH, _⟩ := s3.res.mem (List.mem_append_right _ List.mem_cons_self)
        have ea : v = .ref a' := ea
        subst ea
        cases hb : aside (own.map (·.2)) (lcLoop (own.map (·.2)) t ft te [] items) (e.set j none) with
        | fail =>
          rw [hb] at q
          exact q.elim
        | exc c e2 =>
          exfalso
          unfold aside at hb
          split at hb
          · cases hb
          · split at hb <;> cases hb
        | ok l e3 =>
          rw [hb] at q
          refine .inl ⟨a', rfl, ⟨vs, .inl (.inl hH)⟩, lcq0 (cl := cl) hsub s2 own_gives hb fun u H' s' => q u H' ?_⟩
          have s4 : S X.K pv e3 σ ([(u, .lst l)] ++ (pairs [some (O.lst items)] ([V.ref a'].map some) ++ rest)) H' := s'.go fun k r => r.perm (List.Perm.append_right k (.swap _ _ _))
          exact put_ok (outs := [some (O.lst items)]) s4 ha
      | _ => exact q.elim
theorem px_lc {ifs : List Expr} {scope : Scope} {own : List (Str × Nat)} (hc : X.calm = true) (hN : X.N.Nodup) (hi : PSrc X W cl tg a src) (ok : BlkOk X.N X.env.scope scope own)
    (hg : ∀ (s : Shared) (H : Hp) (C : Addr) (cs : List (Str × Addr)) (fp : List Addr), PGG (X.blk s H scope (compEnvC scope cs C X.env) fp) tg t)
    (ht : ∀ (s : Shared) (H : Hp) (C : Addr) (cs : List (Str × Addr)) (fp : List Addr), PTTs (X.blk s H scope (compEnvC scope cs C X.env) fp) W0 cl ifs ft)
    (he : ∀ (s : Shared) (H : Hp) (C : Addr) (cs : List (Str × Addr)) (fp : List Addr), PX (X.blk s H scope (compEnvC scope cs C X.env) fp) W0 cl b te) (hs : ∀ x, foldedSetIterable a X.env x = pure x) :
    PX X W cl (.ListComp b [⟨tg, a, ifs, 0⟩] scope pos) (xLc (own.map (·.2)) t src ft te) :=
  (pe_lc hc hN hi ok hg ht (fun s H C cs fp => pv_of (he s H C cs fp)) hs).imp fun σ H Q ⟨pv, e, rest, s, q⟩ => by
    unfold xLc at q
    rw [post_bind] at q
    refine ⟨pv, e, rest, s, q.imp (fun items e1 q J w H1 s1 G => ?_) fun _ _ z => z⟩
    split at q
    case isFalse => exact q.elim
    rename_i hsub
    rw [post_bind] at q
    cases ha : aside (own.map (·.2)) (lcLoop (own.map (·.2)) t ft te [] items) e1 with
    | fail =>
      rw [ha] at q
      exact q.elim
    | exc c e2 =>
      exfalso
      unfold aside at ha
      split at ha
      · cases ha
      · split at ha <;> cases ha
    | ok l e3 =>
      rw [ha] at q
      exact lcq (cl := cl) hsub s1 G ha q
theorem ps_lc {i : Nat} {y : Str} {py : Pos} {ifs : List Expr} {scope : Scope} {own : List (Str × Nat)} {spos : Pos} {P : List Nat} (hc : X.calm = true) (hN : X.N.Nodup) (hy : X.N[i]? = some y) (hyl : X.env.scope.names.lookup y = some .local)
    (hsw : swapsWith (.ListComp b [⟨tg, a, ifs, 0⟩] scope pos) (some (.Name y py)) spos.line X.env = pure true) (hi : PSrc X W cl tg a src) (ok : BlkOk X.N X.env.scope scope own)
    (hg : ∀ (s : Shared) (H : Hp) (C : Addr) (cs : List (Str × Addr)) (fp : List Addr), PGG (X.blk s H scope (compEnvC scope cs C X.env) fp) tg t)
    (ht : ∀ (s : Shared) (H : Hp) (C : Addr) (cs : List (Str × Addr)) (fp : List Addr), PTTs (X.blk s H scope (compEnvC scope cs C X.env) fp) W0 cl ifs ft)
    (he : ∀ (s : Shared) (H : Hp) (C : Addr) (cs : List (Str × Addr)) (fp : List Addr), PX (X.blk s H scope (compEnvC scope cs C X.env) fp) W0 cl b te) (hs : ∀ x, foldedSetIterable a X.env x = pure x) :
    PST X W cl P (.Assign [.Name y py] (.ListComp b [⟨tg, a, ifs, 0⟩] scope pos) spos) (sSet P i (xLc (own.map (·.2)) t src ft te)) :=
  (ps_setLc (g := rG X.K t) (tt := rT X.K W0 cl ft) (te := rV X.K W0 cl (toV te)) hc hN hy hyl hsw hi ok hg ht (fun s H C cs fp => pv_of (he s H C cs fp)) hs).imp fun D σ H ⟨pv, e, rest, s, hp, q⟩ => by
    unfold aft sSet xLc at q
    rw [postS_stm, post_bind] at q
    refine ⟨pv, e, rest, s, q.imp (fun items e1 q J w H1 s1 G => ?_) fun c e1 q H' s' => q σ H' s'⟩
    split at q
    case isFalse => exact q.elim
    rename_i hsub
    rw [post_bind] at q
    cases ha : aside (own.map (·.2)) (lcLoop (own.map (·.2)) t ft te [] items) e1 with
    | fail =>
      rw [ha] at q
      exact q.elim
    | exc c e2 =>
      exfalso
      unfold aside at ha
      split at ha
      · cases ha
      · split at ha <;> cases ha
    | ok l e3 =>
      rw [ha] at q
      refine lcq (cl := cl) (Q := fun x H1 => D.nx (σ.set i (some x)) H1) hsub s1 G ha fun v H' s' => ?_
      have q : postS (if okP P [i] then goOn (put1 i (.lst l) e3) else .fail) _ _ _ _ _ := q
      split at q
      · rename_i hk
        cases hput : put1 i (.lst l) e3 with
        | none =>
          rw [hput] at q
          exact q.elim
        | some e4 =>
          rw [hput] at q
          exact q _ H' (put1_ok s' (okP_of hp hk i List.mem_cons_self) hput)
      · exact q.elim
end
end LR

set_option Elab.async false
set_option linter.all false
set_option maxRecDepth 100000
set_option maxHeartbeats 2000000
/-! Dict comprehensions, two sources. -/
namespace LR
open PySem L2

theorem dc_step {vs : List Nat} {tg : Tg} {tt : M Bool} {tk te : M O} {acc l : List (Key × D)} {ds : List D} {d : D} {e e3 : Env} (h : dcLoop vs tg tt tk te acc (d :: ds) e = .ok l e3) :
    small acc.length = true ∧ ∃ e1, tg.put d e = some e1 ∧ ((∃ e2 kd e4 y e5 k, tt e1 = .ok true e2 ∧ toV tk e2 = .ok kd e4 ∧ toV te e4 = .ok y e5 ∧ dKey kd = some k ∧ dcLoop vs tg tt tk te (LR.putK acc k y) ds (wipeE e5 vs) = .ok l e3) ∨ ∃ e2, tt e1 = .ok false e2 ∧ dcLoop vs tg tt tk te acc ds (wipeE e2 vs) = .ok l e3) := by
  unfold dcLoop at h
  split at h
  · rename_i hz
    refine ⟨hz, ?_⟩
    cases hp : tg.put d e with
    | none =>
      rw [hp] at h
      cases h
    | some e1 =>
      rw [hp] at h
      refine ⟨e1, rfl, ?_⟩
      dsimp only at h
      cases ht : tt e1 with
      | fail =>
        rw [ht] at h
        cases h
      | exc c e2 =>
        rw [ht] at h
        cases h
      | ok b e2 =>
        rw [ht] at h
        cases b with
        | false => exact .inr ⟨e2, rfl, h⟩
        | true =>
          dsimp only at h
          cases hv : toV tk e2 with
          | fail =>
            rw [hv] at h
            cases h
          | exc c e2 =>
            rw [hv] at h
            cases h
          | ok kd e4 =>
            rw [hv] at h
            dsimp only at h
            cases hw : toV te e4 with
            | fail =>
              rw [hw] at h
              cases h
            | exc c e2 =>
              rw [hw] at h
              cases h
            | ok y e5 =>
              rw [hw] at h
              dsimp only at h
              cases hk : dKey kd with
              | none =>
                rw [hk] at h
                cases h
              | some k =>
                rw [hk] at h
                exact .inl ⟨e2, kd, e4, y, e5, k, rfl, hv, hw, hk, h⟩
  · cases h
section
variable {X : Cx} {W : WX} {cl : Str → Value} {a b c tg : Expr} {pos : Pos} {fx te tk : M O} {ft : M Bool} {t : Tg} {src : M (List D)}
theorem dcq {K : PySem.W.Frag} {Q : VK} {pv : Nat → Option V} {e : Env} {σ : L2.St} {rest : List (V × O)} {vs : List Nat} {J : It} {w : List (V × O)} {H1 : Hp} {items : List D} {l : List (Key × D)} {e3 : Env} (hsub : subL t.slots vs = true) (s1 : S K pv e σ (w ++ rest) H1) (G : Gives K J w items)
    (ha : aside vs (dcLoop vs t ft tk te [] items) e = .ok l e3) (hq : ∀ v H', S K pv e3 σ ((v, .dK l) :: rest) H' → Q v H') :
    ∀ D, H1 D = none → ∃ Wf : Nat → Nat → Hp → Prop, (∃ m, Wf 0 m (upd H1 D (.dK []))) ∧ ∀ i m H, Wf i m H →
      (J.stop i H ∧ Q (.ref D) H) ∨ (J.go i H ∧ ∃ Nx : Hp → Prop, (∀ H', Nx H' → ∃ m', m' < m ∧ Wf (i + 1) m' H') ∧ ∀ x H', J.yld i H x H' → rG K t x (wipe σ vs) H' fun σ2 H2 => wipe σ2 vs = wipe σ vs ∧ rT K W0 cl ft σ2 H2 fun b H3 =>
        if b = true then rV K W0 cl (toV tk) σ2 H3 fun y H4 => rV K W0 cl (toV te) σ2 H4 fun z H5 => ∃ kvs k, y = kV k ∧ H5 D = some (.dK kvs) ∧ kvs.length < sizeLine ∧ Nx (upd H5 D (.dK (L2.putK kvs k z))) else Nx H3) := by
  intro D hD
  obtain ⟨saved, e1, e2, s2, hc1, hf, back⟩ := aside_ok s1 ha
  have hsl : ∀ i ∈ t.slots, i ∈ vs := fun i hi => by
    have := List.all_eq_true.mp hsub i hi
    simpa using this
  obtain ⟨F, s0⟩ := s2.opn
  have s3 : S K (pinB vs pv) e1 (wipe σ vs) ((.ref D, .dK []) :: (w ++ rest ++ saved)) (upd H1 D (.dK [])) := S.back s0.cov s0.pin ((s0.res.mk hD ⟨D, [], rfl, upd_same, rfl, .nil, rfl⟩))
  have ord : ∀ {x : V × O}, (x :: (w ++ rest ++ saved)).Perm (w ++ (x :: (rest ++ saved))) := by
    intro x
    rw [List.append_assoc]
    exact List.perm_middle.symm
  have s4 : S K (pinB vs pv) e1 (wipe σ vs) (w ++ ((.ref D, .dK []) :: (rest ++ saved))) (upd H1 D (.dK [])) := s3.go fun l r => r.perm (ord.append_right l)
  refine ⟨fun i m H => ∃ e acc, m = items.length - i ∧ i ≤ items.length ∧ S K (pinB vs pv) e (wipe σ vs) (w ++ ((.ref D, .dK acc) :: (rest ++ saved))) H ∧ Clean vs e ∧ dcLoop vs t ft tk te acc (items.drop i) e = .ok l e2, ⟨_, e1, [], rfl, Nat.zero_le _, s4, hc1, hf⟩, ?_⟩
  rintro i m H ⟨e, acc, rfl, hi, s, hc, hl⟩
  by_cases hlt : i < items.length
  · obtain ⟨go, yl⟩ := (G i H _ s.mid).1 _ (List.getElem?_eq_getElem hlt)
    rw [drop_step hlt] at hl
    obtain ⟨hz, e5, hput, alt⟩ := dc_step hl
    refine .inr ⟨go, fun H' => ∃ e acc, S K (pinB vs pv) e (wipe σ vs) (w ++ ((.ref D, .dK acc) :: (rest ++ saved))) H' ∧ Clean vs e ∧ dcLoop vs t ft tk te acc (items.drop (i + 1)) e = .ok l e2, fun H' ⟨e, acc, s', c', q'⟩ => ⟨items.length - (i + 1), by omega, e, acc, rfl, hlt, s', c', q'⟩, fun v H' y => ?_⟩
    have s5 := s.unmid (yl v H' y)
    refine ⟨pinB vs pv, e, _, items[i], e5, s5, fun j hj => by unfold pinB; rw [if_pos (hsl j hj)], hput, fun σ' sm s6 => ?_⟩
    have hw := wipe_same sm hsl
    refine ⟨hw, pinB vs pv, e5, _, s6, ?_⟩
    have hpp : pinB vs (pinB vs pv) = pinB vs pv := by
      funext i
      unfold pinB
      split <;> rfl
    rcases alt with ⟨e6, kd, e7, y, e8, k, ht, hv, hv2, hkd, hl⟩ | ⟨e6, ht, hl⟩
    · rw [ht]
      intro H7 s7
      dsimp only
      rw [if_pos rfl]
      refine ⟨pinB vs pv, e6, _, s7, ?_⟩
      rw [hv]
      intro kv H8 s8
      refine ⟨pinB vs pv, e7, _, s8, ?_⟩
      rw [hv2]
      intro yv H9 s8
      have s9 : S K (pinB vs pv) e8 σ' ((.ref D, .dK acc) :: ((yv, .frz y) :: (kv, .frz kd) :: (w ++ (rest ++ saved)))) H9 := s8.go fun l r => by
        refine r.perm (List.Perm.append_right l ?_)
        exact ((List.Perm.cons _ (List.Perm.cons _ List.perm_middle)).trans (List.Perm.cons _ (.swap _ _ _))).trans (.swap _ _ _)
      obtain ⟨F, s10⟩ := s9.opn
      have hy : RD K F y yv := frz_in s10 (List.mem_cons_of_mem _ List.mem_cons_self)
      have hk : RD K F kd kv := frz_in s10 (List.mem_cons_of_mem _ (List.mem_cons_of_mem _ List.mem_cons_self))
      obtain ⟨f, tt⟩ := s10.res.mem (List.mem_append_right _ List.mem_cons_self)
      obtain ⟨bb, ws, eb, hH, hks, rs, _⟩ := tt
      cases eb
      have hlen : ws.length = acc.length := by
        have := congrArg List.length hks
        simpa using this
      refine ⟨ws, k, key_v hkd (hk.vw s10.le), hH, by rw [hlen]; exact lst_fit hz, wipeE e8 vs, LR.putK acc k y, ?_, wipeE_clean, hl⟩
      obtain ⟨h1, h2⟩ := putK_rd (k := k) hy hks rs
      have r11 := R0.mut (s10.res.perm perm_in) (o' := .dK (LR.putK acc k y)) (fun _ z => nomatch z) ⟨D, L2.putK ws k yv, rfl, upd_same, h1, h2, rfl⟩
      have s11 : S K (pinB vs pv) e8 σ' ((.ref D, .dK (LR.putK acc k y)) :: ((yv, .frz y) :: (kv, .frz kd) :: (w ++ (rest ++ saved)))) _ := S.back s10.cov s10.pin r11
      have s12 : S K (pinB vs pv) e8 σ' (w ++ ((.ref D, .dK (LR.putK acc k y)) :: (rest ++ saved))) _ := s11.drop2.drop2.go fun l r => r.perm (List.Perm.append_right l List.perm_middle.symm)
      have s13 := (s12.wipeE (vs := vs)).toBlk wipeE_clean
      rw [hpp, hw] at s13
      exact s13
    · rw [ht]
      intro H7 s7
      dsimp only
      rw [if_neg Bool.false_ne_true]
      refine ⟨wipeE e6 vs, acc, ?_, wipeE_clean, hl⟩
      have s13 := (s7.wipeE (vs := vs)).toBlk wipeE_clean
      rw [hpp, hw] at s13
      exact s13
  · have e9 : i = items.length := by omega
    refine .inl ⟨(G i H _ s.mid).2 e9, ?_⟩
    have e10 : items.drop i = [] := List.drop_of_length_le (by omega)
    rw [e10] at hl
    unfold dcLoop at hl
    obtain ⟨h1, h2⟩ := Res.ok.inj hl
    subst h1 h2
    have s14 : S K (pinB vs pv) e (wipe σ vs) (w ++ ((.ref D, .dK acc) :: rest) ++ saved) H := s.go fun l r => r.perm (List.Perm.append_right l (by rw [List.append_assoc]; exact .refl _))
    exact hq _ H (back s14 hc).nopart
theorem px_dc {ifs : List Expr} {scope : Scope} {own : List (Str × Nat)} (hc : X.calm = true) (hN : X.N.Nodup) (hi : PSrc X W cl tg a src) (ok : BlkOk X.N X.env.scope scope own)
    (hg : ∀ (s : Shared) (H : Hp) (C : Addr) (cs : List (Str × Addr)) (fp : List Addr), PGG (X.blk s H scope (compEnvC scope cs C X.env) fp) tg t)
    (ht : ∀ (s : Shared) (H : Hp) (C : Addr) (cs : List (Str × Addr)) (fp : List Addr), PTTs (X.blk s H scope (compEnvC scope cs C X.env) fp) W0 cl ifs ft)
    (hk : ∀ (s : Shared) (H : Hp) (C : Addr) (cs : List (Str × Addr)) (fp : List Addr), PX (X.blk s H scope (compEnvC scope cs C X.env) fp) W0 cl c tk)
    (he : ∀ (s : Shared) (H : Hp) (C : Addr) (cs : List (Str × Addr)) (fp : List Addr), PX (X.blk s H scope (compEnvC scope cs C X.env) fp) W0 cl b te) (hs : ∀ x, foldedSetIterable a X.env x = pure x) :
    PX X W cl (.DictComp c b [⟨tg, a, ifs, 0⟩] scope pos) (xDc (own.map (·.2)) t src ft tk te) :=
  (pe_dc hc hN hi ok hg ht (fun s H C cs fp => pv_of (hk s H C cs fp)) (fun s H C cs fp => pv_of (he s H C cs fp)) hs).imp fun σ H Q ⟨pv, e, rest, s, q⟩ => by
    unfold xDc at q
    rw [post_bind] at q
    refine ⟨pv, e, rest, s, q.imp (fun items e1 q J w H1 s1 G => ?_) fun _ _ z => z⟩
    split at q
    case isFalse => exact q.elim
    rename_i hsub
    rw [post_bind] at q
    cases ha : aside (own.map (·.2)) (dcLoop (own.map (·.2)) t ft tk te [] items) e1 with
    | fail =>
      rw [ha] at q
      exact q.elim
    | exc c e2 =>
      exfalso
      unfold aside at ha
      split at ha
      · cases ha
      · split at ha <;> cases ha
    | ok l e3 =>
      rw [ha] at q
      exact dcq (cl := cl) hsub s1 G ha q

/-! ### two sources -/
theorem li_step {vs : List Nat} {tg : Tg} {te : M O} {acc ds l : List D} {d : D} {e e3 : Env} (h : lcIn vs tg te acc (d :: ds) e = .ok l e3) :
    small acc.length = true ∧ ∃ e1 y e4, tg.put d e = some e1 ∧ toV te e1 = .ok y e4 ∧ lcIn vs tg te (acc ++ [y]) ds (wipeE e4 vs) = .ok l e3 := by
  unfold lcIn at h
  split at h
  · rename_i hz
    refine ⟨hz, ?_⟩
    cases hp : tg.put d e with
    | none =>
      rw [hp] at h
      cases h
    | some e1 =>
      rw [hp] at h
      dsimp only at h
      cases hv : toV te e1 with
      | fail =>
        rw [hv] at h
        cases h
      | exc c e2 =>
        rw [hv] at h
        cases h
      | ok y e4 =>
        rw [hv] at h
        exact ⟨e1, y, e4, rfl, hv, h⟩
  · cases h
theorem l2_step {vs vs1 : List Nat} {tg tg1 : Tg} {src1 : M (List D)} {te : M O} {acc ds l : List D} {d : D} {e e3 : Env} (h : lcLoop2 vs vs1 tg tg1 src1 te acc (d :: ds) e = .ok l e3) :
    ∃ e1 items e2 acc2 e4, tg.put d e = some e1 ∧ src1 e1 = .ok items e2 ∧ lcIn vs1 tg1 te acc items (wipeE e2 vs1) = .ok acc2 e4 ∧ lcLoop2 vs vs1 tg tg1 src1 te acc2 ds (wipeE e4 vs) = .ok l e3 := by
  unfold lcLoop2 at h
  cases hp : tg.put d e with
  | none =>
    rw [hp] at h
    cases h
  | some e1 =>
    rw [hp] at h
    dsimp only at h
    cases hs : src1 e1 with
    | fail =>
      rw [hs] at h
      cases h
    | exc c e2 =>
      rw [hs] at h
      cases h
    | ok items e2 =>
      rw [hs] at h
      dsimp only at h
      cases hv : lcIn vs1 tg1 te acc items (wipeE e2 vs1) with
      | fail =>
        rw [hv] at h
        cases h
      | exc c e2 =>
        rw [hv] at h
        cases h
      | ok acc2 e4 =>
        rw [hv] at h
        exact ⟨e1, items, e2, acc2, e4, rfl, hs, hv, h⟩
theorem lc2q {K : PySem.W.Frag} {Q : VK} {pv : Nat → Option V} {e : Env} {σ : L2.St} {rest : List (V × O)} {vs vs1 : List Nat} {J : It} {w : List (V × O)} {H1 : Hp} {items l : List D} {e3 : Env} {t1 : Tg} {src1 : M (List D)}
    (hsub : subL t.slots vs = true) (hsub1 : subL t1.slots vs1 = true) (hsubv : subL vs1 vs = true) (s1 : S K pv e σ (w ++ rest) H1) (G : Gives K J w items)
    (ha : aside vs (lcLoop2 vs vs1 t t1 src1 te [] items) e = .ok l e3) (hq : ∀ v H', S K pv e3 σ ((v, .lst l) :: rest) H' → Q v H') :
    ∀ D, H1 D = none → ∃ Wf : Nat → Nat → Hp → Prop, (∃ m, Wf 0 m (upd H1 D (.lst []))) ∧ ∀ i m H, Wf i m H →
      (J.stop i H ∧ Q (.ref D) H) ∨ (J.go i H ∧ ∃ Nx : Hp → Prop, (∀ H', Nx H' → ∃ m', m' < m ∧ Wf (i + 1) m' H') ∧ ∀ x H', J.yld i H x H' → rG K t x (wipe σ vs) H' fun σ2 H2 => wipe σ2 vs = wipe σ vs ∧ rT K W0 cl bYes σ2 H2 fun b H3 =>
        if b = true then rI K W0 cl src1 σ2 H3 fun J1 H4 => ∃ W1 : Nat → Nat → Hp → Prop, (∃ m, W1 0 m H4) ∧ ∀ j k H, W1 j k H →
          (J1.stop j H ∧ Nx H) ∨ (J1.go j H ∧ ∃ Nx1 : Hp → Prop, (∀ H', Nx1 H' → ∃ k', k' < k ∧ W1 (j + 1) k' H') ∧ ∀ x H', J1.yld j H x H' → rG K t1 x (wipe σ2 vs1) H' fun σ3 H5 => wipe σ3 vs1 = wipe σ2 vs1 ∧ rT K W0 cl bYes σ3 H5 fun b H6 =>
            if b = true then rV K W0 cl (toV te) σ3 H6 fun y H7 => ∃ acc, H7 D = some (.lst acc) ∧ acc.length < sizeLine ∧ Nx1 (upd H7 D (.lst (acc ++ [y]))) else Nx1 H6)
        else Nx H3) := by
  intro D hD
  obtain ⟨saved, e1, e2, s2, hc1, hf, back⟩ := aside_ok s1 ha
  have hsl : ∀ i ∈ t.slots, i ∈ vs := fun i hi => by
    have := List.all_eq_true.mp hsub i hi
    simpa using this
  have hsl1 : ∀ i ∈ t1.slots, i ∈ vs1 := fun i hi => by
    have := List.all_eq_true.mp hsub1 i hi
    simpa using this
  have hslv : ∀ i ∈ vs1, i ∈ vs := fun i hi => by
    have := List.all_eq_true.mp hsubv i hi
    simpa using this
  obtain ⟨F, s0⟩ := s2.opn
  have s3 := s0.mkL hD (F := F) (ds := []) (vs := []) .nil
  have ord : ∀ {x : V × O}, (x :: (w ++ rest ++ saved)).Perm (w ++ (x :: (rest ++ saved))) := by
    intro x
    rw [List.append_assoc]
    exact List.perm_middle.symm
  have s4 : S K (pinB vs pv) e1 (wipe σ vs) (w ++ ((.ref D, .lst []) :: (rest ++ saved))) (upd H1 D (.lst [])) := s3.go fun l r => r.perm (ord.append_right l)
  have hpp : pinB vs (pinB vs pv) = pinB vs pv := by
    funext i
    unfold pinB
    split <;> rfl
  have hpp1 : pinB vs1 (pinB vs pv) = pinB vs pv := by
    funext i
    unfold pinB
    split
    · rename_i h
      rw [if_pos (hslv i h)]
    · rfl
  refine ⟨fun i m H => ∃ e acc, m = items.length - i ∧ i ≤ items.length ∧ S K (pinB vs pv) e (wipe σ vs) (w ++ ((.ref D, .lst acc) :: (rest ++ saved))) H ∧ Clean vs e ∧ lcLoop2 vs vs1 t t1 src1 te acc (items.drop i) e = .ok l e2, ⟨_, e1, [], rfl, Nat.zero_le _, s4, hc1, hf⟩, ?_⟩
  rintro i m H ⟨e, acc, rfl, hi, s, hc, hl⟩
  by_cases hlt : i < items.length
  · obtain ⟨go, yl⟩ := (G i H _ s.mid).1 _ (List.getElem?_eq_getElem hlt)
    rw [drop_step hlt] at hl
    obtain ⟨e5, items1, e6, acc2, e7, hput, hsrc, hin, hl⟩ := l2_step hl
    refine .inr ⟨go, fun H' => ∃ e acc, S K (pinB vs pv) e (wipe σ vs) (w ++ ((.ref D, .lst acc) :: (rest ++ saved))) H' ∧ Clean vs e ∧ lcLoop2 vs vs1 t t1 src1 te acc (items.drop (i + 1)) e = .ok l e2, fun H' ⟨e, acc, s', c', q'⟩ => ⟨items.length - (i + 1), by omega, e, acc, rfl, hlt, s', c', q'⟩, fun v H' y => ?_⟩
    have s5 := s.unmid (yl v H' y)
    refine ⟨pinB vs pv, e, _, items[i], e5, s5, fun j hj => by unfold pinB; rw [if_pos (hsl j hj)], hput, fun σ' sm s6 => ?_⟩
    have hw := wipe_same sm hsl
    refine ⟨hw, pinB vs pv, e5, _, s6, ?_⟩
    intro H7 s7
    dsimp only
    rw [if_pos rfl]
    refine ⟨pinB vs pv, e5, _, s7, ?_⟩
    rw [hsrc]
    intro J1 w1 H8 s8 G1
    -- the second source's loop
    have s8' := (s8.wipeE (vs := vs1)).toBlk (vs := vs1) wipeE_clean
    rw [hpp1] at s8'
    refine ⟨fun j k H => ∃ e acc, k = items1.length - j ∧ j ≤ items1.length ∧ S K (pinB vs pv) e (wipe σ' vs1) (w1 ++ (w ++ ((.ref D, .lst acc) :: (rest ++ saved)))) H ∧ Clean vs1 e ∧ lcIn vs1 t1 te acc (items1.drop j) e = .ok acc2 e7, ⟨_, wipeE e6 vs1, acc, rfl, Nat.zero_le _, s8', wipeE_clean, hin⟩, ?_⟩
    rintro j k H ⟨e, acc, rfl, hj, s, hc, hin⟩
    by_cases hlt1 : j < items1.length
    · obtain ⟨go1, yl1⟩ := (G1 j H _ s.mid).1 _ (List.getElem?_eq_getElem hlt1)
      rw [drop_step hlt1] at hin
      obtain ⟨hz, e9, y1, e10, hput1, hv, hin⟩ := li_step hin
      refine .inr ⟨go1, fun H' => ∃ e acc, S K (pinB vs pv) e (wipe σ' vs1) (w1 ++ (w ++ ((.ref D, .lst acc) :: (rest ++ saved)))) H' ∧ Clean vs1 e ∧ lcIn vs1 t1 te acc (items1.drop (j + 1)) e = .ok acc2 e7, fun H' ⟨e, acc, s', c', q'⟩ => ⟨items1.length - (j + 1), by omega, e, acc, rfl, hlt1, s', c', q'⟩, fun v H' y => ?_⟩
      have s9 := s.unmid (yl1 v H' y)
      refine ⟨pinB vs pv, e, _, items1[j], e9, s9, fun j hj => by unfold pinB; rw [if_pos (hslv j (hsl1 j hj))], hput1, fun σ3 sm1 s10 => ?_⟩
      have hw1 := wipe_same sm1 hsl1
      refine ⟨hw1, pinB vs pv, e9, _, s10, ?_⟩
      intro H9 s11
      dsimp only
      rw [if_pos rfl]
      refine ⟨pinB vs pv, e9, _, s11, ?_⟩
      rw [hv]
      intro yv H10 s12
      have s13 : S K (pinB vs pv) e10 σ3 ((.ref D, .lst acc) :: ((yv, .frz y1) :: (w1 ++ (w ++ (rest ++ saved))))) H10 := s12.go fun l r => by
        refine r.perm (List.Perm.append_right l ?_)
        refine (List.Perm.cons _ ?_).trans (.swap _ _ _)
        rw [← List.append_assoc, ← List.append_assoc]
        exact List.perm_middle
      obtain ⟨F, s14⟩ := s13.opn
      have hy : RD K F y1 yv := frz_in s14 (List.mem_cons_of_mem _ List.mem_cons_self)
      obtain ⟨f, tt⟩ := s14.res.mem (List.mem_append_right _ List.mem_cons_self)
      obtain ⟨bb, xs, eb, hH, rs, _⟩ := tt
      cases eb
      refine ⟨xs, hH, by rw [rs.length]; exact lst_fit hz, wipeE e10 vs1, acc ++ [y1], ?_, wipeE_clean, hin⟩
      have r15 := (s14.res.perm perm_in).mutL (rs.append (.cons hy .nil))
      have s15 : S K (pinB vs pv) e10 σ3 ((.ref D, .lst (acc ++ [y1])) :: ((yv, .frz y1) :: (w1 ++ (w ++ (rest ++ saved))))) _ := S.back s14.cov s14.pin r15
      have s16 : S K (pinB vs pv) e10 σ3 (w1 ++ (w ++ ((.ref D, .lst (acc ++ [y1])) :: (rest ++ saved)))) _ := s15.drop2.go fun l r => r.perm (List.Perm.append_right l ((List.perm_middle (l₁ := w1) (l₂ := w ++ (rest ++ saved))).symm.trans (List.Perm.append_left w1 List.perm_middle.symm)))
      have s17 := (s16.wipeE (vs := vs1)).toBlk (vs := vs1) wipeE_clean
      rw [hpp1, hw1] at s17
      exact s17
    · have ej : j = items1.length := by omega
      refine .inl ⟨(G1 j H _ s.mid).2 ej, ?_⟩
      have e10 : items1.drop j = [] := List.drop_of_length_le (by omega)
      rw [e10] at hin
      unfold lcIn at hin
      obtain ⟨h1, h2⟩ := Res.ok.inj hin
      subst h1 h2
      refine ⟨wipeE e vs, acc, ?_, wipeE_clean, hl⟩
      have s18 := (s.nopart.wipeE (vs := vs)).toBlk (vs := vs) wipeE_clean
      have hw2 : wipe (wipe σ' vs1) vs = wipe σ vs := by
        rw [← hw]
        refine List.ext_getElem? fun x => ?_
        by_cases hx : x ∈ vs
        · by_cases hxl : x < σ'.length
          · rw [wipe_in hx (by rw [wipe_length]; exact hxl), wipe_in hx hxl]
          · rw [List.getElem?_eq_none (by rw [wipe_length, wipe_length]; omega), List.getElem?_eq_none (by rw [wipe_length]; omega)]
        · rw [wipe_get hx, wipe_get hx, wipe_get fun z => hx (hslv x z)]
      rw [hpp, hw2] at s18
      exact s18
  · have e9 : i = items.length := by omega
    refine .inl ⟨(G i H _ s.mid).2 e9, ?_⟩
    have e10 : items.drop i = [] := List.drop_of_length_le (by omega)
    rw [e10] at hl
    unfold lcLoop2 at hl
    obtain ⟨h1, h2⟩ := Res.ok.inj hl
    subst h1 h2
    have s14 : S K (pinB vs pv) e (wipe σ vs) (w ++ ((.ref D, .lst acc) :: rest) ++ saved) H := s.go fun l r => r.perm (List.Perm.append_right l (by rw [List.append_assoc]; exact .refl _))
    exact hq _ H (back s14 hc).nopart
variable {tg1 : Expr} {t1 : Tg} {src1 : M (List D)}
theorem px_lc2 {scope : Scope} {own : List (Str × Nat)} {vs1 : List Nat} (hc : X.calm = true) (hN : X.N.Nodup) (hi : PSrc X W cl tg a src) (ok : BlkOk X.N X.env.scope scope own) (hv : ∀ i ∈ vs1, i ∈ own.map (·.2))
    (hg : ∀ (s : Shared) (H : Hp) (C : Addr) (cs : List (Str × Addr)) (fp : List Addr), PGG (X.blk s H scope (compEnvC scope cs C X.env) fp) tg t)
    (hi1 : ∀ (s : Shared) (H : Hp) (C : Addr) (cs : List (Str × Addr)) (fp : List Addr), PSrc (X.blk s H scope (compEnvC scope cs C X.env) fp) W0 cl tg1 c src1)
    (hg1 : ∀ (s : Shared) (H : Hp) (C : Addr) (cs : List (Str × Addr)) (fp : List Addr), PGG (X.blk s H scope (compEnvC scope cs C X.env) fp) tg1 t1)
    (he : ∀ (s : Shared) (H : Hp) (C : Addr) (cs : List (Str × Addr)) (fp : List Addr), PX (X.blk s H scope (compEnvC scope cs C X.env) fp) W0 cl b te) (hs : ∀ x, foldedSetIterable a X.env x = pure x) (hs1 : ∀ env x, foldedSetIterable c env x = pure x) :
    PX X W cl (.ListComp b [⟨tg, a, [], 0⟩, ⟨tg1, c, [], 0⟩] scope pos) (xLc2 (own.map (·.2)) vs1 t t1 src src1 te) :=
  (pe_lc2 hc hN hi ok hv hg (fun s H C cs fp => pts_n (W := W0) (cl := cl)) hi1 hg1 (fun s H C cs fp => pts_n (W := W0) (cl := cl)) (fun s H C cs fp => pv_of (he s H C cs fp)) hs hs1).imp fun σ H Q ⟨pv, e, rest, s, q⟩ => by
    unfold xLc2 at q
    rw [post_bind] at q
    refine ⟨pv, e, rest, s, q.imp (fun items e1 q J w H1 s1 G => ?_) fun _ _ z => z⟩
    split at q
    case isFalse => exact q.elim
    rename_i hsub
    have hsub := Bool.and_eq_true_iff.mp hsub
    have hsub0 := Bool.and_eq_true_iff.mp hsub.1
    rw [post_bind] at q
    cases ha : aside (own.map (·.2)) (lcLoop2 (own.map (·.2)) vs1 t t1 src1 te [] items) e1 with
    | fail =>
      rw [ha] at q
      exact q.elim
    | exc c e2 =>
      exfalso
      unfold aside at ha
      split at ha
      · cases ha
      · split at ha <;> cases ha
    | ok l e3 =>
      rw [ha] at q
      exact lc2q (cl := cl) hsub0.1 hsub0.2 hsub.2 s1 G ha q
theorem ps_lc2 {i : Nat} {y : Str} {py : Pos} {scope : Scope} {own : List (Str × Nat)} {vs1 : List Nat} {spos : Pos} {P : List Nat} (hc : X.calm = true) (hN : X.N.Nodup) (hy : X.N[i]? = some y) (hyl : X.env.scope.names.lookup y = some .local)
    (hsw : swapsWith (.ListComp b [⟨tg, a, [], 0⟩, ⟨tg1, c, [], 0⟩] scope pos) (some (.Name y py)) spos.line X.env = pure true) (hi : PSrc X W cl tg a src) (ok : BlkOk X.N X.env.scope scope own) (hv : ∀ i ∈ vs1, i ∈ own.map (·.2))
    (hg : ∀ (s : Shared) (H : Hp) (C : Addr) (cs : List (Str × Addr)) (fp : List Addr), PGG (X.blk s H scope (compEnvC scope cs C X.env) fp) tg t)
    (hi1 : ∀ (s : Shared) (H : Hp) (C : Addr) (cs : List (Str × Addr)) (fp : List Addr), PSrc (X.blk s H scope (compEnvC scope cs C X.env) fp) W0 cl tg1 c src1)
    (hg1 : ∀ (s : Shared) (H : Hp) (C : Addr) (cs : List (Str × Addr)) (fp : List Addr), PGG (X.blk s H scope (compEnvC scope cs C X.env) fp) tg1 t1)
    (he : ∀ (s : Shared) (H : Hp) (C : Addr) (cs : List (Str × Addr)) (fp : List Addr), PX (X.blk s H scope (compEnvC scope cs C X.env) fp) W0 cl b te) (hs : ∀ x, foldedSetIterable a X.env x = pure x) (hs1 : ∀ env x, foldedSetIterable c env x = pure x) :
    PST X W cl P (.Assign [.Name y py] (.ListComp b [⟨tg, a, [], 0⟩, ⟨tg1, c, [], 0⟩] scope pos) spos) (sSet P i (xLc2 (own.map (·.2)) vs1 t t1 src src1 te)) :=
  (ps_setLc2 (g := rG X.K t) (tt := rT X.K W0 cl bYes) (te := rV X.K W0 cl (toV te)) (g1 := rG X.K t1) (tt1 := rT X.K W0 cl bYes) hc hN hy hyl hsw hi ok hv hg (fun s H C cs fp => pts_n (W := W0) (cl := cl)) hi1 hg1 (fun s H C cs fp => pts_n (W := W0) (cl := cl)) (fun s H C cs fp => pv_of (he s H C cs fp)) hs hs1).imp fun σ H D ⟨pv, e, rest, s, hp, q⟩ => by
    unfold aft sSet xLc2 at q
    rw [postS_stm, post_bind] at q
    refine ⟨pv, e, rest, s, q.imp (fun items e1 q J w H1 s1 G => ?_) fun c e1 q H' s' => q _ H' s'⟩
    split at q
    case isFalse => exact q.elim
    rename_i hsub
    have hsub := Bool.and_eq_true_iff.mp hsub
    have hsub0 := Bool.and_eq_true_iff.mp hsub.1
    rw [post_bind] at q
    cases ha : aside (own.map (·.2)) (lcLoop2 (own.map (·.2)) vs1 t t1 src1 te [] items) e1 with
    | fail =>
      rw [ha] at q
      exact q.elim
    | exc c e2 =>
      exfalso
      unfold aside at ha
      split at ha
      · cases ha
      · split at ha <;> cases ha
    | ok l e3 =>
      rw [ha] at q
      refine lc2q (cl := cl) (Q := fun x H1 => σ.nx (H.set i (some x)) H1) hsub0.1 hsub0.2 hsub.2 s1 G ha fun v H' s' => ?_
      have q : postS (if okP P [i] then goOn (put1 i (.lst l) e3) else .fail) _ _ _ _ _ := q
      split at q
      · rename_i hk
        cases hput : put1 i (.lst l) e3 with
        | none =>
          rw [hput] at q
          exact q.elim
        | some e4 =>
          rw [hput] at q
          exact q _ H' (put1_ok s' (okP_of hp hk i List.mem_cons_self) hput)
      · exact q.elim
end
end LR

set_option Elab.async false
set_option linter.all false
set_option maxRecDepth 100000
set_option maxHeartbeats 4000000
/-! sorted(set(xs)), xs a list of ints or of texts. -/
namespace LR
open PySem PySem.Spec PyProof.Rows L2

def kyV : Value → Key
  | .int k _ => .inl k
  | .str x _ => .inr x
  | _ => .inl 0
def kyE (e : Int × Value) : Key := kyV e.2
def OkE (w : World) (e : Int × Value) : Prop := ∃ k : Key, keyIs k e.2 = true ∧ e.1 = keyH w k
theorem kyV_is {k : Key} {v : Value} (h : keyIs k v = true) : kyV v = k := by
  rcases keyIs_shape h with ⟨i, t, rfl, rfl⟩ | ⟨x, t, rfl, rfl⟩ <;> rfl
/-- the set of keys at a, its table fit to be walked -/
def SetK0 (w : World) (h : Heap) (a : Addr) (S : List Key) (n : Nat) : Prop :=
  ∃ o es ep t, h.get? a = some o ∧ o.ExactSet ∧ o.data = .set es ep t ∧ (∀ e ∈ es.toList, OkE w e) ∧ (es.toList.map kyE).Nodup ∧ (∀ k, k ∈ S ↔ k ∈ es.toList.map kyE) ∧
    es.size < scanBound ∧ t.fits es.size = true ∧ es.size = n ∧ Ris t.place.toList ∧ (w.params.followText "set-order" = true ∨ t.led = true)
section
variable {P : Program} {w : World} {h h' : Heap} {a : Addr} {S : List Key} {n : Nat}
theorem SetK0.at (r : SetK0 w h a S n) (k : ∀ o, h.get? a = some o → h'.get? a = some o) : SetK0 w h' a S n := by
  obtain ⟨o, es, ep, t, ho, q⟩ := r
  exact ⟨o, es, ep, t, k o ho, q⟩
theorem SetK0.congr {S' : List Key} (r : SetK0 w h a S n) (e : ∀ k, k ∈ S' ↔ k ∈ S) : SetK0 w h a S' n := by
  obtain ⟨o, es, ep, t, ho, q1, q2, q3, q4, q5, q6⟩ := r
  exact ⟨o, es, ep, t, ho, q1, q2, q3, q4, fun k => (e k).trans (q5 k), q6⟩
theorem okE_scan {e : Int × Value} (g : OkE w e) : e.2.scannable = true := by
  obtain ⟨k, h1, _⟩ := g
  rcases keyIs_shape h1 with ⟨i, t, _, z⟩ | ⟨x, t, _, z⟩
  · rw [z]; rfl
  · rw [z]; rfl
theorem okE_elems {l : List (Int × Value)} (g : ∀ e ∈ l, OkE w e) : ElemsOf (mixKind P w) l := fun e he => by
  obtain ⟨k, h1, h2⟩ := g e he
  exact ⟨⟨k, h1, h2⟩, okE_scan (g e he)⟩
theorem okE_is {e : Int × Value} (g : OkE w e) (k : Key) : (mixKind P w).is k e.2 = true ↔ kyE e = k := by
  constructor
  · exact fun z => kyV_is z
  · intro z
    obtain ⟨k0, h1, _⟩ := g
    have : kyE e = k0 := kyV_is h1
    rw [this] at z
    rw [← z]
    exact h1
theorem okE_mem {l : List (Int × Value)} (g : ∀ e ∈ l, OkE w e) (k : Key) : k ∈ l.map kyE ↔ ∃ e ∈ l, (mixKind P w).is k e.2 = true := by
  rw [List.mem_map]
  exact ⟨fun ⟨e, he, q⟩ => ⟨e, he, (okE_is (g e he) k).2 q⟩, fun ⟨e, he, q⟩ => ⟨e, he, (okE_is (g e he) k).1 q⟩⟩
end
section
variable {P : Program} {w : World} {A : Around} {E : Value → Shared → Prop} {s : Shared} {a : Addr} {S : List Key} {n : Nat}
theorem setK0_tail {g : Bool → Sem Unit} (hg : ∀ (b : Bool) (s₁ : Shared) (Q' : Unit → Shared → Prop), Q' () s₁ → wpAny (model P w) A (g b) Q' E s₁)
    {o : Obj} {es es1 : Array (Int × Value)} {ep : Nat} {t t2 : SetTable} {S' : List Key} {wasDummy : Bool} {R : Option Bool → Shared → Prop} (ho : s.heap.get? a = some o) (hex : o.ExactSet) (hd : o.data = .set es ep t)
    (g1 : ∀ e ∈ es1.toList, OkE w e) (nd1 : (es1.toList.map kyE).Nodup) (m1 : ∀ k, k ∈ S' ↔ k ∈ es1.toList.map kyE)
    (hb1 : es1.size < scanBound) (hf2 : t2.fits es1.size = true) (hr : Ris t2.place.toList) (hl : w.params.followText "set-order" = true ∨ t2.led = true)
    (hR : ∀ h', Heap.SameBut a s.heap h' → SetK0 w h' a S' es1.size → R (some true) { s with heap := h' }) :
    wpAny (model P w) A (do
        storeSet a es1 t2
        if (!wasDummy && t2.tooFull) = true then do
            g (relayAll t2 es1 (SetTable.grown es1.size)).2.2
            storeSet a (relayAll t2 es1 (SetTable.grown es1.size)).1 (relayAll t2 es1 (SetTable.grown es1.size)).2.1
            pure (some true)
          else pure (some true)) R E s := by
  refine wpAny_bind (wpAny_storeSet_of ho hd ?_ (fits_of_scanBound hb1))
  have at1 := store_at (es' := es1) (t' := t2) ho hd
  have but1 := Heap.SameBut.update s.heap a (Obj.putSet es1 t2)
  split
  · have pm := relayAll_perm t2 es1 (SetTable.grown es1.size)
    have fit3 := relayAll_fits t2 es1 (SetTable.grown es1.size)
    have ris3 := relayAll_ris t2 es1 (SetTable.grown es1.size)
    have led3 := relayAll_led t2 es1 (SetTable.grown es1.size)
    generalize relayAll t2 es1 (SetTable.grown es1.size) = Z at pm fit3 ris3 led3 ⊢
    obtain ⟨es2, t3, gave⟩ := Z
    dsimp only at pm fit3 ris3 led3 ⊢
    have sz2 : es2.size = es1.size := by rw [← Array.length_toList, pm.length_eq, Array.length_toList]
    have b2 : es2.size < scanBound := by rw [sz2]; exact hb1
    refine wpAny_bind (hg _ _ _ ?_)
    refine wpAny_bind (wpAny_storeSet_of at1 rfl ?_ (fits_of_scanBound b2))
    have at2 := store_at (es' := es2) (t' := t3) at1 rfl
    refine wpAny_pure (hR _ (but1.trans (Heap.SameBut.update _ a _)) ?_)
    exact ⟨_, es2, _, t3, at2, hex, rfl, fun e he => g1 e (pm.mem_iff.mp he), (pm.map kyE).nodup_iff.mpr nd1, fun k => (m1 k).trans (pm.map kyE).mem_iff.symm, b2, fit3, sz2, ris3,
      hl.imp id fun z => by rw [led3]; exact z⟩
  · exact wpAny_pure (hR _ but1 ⟨_, es1, _, t2, at1, hex, rfl, g1, nd1, m1, hb1, hf2, rfl, hr, hl⟩)
theorem setK0_add {k : Key} {v : Value} {Q : Bool → Shared → Prop} (hv : keyIs k v = true) (r : SetK0 w s.heap a S n) (room : n + 1 < scanBound)
    (hQ : ∀ h' b m, m ≤ n + 1 → Heap.SameBut a s.heap h' → SetK0 w h' a (S ++ [k]) m → Q b { s with heap := h' }) :
    wpAny (model P w) A (setAddHashed a v ((mixKind P w).hash k)) Q E s := by
  obtain ⟨o, es, ep, t, ho, hex, hd, g, nd, hm, hb, hf, hn, hr, hl⟩ := r
  have hkey : (mixKind P w).is k v = true := hv
  have hsc : v.scannable = true := by
    rcases keyIs_shape hv with ⟨i, u, _, z⟩ | ⟨x, u, _, z⟩
    · rw [z]; rfl
    · rw [z]; rfl
  have hel : ElemsOf (mixKind P w) es.toList := okE_elems g
  unfold setAddHashed setAddHashedIn
  refine wpAny_holding (wpAny_bind (wpAny_setState_of ho hd hf ?_))
  dsimp only
  rw [byScan_of hsc hb hel]
  simp only [↓reduceIte]
  unfold setAddByScan
  refine wpAny_bind ?_
  refine wpAny_bind (wpAny_rule ?_)
  refine wpAny_bind (wpAny_setScan_of hkey ho hd hf hel ?_)
  cases hfi : List.findIdx? (fun e => (mixKind P w).is k e.2) es.toList with
  | some j =>
    dsimp only
    obtain ⟨hj, pj, _⟩ := List.findIdx?_eq_some_iff_getElem.mp hfi
    have hSk : k ∈ S := (hm k).2 ((okE_mem (P := P) (w := w) g k).2 ⟨es.toList[j], List.getElem_mem hj, pj⟩)
    refine wpAny_pure (wpAny_pure ?_)
    exact hQ s.heap _ n (Nat.le_succ n) (Heap.SameBut.refl a s.heap) ⟨o, es, ep, t, ho, hex, hd, g, nd, fun i => by
      rw [List.mem_append, List.mem_singleton, ← hm i]
      exact ⟨fun z => z.elim id (fun e => e ▸ hSk), .inl⟩, hb, hf, hn, hr, hl⟩
  | none =>
    dsimp only
    have hnk : k ∉ es.toList.map kyE := fun z => by
      obtain ⟨e, he, q⟩ := (okE_mem (P := P) (w := w) g k).1 z
      have c := List.findIdx?_eq_none_iff.mp hfi e he
      rw [q] at c
      cases c
    have hgw : ∀ (b : Bool) {s₁ : Shared} {Q' : Unit → Shared → Prop}, Q' () s₁ → wpAny (model P w) A (match b with | true => rule "set.scan.the-table-gave-way" | false => pure ()) Q' E s₁ :=
      fun b s₁ Q' q => by cases b <;> first | exact wpAny_pure q | exact wpAny_rule q
    have pm := layNew_perm t es ((mixKind P w).hash k) v
    have f1 := layNew_fits t es ((mixKind P w).hash k) v
    have r1 := layNew_ris t es ((mixKind P w).hash k) v hr
    have l1 := layNew_led t es ((mixKind P w).hash k) v
    generalize layNew t es ((mixKind P w).hash k) v = Z at pm f1 r1 l1 ⊢
    obtain ⟨es1, t1, wasDummy, gave⟩ := Z
    dsimp only at pm f1 r1 l1 ⊢
    rw [Array.toList_push] at pm
    have pc : es1.toList.Perm (((mixKind P w).hash k, v) :: es.toList) := pm.trans (List.perm_append_singleton _ _)
    have pk : (es1.toList.map kyE).Perm (k :: es.toList.map kyE) := by
      have q := pc.map kyE
      rw [List.map_cons] at q
      have : kyE ((mixKind P w).hash k, v) = k := kyV_is hv
      rw [this] at q
      exact q
    have g1 : ∀ e ∈ es1.toList, OkE w e := fun e he => by
      rcases List.mem_cons.mp (pc.mem_iff.mp he) with z | z
      · rw [z]; exact ⟨k, hv, rfl⟩
      · exact g e z
    have nd1 : (es1.toList.map kyE).Nodup := pk.nodup_iff.mpr (List.nodup_cons.mpr ⟨hnk, nd⟩)
    have m1 : ∀ i, i ∈ S ++ [k] ↔ i ∈ es1.toList.map kyE := fun i => by
      rw [List.mem_append, List.mem_singleton, hm i, pk.mem_iff, List.mem_cons]
      exact Or.comm
    have hsz : es1.size = n + 1 := by rw [← Array.length_toList, pc.length_eq, List.length_cons, Array.length_toList, hn]
    have hb1 : es1.size < scanBound := by rw [hsz]; exact room
    have hled : w.params.followText "set-order" = true ∨ t1.led = true := hl.imp id fun z => by rw [l1]; exact z
    have fin : ∀ h', Heap.SameBut a s.heap h' → SetK0 w h' a (S ++ [k]) es1.size → Q true { s with heap := h' } := fun h' sb r => hQ h' true es1.size (by rw [hsz]; exact Nat.le_refl _) sb r
    refine wpAny_bind (hgw _ ?_)
    split
    · refine wpAny_bind ?_
      rw [hashByValue_scannable 8 hsc]
      refine wpAny_pure ?_
      refine setK0_tail ?_ ho hex hd g1 nd1 m1 hb1 ?_ ?_ ?_ ?_
      · intro b s₁ Q' q; cases b <;> first | exact wpAny_pure q | exact wpAny_rule q
      · first | (split <;> first | exact f1 | exact SetTable.fits_plain_off f1) | exact f1
      · first | (split <;> exact r1) | exact r1
      · first | (split <;> exact hled) | exact hled
      · intro h' sb r; dsimp only; exact wpAny_pure (fin h' sb r)
    · refine wpAny_bind (wpAny_pure ?_)
      simp only [↓reduceIte]
      refine setK0_tail ?_ ho hex hd g1 nd1 m1 hb1 f1 r1 hled ?_
      · intro b s₁ Q' q; cases b <;> first | exact wpAny_pure q | exact wpAny_rule q
      · intro h' sb r; dsimp only; exact wpAny_pure (fin h' sb r)
theorem setK0_new {h : Heap} {a : Addr} (ho : h.get? a = some { cls := .type "set", dict := none, data := .set #[] 0 (.fresh 0 0 (!w.params.followText "set-order")) }) : SetK0 w h a [] 0 :=
  ⟨_, #[], 0, _, ho, ⟨rfl, rfl, rfl⟩, rfl, (fun e he => by simp at he), (by simp), (fun k => by simp), (by decide), (by rfl), rfl, List.Pairwise.nil, by
    show _ ∨ (!w.params.followText "set-order") = true
    cases w.params.followText "set-order"
    · exact .inr rfl
    · exact .inl rfl⟩
/-- the values v are the keys ks -/
def KeysAre (vs : List Value) (ks : List Key) : Prop := vs.map kyV = ks ∧ ∀ v ∈ vs, keyIs (kyV v) v = true
theorem setK0_loop {I : Addr} {fp wr : List Addr} {G : Array GenState → Array GenState → Prop} {n : Nat} {Pv : Nat → Value → Prop} {St : Nat → Shared → Prop} {R : Result → Shared → Prop}
    (W : WalksS P w A.in1 I fp wr G n Pv St) (a : Addr) (hSf : a ∉ fp) (ks : List Key) (hn : n = ks.length) (hb : ks.length + 1 < scanBound) (hval : ∀ i v, Pv i v → ∃ k, ks[i]? = some k ∧ keyIs k v = true) :
    ∀ (k i : Nat) (s : Shared), n - i = k → i ≤ n → St i s → (∃ c, c ≤ i ∧ SetK0 w s.heap a (ks.take i) c) →
      (∀ s' c, Moved (a :: wr) G s s' → c ≤ n → SetK0 w s'.heap a ks c → R (.ok (.ret .none)) s') →
      codeAny (model P w) A (.builtin "set.update.loop" ⟨[.ref a, .ref I], []⟩) R s := by
  have hSw : a ∉ wr := fun h => hSf (W.sub _ h)
  have hsub : ∀ b ∈ wr, b ∈ a :: wr := fun b hb => List.mem_cons_of_mem _ hb
  intro k
  induction k with
  | zero =>
    intro i s hk' hi hst ⟨c, hc, hS⟩ hR
    have hin : i = n := by omega
    subst hin
    refine codeAny_builtin F.entry_set_update_loop ?_
    rw [Around.under_plainId F.plain_set_update_loop _]
    show wpAny _ A.in1 (pyNext (.ref I) >>= _) _ _ s
    refine wpAny_bind (W.done s _ _ hst fun s' hm => ?_)
    show wpAny _ A.in1 (ret Value.none) _ _ s'
    have e : ks.take i = ks := List.take_of_length_le (by omega)
    rw [e] at hS
    exact wpAny_pure (hR s' c (hm.mono hsub) hc (hS.at fun o e => hm.heap a o hSw e))
  | succ k ih =>
    intro i s hk' hi hst ⟨c, hc, hS⟩ hR
    have hlt : i < n := by omega
    refine codeAny_builtin F.entry_set_update_loop ?_
    rw [Around.under_plainId F.plain_set_update_loop _]
    show wpAny _ A.in1 (pyNext (.ref I) >>= _) _ _ s
    refine wpAny_bind (W.item i s _ _ hlt hst fun v s' hP hst' hm => ?_)
    obtain ⟨z, hz, hv⟩ := hval i v hP
    have hS' : SetK0 w s'.heap a (ks.take i) c := hS.at fun o e => hm.heap a o hSw e
    show wpAny _ A.in1 (holding [v] (setAdd a v) >>= _) _ _ s'
    refine wpAny_bind (wpAny_holding ?_)
    unfold setAdd
    refine wpAny_holding ?_
    refine wpAny_bind ((mixKind P w).pyHash (k := z) hv ?_)
    refine setK0_add (s := { s' with toks := s'.toks + 1 }) hv hS' (by omega) fun h' b m hm' hsb hS2 => ?_
    have hS3 : SetK0 w h' a (ks.take (i + 1)) m := hS2.congr fun j => by
      rw [List.take_add_one, hz]
      rfl
    refine wpAny_pure ⟨plainId_quiet F.plain_set_update_loop _, ih (i + 1) _ (by omega) hlt (W.frame _ s' _ _ hst' (Nat.le_succ _) fun b hb o e => ?_) ⟨m, by omega, hS3⟩ fun s'' c2 hm'' hc'' hS'' => ?_⟩
    · rw [hsb.2 b (fun h : b = a => hSf (by rw [← h]; exact hb))]; exact e
    · refine hR s'' c2 (Moved.trans W.gtrans ((hm.mono hsub).then_heap (Nat.le_succ _) fun b o hb e => ?_) hm'') hc'' hS''
      rw [hsb.2 b (fun h : b = a => hb (by rw [h]; exact List.mem_cons_self))]; exact e
set_option maxHeartbeats 6400000 in
theorem call_setK0 {l : Addr} {items : Array Value} (ks : List Key) {Q : Value → Shared → Prop} (hh : A.handled = none) (hl : s.heap.IsList l items) (hit : KeysAre items.toList ks) (hb : ks.length + 1 < scanBound)
    (h : ∀ (h' : Heap) (tk c : Nat), SetK0 w h' s.heap.objs.size ks c → c ≤ ks.length → (∀ b o, s.heap.get? b = some o → h'.get? b = some o) → Q (.ref s.heap.objs.size) { s with heap := h', toks := tk }) :
    wpAny (model P w) A (call (.type "set") [.ref l]) Q E s := by
  have hisz : items.size = ks.length := by
    rw [← hit.1, List.length_map, Array.length_toList]
  obtain ⟨c, tl, hmro⟩ := F.called_set.mro
  have hmade := F.called_set.made
  have hsub := F.called_set.sub
  refine wpAny_call (codeAny_of_tree ?_)
  show wpAny _ _ (callAny (.type "set") _) _ _ _
  refine wpAny_pure ⟨Code.quiet_builtin _ (by decide +kernel), codeAny_builtin F.entry_type_call ?_⟩
  rw [Around.under_plain (weight_type_call_type "set" [.ref l] []) rfl]
  have h1 := F.called_set.notType
  have h2 := F.called_set.canCreate
  have hct := F.typeCall_set_1 (.ref l)
  repeat (any_goals (first | assumption | wp_step))
  refine codeAny_mono (code_set_led1 (.ref l) (E := E) (Q₁ := fun obj s₁ => obj = .ref s.heap.objs.size ∧ s₁ = { s with heap := s.heap.push { cls := .type "set", dict := none, data := .set #[] 0 (.fresh 0 0 (!w.params.followText "set-order")) } }) ⟨rfl, rfl⟩) fun r s₁ hr => ?_
  cases r with
  | error e => exact hr
  | ok fl =>
    cases fl with
    | ret obj =>
      obtain ⟨rfl, rfl⟩ := hr
      have hS : (s.heap.push { cls := .type "set", dict := none, data := .set #[] 0 (.fresh 0 0 (!w.params.followText "set-order")) }).get? s.heap.objs.size = some { cls := .type "set", dict := none, data := .set #[] 0 (.fresh 0 0 (!w.params.followText "set-order")) } := Heap.get?_push_size _ rfl
      have hT : Shared.TypeIs { s with heap := s.heap.push { cls := .type "set", dict := none, data := .set #[] 0 (.fresh 0 0 (!w.params.followText "set-order")) } } (.ref s.heap.objs.size) "set" := ⟨_, hS, rfl⟩
      have hli := F.called_set.init.lookup
      have hbi := F.called_set.init.bind (.ref s.heap.objs.size)
      repeat (any_goals (first | assumption | wp_step))
      refine codeAny_mono (codeAny_call_builtin (R := wants (fun r s₂ => r = .none ∧ ∃ h' tk c, s₂ = { s with heap := h', toks := tk } ∧ SetK0 w h' s.heap.objs.size ks c ∧ c ≤ ks.length ∧
          (∀ b o, s.heap.get? b = some o → h'.get? b = some o)) E) F.called_set.init.plain F.entry_set_init (check_set_init_1 hT ?_)) fun r₂ s₂ hr₂ => ?_
      · obtain ⟨ol, hol, hcl, nl, hdl⟩ := hl
        obtain ⟨ocls, odict, odata, oslots⟩ := ol
        simp only at hcl hdl
        subst hcl; subst hdl
        have hol' : (s.heap.push { cls := .type "set", dict := none, data := .set #[] 0 (.fresh 0 0 (!w.params.followText "set-order")) }).get? l = some { cls := .type "list", dict := odict, data := .seq items nl, slots := oslots } := Heap.get?_push_of_some _ hol
        have hsls := F.sub_list_set
        have hslf := F.sub_list_frozenset
        have hne : (Value.type "list" == Value.type "dict") = false := by decide
        have hl1 : (s.heap.push { cls := .type "set", dict := none, data := .set #[] 0 (.fresh 0 0 (!w.params.followText "set-order")) }).IsList l items := ⟨_, hol', rfl, nl, rfl⟩
        unfold Builtin.«set.__init__» noKeywords Builtin.Frozenset.updateFrom
        generalize hPI : pyIter = PI
        wp_walk
        subst hPI
        refine wpAny_pyIter_list hl1 ?_
        refine wpAny_bind (wpAny_runValue ?_)
        have hlS : l < s.heap.objs.size := Heap.lt_size hol
        have hh3 : A.in1.in1.in1.handled = none := by simp [hh]
        have hz1 : (s.heap.push { cls := .type "set", dict := none, data := .set #[] 0 (.fresh 0 0 (!w.params.followText "set-order")) }).objs.size = s.heap.objs.size + 1 := Heap.size_push ..
        have hneI : l ≠ (s.heap.push { cls := .type "set", dict := none, data := .set #[] 0 (.fresh 0 0 (!w.params.followText "set-order")) }).objs.size := by
          rw [Heap.size_push]; exact Nat.ne_of_lt (Nat.lt_succ_of_lt hlS)
        have hSf : s.heap.objs.size ∉ [(s.heap.push { cls := .type "set", dict := none, data := .set #[] 0 (.fresh 0 0 (!w.params.followText "set-order")) }).objs.size, l] := by
          rw [Heap.size_push]; simp only [List.mem_cons, List.mem_singleton, List.not_mem_nil, or_false, not_or]
          exact ⟨Nat.ne_of_lt (Nat.lt_succ_self _), Nat.ne_of_gt hlS⟩
        have hval : ∀ (i : Nat) (v : Value), items[i]? = some v → ∃ k, ks[i]? = some k ∧ keyIs k v = true := fun i v hv => by
          have q : items.toList[i]? = some v := by rw [Array.getElem?_toList]; exact hv
          refine ⟨kyV v, ?_, hit.2 v (List.mem_of_getElem? q)⟩
          rw [← hit.1, List.getElem?_map, q]
          rfl
        refine setK0_loop ((Walks.list hh3 _ l hneI items).toS) s.heap.objs.size
          hSf ks hisz hb hval (items.size - 0) 0 _ (by omega) (Nat.zero_le _)
          ⟨⟨_, Heap.get?_push_size _ rfl, rfl, rfl⟩, (hl1.push _)⟩ ?hS0 ?hR
        case hS0 =>
          have hget : ((s.heap.push { cls := .type "set", dict := none, data := .set #[] 0 (.fresh 0 0 (!w.params.followText "set-order")) }).push { cls := .type "list_iterator", data := .fields #[.ref l, .int 0 0] }).get? s.heap.objs.size
              = some { cls := .type "set", dict := none, data := .set #[] 0 (.fresh 0 0 (!w.params.followText "set-order")) } := Heap.get?_push_of_some _ hS
          exact ⟨0, Nat.le_refl 0, setK0_new hget⟩
        case hR =>
          intro s' c' hm hc' hS'
          obtain ⟨h', g2, d', tk', os'⟩ := s'
          have eg : g2 = s.gens := hm.gens
          have ed : d' = s.drawn := hm.drawn
          have eo : os' = s.os := hm.os
          subst eg; subst ed; subst eo
          show wpAny _ _ _ _ _ _
          refine wpAny_pure ?_
          show wpAny _ _ (ret Value.none) _ _ _
          rw [hisz] at hc'
          refine wpAny_pure ⟨rfl, h', tk', c', rfl, hS', hc', fun b o e => ?_⟩
          have hb0 : b < s.heap.objs.size := Heap.lt_size e
          have hb1 : b ≠ s.heap.objs.size := Nat.ne_of_lt hb0
          have hb2 : b ≠ (s.heap.push { cls := .type "set", dict := none, data := .set #[] 0 (.fresh 0 0 (!w.params.followText "set-order")) }).objs.size := by
            rw [Heap.size_push]; exact Nat.ne_of_lt (Nat.lt_succ_of_lt hb0)
          exact hm.heap b o (by simp only [List.mem_cons, List.mem_singleton, List.not_mem_nil, or_false, not_or]; exact ⟨hb1, hb2⟩) (Heap.get?_push_of_some _ (Heap.get?_push_of_some _ e))
      · cases r₂ with
        | error e => exact hr₂
        | ok fl₂ =>
          cases fl₂ with
          | ret r =>
            obtain ⟨rfl, h', tk, c', rfl, hS', hc', hk'⟩ := hr₂
            repeat (any_goals (first | assumption | wp_step))
            exact h _ _ _ hS' hc' hk'
          | _ => exact hr₂.elim
    | _ => exact hr.elim
end
end LR

set_option Elab.async false
set_option linter.all false
set_option maxRecDepth 100000
set_option maxHeartbeats 4000000
/-! sorted(set(xs)), by value. -/
namespace LR
open PySem PySem.Spec PyProof.Rows L2

/-! ### sorting without doubles -/
def insK {α : Type} (lt : α → α → Bool) (x : α) : List α → List α
  | [] => [x]
  | y :: r => if lt x y then x :: y :: r else if lt y x then y :: insK lt x r else y :: r
def sortK {α : Type} (lt : α → α → Bool) : List α → List α
  | [] => []
  | x :: r => insK lt x (sortK lt r)
structure Ord {α : Type} (lt : α → α → Bool) (p : α → Prop) : Prop where
  irr : ∀ a, lt a a = false
  trn : ∀ a b c, lt a b = true → lt b c = true → lt a c = true
  tot : ∀ a b, p a → p b → lt a b = false → lt b a = false → a = b
section
variable {α : Type} {lt : α → α → Bool} {p : α → Prop}
theorem insK_mem (o : Ord lt p) {x : α} (hx : p x) : ∀ {l : List α}, (∀ y ∈ l, p y) → ∀ z, z ∈ insK lt x l ↔ z = x ∨ z ∈ l
  | [], _, z => by simp [insK]
  | y :: r, h, z => by
    unfold insK
    split
    · simp
    · split
      · rw [List.mem_cons, insK_mem o hx (fun w hw => h w (List.mem_cons_of_mem _ hw)), List.mem_cons]
        constructor
        · rintro (a | a | a)
          · exact .inr (.inl a)
          · exact .inl a
          · exact .inr (.inr a)
        · rintro (a | a | a)
          · exact .inr (.inl a)
          · exact .inl a
          · exact .inr (.inr a)
      · rename_i h1 h2
        rw [Bool.not_eq_true] at h1 h2
        have e := o.tot x y hx (h y List.mem_cons_self) h1 h2
        rw [e, List.mem_cons]
        exact ⟨.inr, fun q => q.elim .inl id⟩
theorem insK_up (o : Ord lt p) {x : α} (hx : p x) : ∀ {l : List α}, (∀ y ∈ l, p y) → l.Pairwise (fun a b => lt a b = true) → (insK lt x l).Pairwise (fun a b => lt a b = true)
  | [], _, _ => by simp [insK]
  | y :: r, h, w => by
    obtain ⟨w1, w2⟩ := List.pairwise_cons.mp w
    unfold insK
    split
    · rename_i h1
      refine List.pairwise_cons.mpr ⟨fun z hz => ?_, w⟩
      rcases List.mem_cons.mp hz with e | e
      · rw [e]; exact h1
      · exact o.trn _ _ _ h1 (w1 z e)
    · split
      · rename_i h1 h2
        refine List.pairwise_cons.mpr ⟨fun z hz => ?_, insK_up o hx (fun w hw => h w (List.mem_cons_of_mem _ hw)) w2⟩
        rcases (insK_mem o hx (fun w hw => h w (List.mem_cons_of_mem _ hw)) z).mp hz with e | e
        · rw [e]; exact h2
        · exact w1 z e
      · exact w
theorem sortK_ok (o : Ord lt p) : ∀ {l : List α}, (∀ y ∈ l, p y) → (∀ z, z ∈ sortK lt l ↔ z ∈ l) ∧ (sortK lt l).Pairwise (fun a b => lt a b = true)
  | [], _ => ⟨fun z => by simp [sortK], List.Pairwise.nil⟩
  | x :: l, h => by
    obtain ⟨m, w⟩ := sortK_ok o (l := l) fun y hy => h y (List.mem_cons_of_mem _ hy)
    have hp : ∀ y ∈ sortK lt l, p y := fun y hy => h y (List.mem_cons_of_mem _ ((m y).mp hy))
    have hx := h x List.mem_cons_self
    refine ⟨fun z => ?_, insK_up o hx hp w⟩
    show z ∈ insK lt x (sortK lt l) ↔ _
    rw [insK_mem o hx hp z, m z, List.mem_cons]
/-- what rises strictly is told by its members -/
theorem up_unique (o : Ord lt p) : ∀ {l m : List α}, l.Pairwise (fun a b => lt a b = true) → m.Pairwise (fun a b => lt a b = true) → (∀ z, z ∈ l ↔ z ∈ m) → l = m
  | [], [], _, _, _ => rfl
  | [], y :: m, _, _, h => by
    have := (h y).mpr List.mem_cons_self
    cases this
  | x :: l, [], _, _, h => by
    have := (h x).mp List.mem_cons_self
    cases this
  | x :: l, y :: m, hl, hm, h => by
    obtain ⟨l1, l2⟩ := List.pairwise_cons.mp hl
    obtain ⟨m1, m2⟩ := List.pairwise_cons.mp hm
    have asym : ∀ a b, lt a b = true → lt b a = true → False := fun a b u v => by
      have := o.trn a b a u v
      rw [o.irr a] at this
      cases this
    have e : x = y := by
      rcases List.mem_cons.mp ((h x).mp List.mem_cons_self) with z | z
      · exact z
      · rcases List.mem_cons.mp ((h y).mpr List.mem_cons_self) with u | u
        · exact u.symm
        · exact (asym x y (l1 y u) (m1 x z)).elim
    rw [← e] at h hm m1 ⊢
    refine congrArg (x :: ·) (up_unique o l2 m2 fun z => ?_)
    constructor
    · intro hz
      rcases List.mem_cons.mp ((h z).mp (List.mem_cons_of_mem _ hz)) with u | u
      · have := l1 z hz
        rw [u, o.irr x] at this
        cases this
      · exact u
    · intro hz
      rcases List.mem_cons.mp ((h z).mpr (List.mem_cons_of_mem _ hz)) with u | u
      · have := m1 z hz
        rw [u, o.irr x] at this
        cases this
      · exact u
end
def ltN (a b : Int) : Bool := decide (a < b)
def ltS (a b : Str) : Bool := ltCps a.cps.toList b.cps.toList
def ltT (B : Int) (a b : List Int) : Bool := decide (TS.code B a < TS.code B b)
theorem ord_N : Ord ltN fun _ => True := ⟨fun a => by simp [ltN], fun a b c h k => by simp only [ltN, decide_eq_true_eq] at h k ⊢; omega, fun a b _ _ h k => by simp only [ltN, decide_eq_false_iff_not] at h k; omega⟩
theorem ltCps_irr : ∀ a : List Nat, ltCps a a = false
  | [] => rfl
  | x :: r => by
    unfold ltCps
    simp [ltCps_irr r]
theorem ltCps_trn : ∀ a b c : List Nat, ltCps a b = true → ltCps b c = true → ltCps a c = true
  | [], [], _, h, _ => by cases h
  | [], _ :: _, [], _, h => by cases h
  | [], _ :: _, _ :: _, _, _ => rfl
  | _ :: _, [], _, h, _ => by cases h
  | _ :: _, _ :: _, [], _, h => by cases h
  | x :: a, y :: b, z :: c, h, k => by
    unfold ltCps at h k ⊢
    simp only [Bool.or_eq_true, decide_eq_true_eq, Bool.and_eq_true, beq_iff_eq] at h k ⊢
    rcases h with h | ⟨h, h2⟩
    · rcases k with k | ⟨k, k2⟩
      · exact .inl (by omega)
      · exact .inl (by omega)
    · rcases k with k | ⟨k, k2⟩
      · exact .inl (by omega)
      · exact .inr ⟨by omega, ltCps_trn a b c h2 k2⟩
theorem ltCps_tot : ∀ a b : List Nat, ltCps a b = false → ltCps b a = false → a = b
  | [], [], _, _ => rfl
  | [], _ :: _, h, _ => by cases h
  | _ :: _, [], _, h => by cases h
  | x :: a, y :: b, h, k => by
    unfold ltCps at h k
    simp only [Bool.or_eq_false_iff, decide_eq_false_iff_not, Bool.and_eq_false_iff, beq_eq_false_iff_ne] at h k
    have e : x = y := by omega
    rw [e, ltCps_tot a b (h.2.elim (fun z => absurd e z) id) (k.2.elim (fun z => absurd e.symm z) id)]
theorem ord_S : Ord ltS fun _ => True := ⟨fun a => ltCps_irr _, fun a b c => ltCps_trn _ _ _, fun a b _ _ h k => by
  have e := ltCps_tot _ _ h k
  cases a
  cases b
  simp at e
  rw [e]⟩
theorem code_tot {B : Int} : ∀ {a b : List Int}, TS.Bd B a → TS.Bd B b → a.length = b.length → TS.code B a = TS.code B b → a = b
  | [], [], _, _, _, _ => rfl
  | x :: a, y :: b, ha, hb, hl, h => by
    have hl' : a.length = b.length := by simpa using hl
    rcases Int.lt_trichotomy x y with z | z | z
    · have := TS.code_lt hl' ha.tail hb.tail z
      omega
    · rw [z] at h
      have e : TS.code B a = TS.code B b := by
        have h : y * B ^ a.length + TS.code B a = y * B ^ b.length + TS.code B b := h
        rw [hl'] at h
        omega
      rw [z, code_tot ha.tail hb.tail hl' e]
    · have := TS.code_lt hl'.symm hb.tail ha.tail z
      omega
  | [], _ :: _, _, _, h, _ => by simp at h
  | _ :: _, [], _, _, h, _ => by simp at h
theorem ord_T (B : Int) (d : Nat) : Ord (ltT B) fun ns => TS.Bd B ns ∧ ns.length = d := ⟨fun a => by simp [ltT], fun a b c h k => by simp only [ltT, decide_eq_true_eq] at h k ⊢; omega, fun a b ha hb h k => by
  simp only [ltT, decide_eq_false_iff_not] at h k
  exact code_tot ha.1 hb.1 (by rw [ha.2, hb.2]) (by omega)⟩

/-! ### by value -/
def strsOf : List D → Option (List Str)
  | [] => some []
  | .str b :: r => (strsOf r).map (b :: ·)
  | _ :: _ => none
def tupsOf : List D → Option (List (List Int))
  | [] => some []
  | .tup ds :: r => (intsOf ds).bind fun ns => (tupsOf r).map (ns :: ·)
  | _ :: _ => none
def bigOf (ks : List (List Int)) : Int := 1 + (ks.flatten.map fun i => (i.natAbs : Int)).sum
def goodT (d : Nat) (ks : List (List Int)) : Bool := decide (1 ≤ d) && ks.all fun k => decide (k.length = d) && k.all fun i => decide (0 ≤ i)
def dSet : D → Option O
  | .lst ds => if ds.length < 60 then match ds with
    | .int i :: r => (intsOf (.int i :: r)).map fun ns => .lst ((sortK ltN ns).map .int)
    | .str x :: r => (strsOf (.str x :: r)).map fun xs => .lst ((sortK ltS xs).map .str)
    | .tup t :: r => (tupsOf (.tup t :: r)).bind fun ks => if goodT t.length ks then some (.lst ((sortK (ltT (bigOf ks)) ks).map fun k => .tup (k.map .int))) else none
    | _ => none
  else none
  | _ => none
theorem big_le {ks : List (List Int)} {k : List Int} {i : Int} (hk : k ∈ ks) (hi : i ∈ k) : i < bigOf ks := by
  have key : ∀ {l : List Int} {i : Int}, i ∈ l → i ≤ (l.map fun i => (i.natAbs : Int)).sum ∧ 0 ≤ (l.map fun i => (i.natAbs : Int)).sum := by
    intro l
    induction l with
    | nil =>
      intro i h
      cases h
    | cons x l ih =>
      intro i h
      have pos : 0 ≤ (l.map fun i => (i.natAbs : Int)).sum := by
        cases l with
        | nil => simp
        | cons y l => exact (ih (i := y) List.mem_cons_self).2
      rw [List.map_cons, List.sum_cons]
      rcases List.mem_cons.mp h with z | z
      · rw [z]
        omega
      · have := (ih z).1
        omega
  have := (key (List.mem_flatten.mpr ⟨k, hk, hi⟩)).1
  unfold bigOf
  omega
theorem strs_rd {K : PySem.W.Frag} {F : Hp} : ∀ {ds : List D} {vs : List V} {xs : List Str}, RDs K F ds vs → strsOf ds = some xs → vs = xs.map V.str
  | [], vs, xs, h, e => by
    unfold RDs at h
    cases e
    rw [h]
    rfl
  | d :: ds, vs, xs, h, e => by
    unfold RDs at h
    obtain ⟨v, r, e1, q, t⟩ := h
    cases d with
    | str b =>
      obtain ⟨ys, hy, e2⟩ := Option.map_eq_some_iff.mp (show (strsOf ds).map (b :: ·) = some xs from e)
      unfold RD at q
      rw [e1, q, strs_rd t hy, ← e2]
      rfl
    | _ => cases e
theorem strsD {K : PySem.W.Frag} {F : Hp} : ∀ xs : List Str, RDs K F (xs.map D.str) (xs.map V.str)
  | [] => .nil
  | x :: xs => .cons (by unfold RD; rfl) (strsD xs)
theorem tups_rd {K : PySem.W.Frag} {F : Hp} : ∀ {ds : List D} {vs : List V} {ks : List (List Int)}, RDs K F ds vs → tupsOf ds = some ks → ∃ ps : List (Addr × List Int), vs = ps.map (fun p => V.ref p.1) ∧ ps.map (·.2) = ks ∧ ∀ p ∈ ps, SqT K F p.1 (p.2.map V.int)
  | [], vs, ks, h, e => by
    unfold RDs at h
    cases e
    exact ⟨[], h, rfl, fun p hp => by cases hp⟩
  | d :: ds, vs, ks, h, e => by
    unfold RDs at h
    obtain ⟨v, r, e1, q, t⟩ := h
    cases d with
    | tup es =>
      obtain ⟨ns, hn, e⟩ := Option.bind_eq_some_iff.mp (show (intsOf es).bind (fun ns => (tupsOf ds).map (ns :: ·)) = some ks from e)
      obtain ⟨ms, hm, e⟩ := Option.map_eq_some_iff.mp e
      unfold RD at q
      obtain ⟨a, us, e2, sq, rs⟩ := q
      obtain ⟨ps, p1, p2, p3⟩ := tups_rd t hm
      have e3 := ints_rd rs hn
      refine ⟨(a, ns) :: ps, by rw [e1, e2, p1]; rfl, by rw [← e, ← p2]; rfl, fun p hp => ?_⟩
      rcases List.mem_cons.mp hp with z | z
      · rw [z]
        rw [e3] at sq
        exact sq
      · exact p3 p z
    | _ => cases e

/-! ### the machine -/
def SetKO (w : World) (a : Addr) (S : List Key) (n : Nat) : HO := .ext fun h => SetK0 w h a S n
theorem setKO_new {w : World} {P : Program} {H : Hp} {h : Heap} {a : Addr} {S : List Key} {n : Nat} (r : SetK0 w h a S n) : ObjOk P w H h a (SetKO w a S n) := by
  have ⟨o, _, _, _, ho, _⟩ := r
  exact ⟨r, ⟨o, ho⟩, fun h1 h2 p k => SetK0.at p k⟩
section
variable {X : Cx}
def rSetKL (K : PySem.W.Frag) (w : World) : List V → Hp → VK → Prop := fun vs H Q => ∃ (l : Addr) (ks : List Key), vs = [V.ref l] ∧ SqL K H l (ks.map kV) ∧ ks.length < 60 ∧ ∀ a n, H a = none → n ≤ ks.length → Q (.ref a) (upd H a (SetKO w a ks n))
theorem keys_are : ∀ {ks : List Key} {us : List Value}, Vals (ks.map kV) us → KeysAre us ks
  | [], _, .nil => ⟨rfl, fun v hv => by cases hv⟩
  | .inl i :: ks, _, .cons r t => by
    obtain ⟨tk, rfl⟩ := r
    obtain ⟨h1, h2⟩ := keys_are t
    refine ⟨by rw [List.map_cons, h1]; rfl, fun v hv => ?_⟩
    rcases List.mem_cons.mp hv with z | z
    · rw [z]; exact keyIs_int i tk
    · exact h2 v z
  | .inr i :: ks, _, .cons r t => by
    obtain ⟨tk, rfl⟩ := r
    obtain ⟨h1, h2⟩ := keys_are t
    refine ⟨by rw [List.map_cons, h1]; rfl, fun v hv => ?_⟩
    rcases List.mem_cons.mp hv with z | z
    · rw [z]; exact keyIs_str i tk
    · exact h2 v z
theorem cr_setKL (hc : X.calm = true) : CallR X (.type "set") (rSetKL X.K X.w) := by
  intro pins s σ H vs us Q I r h
  obtain ⟨l, ks, rfl, hs, hf, q⟩ := h
  rw [Vals.ref1 r]
  obtain ⟨its, rv, pl, hz⟩ := I.list hs
  have hn : H s.heap.objs.size = none := I.hok.fresh (Nat.le_refl _)
  refine call_setK0 (P := X.prog) ks (I.ok.hd hc) pl.isList (by simpa using keys_are rv) (by unfold scanBound; omega) fun h' tk c S hcl kp => ?_
  exact ⟨.ref s.heap.objs.size, upd H s.heap.objs.size (SetKO X.w s.heap.objs.size ks c), I.laid (t' := tk) kp (Nat.le_refl _) (setKO_new S), rfl, q _ c hn hcl⟩
/-- sorted(a set of keys): all ints, or all texts -/
def rSortedK (w : World) : List V → Hp → VK → Prop := fun vs H Q => ∃ (a : Addr) (ks : List Key) (n : Nat), vs = [V.ref a] ∧ H a = some (SetKO w a ks n) ∧ n < 64 ∧
  ((∃ ns : List Int, ks = ns.map Sum.inl ∧ ∀ p, H p = none → Q (.ref p) (upd H p (.lst ((sortK ltN ns).map V.int)))) ∨ ∃ xs : List Str, ks = xs.map Sum.inr ∧ ∀ p, H p = none → Q (.ref p) (upd H p (.lst ((sortK ltS xs).map V.str))))
theorem rising_pair : ∀ {x : Str} {l : List Str}, risingS x l = true → (x :: l).Nodup → (x :: l).Pairwise fun a b => ltS a b = true
  | x, [], _, _ => List.pairwise_singleton _ _
  | x, y :: l, h, nd => by
    unfold risingS at h
    rw [Bool.and_eq_true, Bool.not_eq_true'] at h
    obtain ⟨n1, n2⟩ := List.nodup_cons.mp nd
    have w := rising_pair h.2 n2
    have hxy : ltS x y = true := by
      cases hb : ltS x y with
      | true => rfl
      | false => exact absurd (ord_S.tot x y trivial trivial hb h.1) (fun e => n1 (by rw [e]; exact List.mem_cons_self))
    refine List.pairwise_cons.mpr ⟨fun z hz => ?_, w⟩
    rcases List.mem_cons.mp hz with e | e
    · rw [e]; exact hxy
    · exact ord_S.trn _ _ _ hxy ((List.pairwise_cons.mp w).1 z e)
theorem cr_sortedK (hc : X.calm = true) : CallR X (.builtin "sorted") (rSortedK X.w) := by
  intro pins s σ H vs us Q I r h
  obtain ⟨a, ks, n, rfl, ha, h64, q⟩ := h
  rw [Vals.ref1 r]
  obtain ⟨o, es, ep, t, ho, hex, hd, g, nd, hm, hb, hf, hn, hr, hl⟩ := (I.hok a _ ha).1
  refine Calls.call_function_entry kind_sorted plain_sorted entry_sorted (args_sorted1 _) ?_
  unfold Builtin.«sorted»
  refine wpAny_bind (m := checkCount "sorted" 1 1 _) (wpAny_pure ?_)
  refine wpAny_bind (collect_set (A := X.A.in1) (I.ok.hd hc) ⟨o, ho, hex.1, hd⟩ hf hb hr hl fun s1 vs k1 hz g1 o1 pm => ?_)
  have hvl : vs.length = n := by rw [pm.length_eq, List.length_map, Array.length_toList]; exact hn
  have pk : (vs.map kyV).Perm (es.toList.map kyE) := by
    have z := pm.map kyV
    rw [List.map_map] at z
    exact z
  have hvk : ∀ v ∈ vs, keyIs (kyV v) v = true := fun v hv => by
    obtain ⟨e, he, z⟩ := List.mem_map.mp (pm.mem_iff.mp hv)
    obtain ⟨k, h1, _⟩ := g e he
    rw [← z]
    show keyIs (kyE e) e.2 = true
    rw [show kyE e = k from kyV_is h1]
    exact h1
  have hmem : ∀ k, k ∈ ks ↔ k ∈ vs.map kyV := fun k => (hm k).trans pk.mem_iff.symm
  have hnd : (vs.map kyV).Nodup := pk.nodup_iff.mpr nd
  refine wpAny_bind (wpAny_newList ?_ (by rw [hvl, sizeLine_eq]; omega))
  have hoL : (s1.heap.push (seqObj "list" vs.toArray 0)).get? s1.heap.objs.size = some (seqObj "list" vs.toArray 0) := Heap.get?_push_size _ rfl
  have fresh : H s1.heap.objs.size = none := I.hok.fresh hz
  have done : ∀ (out : Array Value) (ys : List V), Vals ys out.toList → ys.length = vs.length → Q (.ref s1.heap.objs.size) (upd H s1.heap.objs.size (.lst ys)) →
      EP X pins σ Q (.ref s1.heap.objs.size) { s1 with heap := sortedHeap (s1.heap.push (seqObj "list" vs.toArray 0)) s1.heap.objs.size vs out } := fun out ys rv hyl qq => by
    obtain ⟨c, hc'⟩ := sortedHeap_at (vs := vs) (out := out) hoL
    have kp : ∀ b u, s.heap.get? b = some u → (sortedHeap (s1.heap.push (seqObj "list" vs.toArray 0)) s1.heap.objs.size vs out).get? b = some u := fun b u e => by
      have z := k1 b u e
      have hlt := Heap.lt_size z
      rw [sortedHeap_old (Nat.ne_of_lt hlt) (by rw [size_push']; exact Nat.lt_succ_of_lt hlt)]
      exact Heap.get?_push_of_some _ z
    have hlen : ys.length ≤ sizeLine := by rw [hyl, hvl, sizeLine_eq]; omega
    have J : Inv X pins σ (upd H s1.heap.objs.size (.lst ys)) { s with heap := sortedHeap (s1.heap.push (seqObj "list" vs.toArray 0)) s1.heap.objs.size vs out, gens := s1.gens, drawn := s1.drawn, toks := s1.toks } :=
      I.call (ch := []) (Un.laid kp hz fresh) (I.hok.laid kp hz ⟨hlen, out.toList, c, rv, hc'⟩) (by rw [g1]; exact I.bare) (fun _ z => nomatch z)
    have e : ({ s1 with heap := sortedHeap (s1.heap.push (seqObj "list" vs.toArray 0)) s1.heap.objs.size vs out } : Shared) = { s with heap := sortedHeap (s1.heap.push (seqObj "list" vs.toArray 0)) s1.heap.objs.size vs out, gens := s1.gens, drawn := s1.drawn, toks := s1.toks } := by
      cases s1
      cases s
      cases o1
      rfl
    rw [e]
    exact ⟨.ref s1.heap.objs.size, _, J, rfl, qq⟩
  rcases q with ⟨ns, hks, q⟩ | ⟨xs, hks, q⟩
  · -- ints
    have hI : ∀ vs : List Value, (∀ v ∈ vs, keyIs (kyV v) v = true) → (∀ v ∈ vs, kyV v ∈ ks) → ∃ ms, IntsAre vs ms ∧ vs.map kyV = ms.map Sum.inl := by
      intro vs
      induction vs with
      | nil => exact fun _ _ => ⟨[], .nil, rfl⟩
      | cons v vs ih =>
        intro h1 h2
        obtain ⟨ms, m1, m2⟩ := ih (fun u hu => h1 u (List.mem_cons_of_mem _ hu)) fun u hu => h2 u (List.mem_cons_of_mem _ hu)
        have z := h2 v List.mem_cons_self
        rw [hks] at z
        obtain ⟨i, _, ei⟩ := List.mem_map.mp z
        have h3 := h1 v List.mem_cons_self
        rw [← ei] at h3
        obtain ⟨tk, rfl⟩ := Value.isInt_shape (k := i) (v := v) h3
        exact ⟨i :: ms, .cons i tk m1, by rw [List.map_cons, m2]; rfl⟩
    obtain ⟨ms, hms, hmk⟩ := hI vs hvk fun v hv => (hmem _).mpr (List.mem_map.mpr ⟨v, hv, rfl⟩)
    refine wpAny_bind (wpAny_holding (wpAny_call_entry slot_list_sort ⟨_, hoL, rfl⟩ entry_list_sort (list_sort_tree hoL hms (by rw [hvl]; exact h64) fun out ns' a1 a2 a3 => ⟨_, rfl, ?_⟩) (args_list_sort _)))
    have inj : ∀ {a b : List Int}, a.map (Sum.inl (β := Str)) = b.map Sum.inl → a = b := fun {a b} h => by
      induction a generalizing b with
      | nil => cases b <;> simp at h ⊢
      | cons x a ih =>
        cases b with
        | nil => simp at h
        | cons y b =>
          rw [List.map_cons, List.map_cons] at h
          rw [Sum.inl.inj (List.cons.inj h).1, ih (List.cons.inj h).2]
    have ndm : ms.Nodup := by
      rw [hmk] at hnd
      exact hnd.of_map _ fun a b hne e => hne (by rw [e])
    have ndn : ns'.Nodup := a2.nodup_iff.mpr ndm
    have up : ns'.Pairwise fun a b => ltN a b = true := by
      refine (a3.and ndn).imp fun {a b} hh => ?_
      simp only [ltN, decide_eq_true_eq]
      have := hh.1
      have := hh.2
      omega
    have eq : ns' = sortK ltN ns := by
      obtain ⟨m1, m2⟩ := sortK_ok ord_N (l := ns) fun _ _ => trivial
      refine up_unique ord_N up m2 fun z => ?_
      rw [m1 z, a2.mem_iff]
      have z1 := hmem (Sum.inl z)
      rw [hks, hmk] at z1
      have f : ∀ {l : List Int}, (Sum.inl z : Key) ∈ l.map Sum.inl ↔ z ∈ l := fun {l} => ⟨fun h => by
        obtain ⟨u, hu, e⟩ := List.mem_map.mp h
        rw [← Sum.inl.inj e]
        exact hu, fun h => List.mem_map.mpr ⟨z, h, rfl⟩⟩
      rw [f, f] at z1
      exact z1.symm
    refine wpAny_pure ?_
    refine ⟨_, rfl, ?_⟩
    refine done out ((sortK ltN ns).map V.int) (by rw [← eq]; exact vals_of_ints a1) ?_ (q _ fresh)
    rw [List.length_map, ← eq, a2.length_eq, ← hms.length]
  · -- texts
    have hI : ∀ vs : List Value, (∀ v ∈ vs, keyIs (kyV v) v = true) → (∀ v ∈ vs, kyV v ∈ ks) → ∃ ms, StrsAre vs ms ∧ vs.map kyV = ms.map Sum.inr := by
      intro vs
      induction vs with
      | nil => exact fun _ _ => ⟨[], .nil, rfl⟩
      | cons v vs ih =>
        intro h1 h2
        obtain ⟨ms, m1, m2⟩ := ih (fun u hu => h1 u (List.mem_cons_of_mem _ hu)) fun u hu => h2 u (List.mem_cons_of_mem _ hu)
        have z := h2 v List.mem_cons_self
        rw [hks] at z
        obtain ⟨i, _, ei⟩ := List.mem_map.mp z
        have h3 := h1 v List.mem_cons_self
        rw [← ei] at h3
        obtain ⟨tk, rfl⟩ := Value.isStrOf_shape (x := i) (v := v) h3
        exact ⟨i :: ms, .cons i tk m1, by rw [List.map_cons, m2]; rfl⟩
    obtain ⟨ms, hms, hmk⟩ := hI vs hvk fun v hv => (hmem _).mpr (List.mem_map.mpr ⟨v, hv, rfl⟩)
    refine wpAny_bind (wpAny_holding (wpAny_call_entry slot_list_sort ⟨_, hoL, rfl⟩ entry_list_sort (list_sort_treeK strKind_oneLt hoL hms.keysOf (fun v₁ v₂ rest e => keyKind_strs (by rw [← e]; exact hms)) (by rw [hvl]; exact h64) fun st' hp hs => ⟨_, rfl, ?_⟩) (args_list_sort _)))
    obtain ⟨ys, a1, a2, a3⟩ := sorted_out_str hms hp hs
    have ndm : ms.Nodup := by
      rw [hmk] at hnd
      exact hnd.of_map _ fun a b hne e => hne (by rw [e])
    have ndn : ys.Nodup := a2.nodup_iff.mpr ndm
    have up : ys.Pairwise fun a b => ltS a b = true := by
      cases ys with
      | nil => exact List.Pairwise.nil
      | cons y ys => exact rising_pair a3 ndn
    have eq : ys = sortK ltS xs := by
      obtain ⟨m1, m2⟩ := sortK_ok ord_S (l := xs) fun _ _ => trivial
      refine up_unique ord_S up m2 fun z => ?_
      rw [m1 z, a2.mem_iff]
      have z1 := hmem (Sum.inr z)
      rw [hks, hmk] at z1
      have f : ∀ {l : List Str}, (Sum.inr z : Key) ∈ l.map Sum.inr ↔ z ∈ l := fun {l} => ⟨fun h => by
        obtain ⟨u, hu, e⟩ := List.mem_map.mp h
        rw [← Sum.inr.inj e]
        exact hu, fun h => List.mem_map.mpr ⟨z, h, rfl⟩⟩
      rw [f, f] at z1
      exact z1.symm
    refine wpAny_pure ?_
    refine ⟨_, rfl, ?_⟩
    refine done _ ((sortK ltS xs).map V.str) (by rw [← eq]; exact vals_of_strs a1) ?_ (q _ fresh)
    rw [List.length_map, ← eq, a2.length_eq, ← hms.length]
end
end LR

set_option Elab.async false
set_option linter.all false
set_option maxRecDepth 100000
set_option maxHeartbeats 4000000
/-! sorted(set(..)), x[::-1], slices stored, two items stored at once, list(range(..)). -/
namespace LR
open PySem PySem.Spec PyProof.Rows L2

theorem R0.put {K : PySem.W.Frag} {F H : Hp} {l : List (V × O)} {a : Addr} {u : HO} (h : R0 K F H l) (hp : H a = none) : R0 K F (upd H a u) l := by
  obtain ⟨fp, e, r, nd, n⟩ := h
  have np : ∀ b ∈ fp, b ≠ a := fun b hb z => R.fpSome r b hb (by rw [z]; exact hp)
  exact ⟨fp, e.put (e.free hp), r.mono (Le.refl F) fun b hb => upd_ne (np b hb), nd, n⟩
theorem S0.put {K : PySem.W.Frag} {F : Hp} {pv : Nat → Option V} {e : Env} {σ : L2.St} {rest : List (V × O)} {H : Hp} {a : Addr} {u : HO} (s : S0 K F pv e σ rest H) (hp : H a = none) : S0 K F pv e σ rest (upd H a u) := ⟨s.cov, s.pin, s.res.put hp⟩
theorem ints_kV : ∀ ns : List Int, (ns.map (Sum.inl (β := Str))).map kV = ns.map V.int
  | [] => rfl
  | n :: ns => by
    rw [List.map_cons, List.map_cons, ints_kV ns]
    rfl
theorem strs_kV : ∀ ns : List Str, (ns.map (Sum.inr (α := Int))).map kV = ns.map V.str
  | [] => rfl
  | n :: ns => by
    rw [List.map_cons, List.map_cons, strs_kV ns]
    rfl
theorem tupsD {K : PySem.W.Frag} {F : Hp} : ∀ {L : List (Addr × List Int)}, (∀ p ∈ L, SqT K F p.1 (p.2.map V.int)) → RDs K F ((L.map (·.2)).map fun k => D.tup (k.map D.int)) (L.map fun p => V.ref p.1)
  | [], _ => .nil
  | p :: L, h => by
    rw [List.map_cons, List.map_cons, List.map_cons]
    refine .cons ?_ (tupsD fun q hq => h q (List.mem_cons_of_mem _ hq))
    unfold RD
    exact ⟨p.1, _, rfl, h p List.mem_cons_self, ints_rds p.2⟩
theorem tupsOf_len : ∀ {ds : List D} {ks : List (List Int)}, tupsOf ds = some ks → ks.length = ds.length
  | [], ks, h => by cases h; rfl
  | d :: ds, ks, h => by
    cases d with
    | tup es =>
      obtain ⟨ns, hn, h⟩ := Option.bind_eq_some_iff.mp (show (intsOf es).bind (fun ns => (tupsOf ds).map (ns :: ·)) = some ks from h)
      obtain ⟨ms, hm, h⟩ := Option.map_eq_some_iff.mp h
      rw [← h, List.length_cons, List.length_cons, tupsOf_len hm]
    | _ => cases h
section
variable {X : Cx} {W : WX} {cl : Str → Value} {P : List Nat} {a b : Expr} {pos p p2 q : Pos} {fa : M Opd}
theorem callOr {f : Value} {r r' : List V → Hp → VK → Prop} (h : CallR X f r) (k : CallR X f r') : CallR X f fun vs H Q => r vs H Q ∨ r' vs H Q := fun pins s σ H vs us Q I rv z => z.elim (h pins s σ H vs us Q I rv) (k pins s σ H vs us Q I rv)
theorem px_sset (hc : X.calm = true) (hu : X.A.units + 65 < cLine) (hg : Gl X "sorted") (hm : X.mg "sorted" = none) (hg2 : Gl X "set") (hm2 : X.mg "set" = none) (hs : ∀ y p, a ≠ .Starred y p) (ha : PR X W cl a fa) :
    PX X W cl (.Call (.Name "sorted" p) [.Call (.Name "set" p2) [a] [] q] [] pos) (op1 dSet fa) :=
  (pe_callB (callOr (cr_sortedK hc) (cr_sortedT hc)) hg hm boot_sorted (pa_cons (pe_callTy (callOr (cr_setKL hc) (cr_setOfT hc (by omega))) hg2 hm2 boot_set (pa_cons ha pa_nil (plain_star hs)) (by decide) (by decide) (plain_star hs) rfl) pa_nil rfl) (by decide) (by decide) rfl rfl).imp fun σ H Q ⟨pv, e, rest, s, z⟩ => by
    unfold op1 at z
    rw [post_bind] at z
    refine ⟨pv, e, rest, s, z.imp (fun op e1 z x H1 hp s1 => ?_) fun _ _ y => y⟩
    cases h1 : op.val e1 with
    | none =>
      rw [h1] at z
      exact z.elim
    | some dx =>
      rw [h1] at z
      have z : post (give (dSet dx) e1) _ _ := z
      cases h2 : dSet dx with
      | none =>
        rw [h2] at z
        exact z.elim
      | some o =>
        rw [h2] at z
        have zz : ∀ v H', S X.K pv e1 σ ((v, o) :: rest) H' → Q v H' := z
        obtain ⟨F, s0⟩ := s1.opn
        have vw := s0.vw (Has.of hp) h1
        cases dx with
        | lst ds =>
          obtain ⟨l, vs, ex, hH, rs⟩ := vw
          unfold dSet at h2
          dsimp only at h2
          split at h2
          · rename_i hlen
            have slL : SqL X.K H1 l vs := .inl (.inl hH)
            split at h2
            · rename_i i r
              obtain ⟨ns, hn, h2⟩ := Option.map_eq_some_iff.mp h2
              have ev := ints_rd rs hn
              have lz : ns.length < 60 := by
                have := rs.length
                rw [ev, List.length_map] at this
                omega
              refine .inl ⟨l, ns.map Sum.inl, by rw [ex], by rw [ints_kV, ← ev]; exact slL, by rw [List.length_map]; exact lz, fun c n hc0 hn => .inl ⟨c, ns.map Sum.inl, n, rfl, upd_same, by rw [List.length_map] at hn; omega, .inl ⟨ns, rfl, fun pp hpp => ?_⟩⟩⟩
              have s2 := (s0.put (u := SetKO X.w c (ns.map Sum.inl) n) hc0).mkL hpp (ints_rds (K := X.K) (F := F) (sortK ltN ns))
              rw [h2] at s2
              exact zz _ _ s2.unopd2
            · rename_i x r
              obtain ⟨xs, hn, h2⟩ := Option.map_eq_some_iff.mp h2
              have ev := strs_rd rs hn
              have lz : xs.length < 60 := by
                have := rs.length
                rw [ev, List.length_map] at this
                omega
              refine .inl ⟨l, xs.map Sum.inr, by rw [ex], by rw [strs_kV, ← ev]; exact slL, by rw [List.length_map]; exact lz, fun c n hc0 hn => .inl ⟨c, xs.map Sum.inr, n, rfl, upd_same, by rw [List.length_map] at hn; omega, .inr ⟨xs, rfl, fun pp hpp => ?_⟩⟩⟩
              have s2 := (s0.put (u := SetKO X.w c (xs.map Sum.inr) n) hc0).mkL hpp (strsD (K := X.K) (F := F) (sortK ltS xs))
              rw [h2] at s2
              exact zz _ _ s2.unopd2
            · rename_i t r
              obtain ⟨ks, hn, h2⟩ := Option.bind_eq_some_iff.mp h2
              split at h2
              · rename_i hg
                have h2 := Option.some.inj h2
                obtain ⟨ps, p1, p2, p3⟩ := tups_rd rs hn
                have lz := tupsOf_len hn
                unfold goodT at hg
                rw [Bool.and_eq_true, decide_eq_true_eq] at hg
                have hall : ∀ k ∈ ks, k.length = t.length ∧ TS.Bd (bigOf ks) k := fun k hk => by
                  have y := List.all_eq_true.mp hg.2 k hk
                  rw [Bool.and_eq_true, decide_eq_true_eq] at y
                  refine ⟨y.1, fun m hm => ⟨of_decide_eq_true (List.all_eq_true.mp y.2 m hm), big_le hk hm⟩⟩
                have pin : ∀ p ∈ ps, p.2 ∈ ks := fun p hp => by
                  rw [← p2]
                  exact List.mem_map.mpr ⟨p, hp, rfl⟩
                have psl : ps.length < 64 := by
                  have := congrArg List.length p2
                  rw [List.length_map] at this
                  omega
                refine .inr ⟨l, ps, by rw [ex], by rw [← p1]; exact slL, fun p hp => s0.le.sqT (p3 p hp), psl, fun c L hc0 l1 l2 => .inr ⟨c, L, t.length, bigOf ks, rfl, upd_same, fun p hp => ?_, hg.1, fun p hp => hall p.2 (pin p (l1 p hp)), fun L' pp m1 m2 m3 m4 hpp => ?_⟩⟩
                · exact ((Le.refl H1).put hc0).sqT (s0.le.sqT (p3 p (l1 p hp)))
                · have eq : L'.map (·.2) = sortK (ltT (bigOf ks)) ks := by
                    obtain ⟨n1, n2⟩ := sortK_ok (ord_T (bigOf ks) t.length) (l := ks) fun k hk => ⟨(hall k hk).2, (hall k hk).1⟩
                    have mem' : ∀ p ∈ L', p ∈ L := fun p hp => m1.mem_iff.mp hp
                    refine up_unique (ord_T (bigOf ks) t.length) ?_ n2 fun y => ?_
                    · have w1 : (L'.map (·.2)).Pairwise fun u v => TS.code (bigOf ks) u ≤ TS.code (bigOf ks) v := List.pairwise_map.mpr m4
                      refine List.Pairwise.imp_of_mem (fun {u v} hu hv hh => ?_) (w1.and m2)
                      obtain ⟨pu, hpu, eu⟩ := List.mem_map.mp hu
                      obtain ⟨pv', hpv, ev⟩ := List.mem_map.mp hv
                      have bu := hall pu.2 (pin pu (l1 pu (mem' pu hpu)))
                      have bv := hall pv'.2 (pin pv' (l1 pv' (mem' pv' hpv)))
                      rw [eu] at bu
                      rw [ev] at bv
                      simp only [ltT, decide_eq_true_eq]
                      have h3 := hh.1
                      have h4 : TS.code (bigOf ks) u ≠ TS.code (bigOf ks) v := fun e => hh.2 (code_tot bu.2 bv.2 (by rw [bu.1, bv.1]) e)
                      omega
                    · rw [n1 y]
                      constructor
                      · intro hy
                        obtain ⟨pu, hpu, eu⟩ := List.mem_map.mp hy
                        rw [← eu]
                        exact pin pu (l1 pu (mem' pu hpu))
                      · intro hy
                        rw [← p2] at hy
                        obtain ⟨pu, hpu, eu⟩ := List.mem_map.mp hy
                        have := l2 pu hpu
                        rw [eu] at this
                        exact (m1.map (·.2)).mem_iff.mpr this
                  have rdL : RDs X.K F ((sortK (ltT (bigOf ks)) ks).map fun k => D.tup (k.map D.int)) (L'.map fun q => V.ref q.1) := by
                    rw [← eq]
                    exact tupsD fun p hp => p3 p (l1 p (m1.mem_iff.mp hp))
                  have s2 := (s0.put (u := SetTO X.prog X.w c L) hc0).mkL hpp rdL
                  rw [h2] at s2
                  exact zz _ _ s2.unopd2
              · cases h2
            · cases h2
          · cases h2
        | _ => cases h2

/-! ### x[::-1] -/
theorem rev_places (n : Nat) : Builtin.Slice.slicePlaces ((n : Int) - 1) (-1) (-1) = n := by
  unfold Builtin.Slice.slicePlaces
  have h1 : ¬ ((-1 : Int) > 0) := by decide
  rw [if_neg h1]
  have e2 : (-(-1) : Int) = 1 := by decide
  rw [e2, Int.ediv_one]
  split <;> omega
theorem rev_adjust (n : Nat) : Builtin.Slice.sliceAdjust none none (-1) (n : Int) = ((n : Int) - 1, -1) := rfl
theorem rev_pick (xs : Array Value) : ((List.range xs.size).filterMap fun (m : Nat) => xs[(((xs.size : Int) - 1) + (m : Int) * -1).toNat]?).toArray = xs.toList.reverse.toArray := by
  have e : (List.range xs.size).filterMap (fun (m : Nat) => xs[(((xs.size : Int) - 1) + (m : Int) * -1).toNat]?) = ((List.range xs.size).map fun k => xs.size - 1 - k).filterMap fun i => xs[i]? := by
    rw [List.filterMap_map]
    congr 1
    funext m
    have e3 : (((xs.size : Int) - 1) + (m : Int) * -1).toNat = xs.size - 1 - m := by omega
    rw [e3]
    rfl
  rw [e, PySem.W.krv_range, List.filterMap_reverse, PySem.W.krv_all]
theorem getItem_tuple_rev {prog : Program} {w : World} {A : Around} {E : Value → Shared → Prop} {s : Shared} {t sl : Addr} {items : Array Value} {vs : Value} {Q : Value → Shared → Prop} (ht : IsTup s.heap t items) (hs : s.heap.IsSliceOf sl .none .none vs) (ps : IsPart vs (some (-1)))
    (h : Q (.ref s.heap.objs.size) { s with heap := s.heap.push { cls := .type "tuple", data := .seq items.toList.reverse.toArray } }) (hsz : items.size ≤ sizeLine) : wpAny (model prog w) A (getItem (.ref t) (.ref sl)) Q E s := by
  have hfit : sizeOk (.seq items.toList.reverse.toArray) := by
    show items.toList.reverse.toArray.size ≤ sizeLine
    rw [List.size_toArray, List.length_reverse, Array.length_toList]
    exact hsz
  obtain ⟨os, hos, hcs, hds⟩ := id hs
  have hTs : s.TypeIs (.ref sl) "slice" := ⟨os, hos, hcs⟩
  unfold getItem
  try with_reducible refine wpAny_holding ?_
  first | refine wpAny_bind (wpAny_pure ?_) | skip
  refine wpAny_bind (wpAny_sequenceKey ht.typeIs (by decide) ?_)
  refine wpAny_bind (wpAny_callSpecial?_slot (name := Str.ofString "__getitem__") ht.typeIs PyProof.Rows.slot_tuple_getitem
    (wpAny_call_entry PyProof.Rows.slot_tuple_getitem ht.typeIs PyProof.Rows.entry_tuple_getitem ?_ (args_tuple_getitem _ _)))
  show wpAny _ _ (Builtin.Tuple.tupleItemsOf (.ref t) >>= _) _ _ s
  refine wpAny_bind (tupleItemsOf_ ht ?_)
  refine wpAny_bind (wpAny_typeOf hTs ?_)
  rw [if_pos (by decide)]
  refine wpAny_bind ?_
  · unfold Builtin.Slice.sliceApplied Builtin.Slice.sliceFields
    refine wpAny_bind (wpAny_bind (wpAny_field hos hds (x := .none) rfl (wpAny_bind (wpAny_field hos hds (x := .none) rfl (wpAny_bind (wpAny_field hos hds (x := vs) rfl (wpAny_pure ?_)))))))
    refine wpAny_bind (HT.slicePart_ ps ?_)
    show wpAny _ _ (if ((-1 : Int) == 0) = true then _ else _) _ _ s
    rw [if_neg (by decide)]
    refine wpAny_bind (slicePart_none (wpAny_bind (slicePart_none (wpAny_bind (wpAny_pure ?_)))))
    show wpAny _ _ (match Builtin.Slice.sliceAdjust none none (-1) (items.size : Int) with | (lo, hi) => pure (lo, (-1 : Int), Builtin.Slice.slicePlaces lo hi (-1))) _ _ s
    rw [rev_adjust items.size]
    show wpAny _ _ (pure (((items.size : Int) - 1), (-1 : Int), Builtin.Slice.slicePlaces ((items.size : Int) - 1) (-1) (-1))) _ _ s
    rw [rev_places]
    refine wpAny_pure ?_
    have hno : ¬ ((((items.size : Int) - 1) == 0 && (-1 : Int) == 1 && items.size == items.size) = true) := by
      intro z
      rw [Bool.and_eq_true, Bool.and_eq_true] at z
      exact absurd z.1.2 (by decide)
    show wpAny _ _ (if (((items.size : Int) - 1) == 0 && (-1 : Int) == 1 && items.size == items.size) = true then _ else _) _ _ s
    rw [if_neg hno, rev_pick]
    first
      | exact wpAny_bind (m := Builtin.Tuple.tupleExact _) (wpAny_newObj_type (wpAny_pure ⟨_, rfl, wpAny_pure h⟩) hfit)
      | exact wpAny_bind (m := Builtin.Tuple.tupleExact _) (wpAny_newObj_type (wpAny_bind (wpAny_pure (wpAny_pure ⟨_, rfl, wpAny_pure h⟩))) hfit)
      | exact wpAny_bind (wpAny_bind (m := Builtin.Tuple.tupleExact _) (wpAny_newObj_type (wpAny_pure (wpAny_pure ⟨_, rfl, wpAny_pure h⟩)) hfit))
      | exact wpAny_bind (wpAny_bind (m := Builtin.Tuple.tupleExact _) (wpAny_newObj_type (wpAny_pure ⟨_, rfl, wpAny_pure h⟩) hfit))
def tRevT (K : PySem.W.Frag) (te : TE) : TE := fun σ H Q => te σ H fun x H1 => ∃ a xs, x = .ref a ∧ SqT K H1 a xs ∧ ∀ p, H1 p = none → Q (.ref p) (upd H1 p (.tup xs.reverse))
theorem pe_revT {e : Expr} {te : TE} {k : Nat} {q1 q2 q3 : Pos} (he : PE X e te) : PE X (.Subscript e (.Slice none none (some (.UnaryOp .USub (.Constant (.int 1) k q1) q2)) q3) pos) (tRevT X.K te) := by
  refine ⟨fun pins s σ H Q I h => ?_⟩
  refine Subscript_ (thn (he.run pins s σ H _ I h) fun v s1 ⟨x, H1, I1, r1, y1⟩ => ?_)
  obtain ⟨t, xs, ex, hx, y⟩ := y1
  subst ex
  cases r1
  have hst : PO X (some (.UnaryOp .USub (.Constant (.int 1) k q1) q2)) (tPart (tUn (rU fun i => .int (-i)) (tC (.int 1)))) := po_some (pe_un un_neg pe_int)
  refine wpAny_Slice (thn (po_none.run pins s1 σ H1 (fun o H2 => o = none ∧ H2 = H1) I1 ⟨rfl, rfl⟩) fun vl s2 ⟨l, H2, I2, pl, el, e2⟩ => ?_)
  subst el e2
  refine thn (po_none.run pins s2 σ H2 (fun o H3 => o = none ∧ H3 = H2) I2 ⟨rfl, rfl⟩) fun vu s3 ⟨u, H3, I3, pu, eu, e3⟩ => ?_
  subst eu e3
  refine thn (hst.run pins s3 σ H3 (fun o H4 => o = some (-1) ∧ H4 = H3) I3 ⟨1, rfl, -1, rfl, rfl, rfl⟩) fun vs s4 ⟨o, H4, I4, ps, eo, e4⟩ => ?_
  subst eo e4
  cases pl
  cases pu
  have I5 : Inv X pins σ H4 { s4 with heap := s4.heap.push { cls := .type "slice", data := .fields #[.none, .none, vs] } } := I4.kept (t' := s4.toks) fun b ob z => Heap.get?_push_of_some _ z
  obtain ⟨its, r, ht, hz⟩ := I5.tuple hx
  have hlen := r.length
  show wpAny (model X.prog X.w) X.A (subscriptTail e (.Slice none none (some (.UnaryOp .USub (.Constant (.int 1) k q1) q2)) q3) (.ref t) (.ref s4.heap.objs.size)) (EP X pins σ Q) X.xe { s4 with heap := s4.heap.push { cls := .type "slice", data := .fields #[.none, .none, vs] } }
  refine tail_any (ops := [.ref t, .ref s4.heap.objs.size]) ht.typeIs (PyProof.Rows.slot_tuple_getitem.lookup) ?_ (by with_unfolding_all rfl)
  refine getItem_tuple_rev ht (Heap.IsSliceOf.new _ .none .none vs) ps ?_ (by rw [List.size_toArray]; omega)
  refine ⟨.ref _, _, I5.laid (t' := s4.toks) (o := .tup xs.reverse) (fun b ob z => Heap.get?_push_of_some _ z) (Nat.le_refl _) ?_, rfl, y _ (I5.hok.fresh (Nat.le_refl _))⟩
  exact ⟨by rw [List.length_reverse]; exact hz, _, r.reverse, IsTup.new _ _⟩
def dRev : D → Option O
  | .tup ds => some (.frz (.tup ds.reverse))
  | .lst ds => some (.lst ds.reverse)
  | _ => none
theorem _root_.L2.PE.or {X : Cx} {e : Expr} {t u : TE} (h : PE X e t) (k : PE X e u) : PE X e fun σ H Q => t σ H Q ∨ u σ H Q := ⟨fun pins s σ H Q I q => q.elim (h.run pins s σ H Q I) (k.run pins s σ H Q I)⟩
theorem px_rev {k : Nat} {q1 q2 q3 : Pos} (ha : PR X W cl a fa) : PX X W cl (.Subscript a (.Slice none none (some (.UnaryOp .USub (.Constant (.int 1) k q1) q2)) q3) pos) (op1 dRev fa) :=
  (L2.PE.or (pe_revL ha) (pe_revT ha)).imp fun σ H Q ⟨pv, e, rest, s, z⟩ => by
    unfold op1 at z
    rw [post_bind] at z
    cases hf : fa e with
    | fail =>
      rw [hf] at z
      exact z.elim
    | exc c e1 =>
      rw [hf] at z
      exact .inl ⟨pv, e, rest, s, by rw [hf]; exact z⟩
    | ok op e1 =>
      rw [hf] at z
      have z : post (give ((op.val e1).bind dRev) e1) _ _ := z
      cases h1 : op.val e1 with
      | none =>
        rw [h1] at z
        exact z.elim
      | some dx =>
        rw [h1] at z
        have z : post (give (dRev dx) e1) _ _ := z
        cases dx with
        | tup ds =>
          have z : ∀ v H', S X.K pv e1 σ ((v, .frz (.tup ds.reverse)) :: rest) H' → Q v H' := z
          refine .inr ⟨pv, e, rest, s, ?_⟩
          rw [hf]
          intro x H1 hp s1
          obtain ⟨F, s0⟩ := s1.opn
          obtain ⟨t, xs, ex, sq, rs⟩ := s0.vw (Has.of hp) h1
          exact ⟨t, xs, ex, s0.le.sqT sq, fun p hp => z _ _ (s0.newT hp rs.reverse).unopd2⟩
        | lst ds =>
          have z : ∀ v H', S X.K pv e1 σ ((v, .lst ds.reverse) :: rest) H' → Q v H' := z
          refine .inl ⟨pv, e, rest, s, ?_⟩
          rw [hf]
          intro x H1 hp s1
          obtain ⟨F, s0⟩ := s1.opn
          obtain ⟨t, xs, ex, hH, rs⟩ := s0.vw (Has.of hp) h1
          exact ⟨t, xs, ex, .inl (.inl hH), fun p hp => z _ _ (s0.mkL hp rs.reverse).unopd2⟩
        | _ => exact z.elim

/-! ### o[lo:hi] = a list -/
theorem bounds_clip {a c n : Nat} (hac : a ≤ c) (ha : a ≤ n) : sliceBounds (some (a : Int)) (some (c : Int)) none n = ((a : Int), ((min c n : Nat) : Int), 1) := by
  simp only [sliceBounds, Option.getD_none]
  have h1 : ¬ ((a : Int) < 0) := by omega
  have h2 : ¬ ((c : Int) < 0) := by omega
  simp only [h1, h2, if_false, show (1 : Int) > 0 by decide, if_true]
  congr 1
  · omega
  · congr 1; omega
set_option maxRecDepth 100000 in
theorem setItem_clip {prog : Program} {w : World} {A : Around} {E : Value → Shared → Prop} {s : Shared} {l b sl : Addr} {items new : Array Value} {n n2 : Nat} {vl vu : Value} {a c : Nat} {Q : Unit → Shared → Prop}
    (e : s.heap.get? l = some { cls := .type "list", data := .seq items n }) (e2 : s.heap.get? b = some { cls := .type "list", data := .seq new n2 }) (hne : l ≠ b)
    (hs : s.heap.IsSliceOf sl vl vu .none) (pl : IsPart vl (some (a : Int))) (pu : IsPart vu (some (c : Int))) (hac : a ≤ c) (hla : a ≤ items.size)
    (hsz : items.size + new.size ≤ sizeLine) (h : Q () { s with heap := s.heap.update l (Obj.mapSeq fun xs => xs.extract 0 a ++ new ++ xs.extract (min c items.size) xs.size) }) :
    wpAny (model prog w) A (setItem (.ref l) (.ref sl) (.ref b)) Q E s := by
  have isL : s.heap.IsList l items := PySem.IsL.isList e
  have isB : s.heap.IsList b new := PySem.IsL.isList e2
  obtain ⟨os, hos, hcs, hds⟩ := id hs
  have tyS : s.TypeIs (.ref sl) "slice" := ⟨os, hos, hcs⟩
  have step0 : ¬ ((rawPart none == rawInt 0) = true) := Bool.false_ne_true
  have same : Builtin.List.listSameRef (.ref l) (.ref b) = false := by
    unfold Builtin.List.listSameRef
    exact beq_eq_false_iff_ne.mpr hne
  have top : (max (a : Int) ((min c items.size : Nat) : Int)).toNat = min c items.size := by omega
  have fits' : ((fun xs : Array Value => xs.extract 0 a ++ new ++ xs.extract (min c items.size) xs.size) items).size ≤ sizeLine + 1 := by
    simp only [Array.size_append, Array.size_extract]
    omega
  unfold setItem
  try with_reducible refine wpAny_holding ?_
  first | refine wpAny_bind (wpAny_pure ?_) | skip
  refine wpAny_bind (wpAny_sequenceKey isL.typeIs (by decide) ?_)
  refine wpAny_bind (wpAny_callSpecial?_slot (name := Str.ofString "__setitem__") isL.typeIs slot_list_setitem
    (wpAny_call_entry slot_list_setitem isL.typeIs entry_list_setitem ?_ (args_list_setitem _ _ _)))
  show wpAny _ _ (Builtin.List.listSubscript? (.ref sl) >>= _) _ _ s
  refine wpAny_bind ?_
  unfold Builtin.List.listSubscript?
  refine wpAny_bind (wpAny_specialOf tyS slice_no_index ?_)
  simp only [Option.isNone_none, if_true]
  refine wpAny_pure ?_
  show wpAny _ _ (typeOf (.ref sl) >>= _) _ _ s
  refine wpAny_bind (wpAny_typeOf tyS ?_)
  first
    | rw [if_neg (by decide)]
    | refine PySem.W.KFB.if_not (by decide) ?_
  rw [listSliceParts_eq]
  refine wpAny_bind (wpAny_bind (wpAny_field hos hds (x := .none) rfl (wpAny_bind (wpAny_listPart .none ?_))))
  rw [if_neg step0]
  refine wpAny_bind (wpAny_field hos hds (x := vl) rfl (wpAny_bind (wpAny_listPart pl ?_)))
  refine wpAny_bind (wpAny_field hos hds (x := vu) rfl (wpAny_bind (wpAny_listPart pu (wpAny_pure ?_))))
  first
    | simp only [same, Bool.false_eq_true, if_false]
    | refine PySem.W.KFB.if_not same ?_
    | (dsimp only
       rw [if_neg (by rw [same]; exact Bool.false_ne_true)])
  refine wpAny_bind (m := Builtin.List.listAllItems (.ref b) "must assign iterable to extended slice") ?_
  unfold Builtin.List.listAllItems
  refine wpAny_bind (wpAny_typeOf isB.typeIs ?_)
  first
    | refine PySem.W.KFB.if_so (by decide) ?_
    | rw [if_pos (by decide)]
    | simp only [beq_self_eq_true, Bool.true_or, if_true]
  unfold Builtin.List.listItems
  refine wpAny_bind (wpAny_seqItems e2 rfl (wpAny_pure ?_))
  refine wpAny_bind (wpAny_bind (wpAny_seqItems e rfl (wpAny_pure ?_)))
  refine wpAny_bind (wpAny_of_eq ((sliceIndices_raw (some (a : Int)) (some (c : Int)) none items.size (by simp)).trans (congrArg (pure : Int × Int × Int → Sem (Int × Int × Int)) (bounds_clip hac hla))) ?_)
  show wpAny _ _ (if ((1 : Int) == 1) = true then _ else _) _ _ s
  rw [if_pos (by decide)]
  refine wpAny_bind (wpAny_rule ?_)
  first
    | simp only [notLongL hsz, Bool.false_eq_true, if_false]
    | refine PySem.W.KFB.if_not (notLongL hsz) ?_
  first | refine wpAny_bind (wpAny_pure ?_) | skip
  show wpAny _ _ (updateSeq l (fun xs => xs.extract 0 ((a : Int)).toNat ++ new ++ xs.extract (max (a : Int) ((min c items.size : Nat) : Int)).toNat xs.size) >>= _) _ _ s
  rw [top, Int.toNat_natCast]
  refine wpAny_bind (wpAny_updateSeq (hz := Nat.le_trans (Nat.le_add_right _ _) hsz) (_hz' := fits') e rfl ?_)
  refine wpAny_bind (wpAny_letGo ?_)
  first
    | exact wpAny_bind (wpAny_pure (wpAny_pure ⟨.none, rfl, wpAny_pure h⟩))
    | exact wpAny_pure ⟨.none, rfl, wpAny_pure h⟩
theorem set_clip {pins : List (Addr × Obj)} {s : Shared} {σ : L2.St} {H : Hp} {l b sl : Addr} {xs ys : List V} {a c : Int} {vl vu : Value} {Q : Unit → Shared → Prop} (I : Inv X pins σ H s)
    (hH : H l = some (.lst xs)) (hB : H b = some (.lst ys)) (hne : l ≠ b) (hs : s.heap.IsSliceOf sl vl vu .none) (pl : IsPart vl (some a)) (pu : IsPart vu (some c)) (h0 : 0 ≤ a) (hac : a ≤ c) (hla : a ≤ xs.length)
    (hz : xs.length + ys.length ≤ sizeLine) (h : ∀ s', Inv X pins σ (upd H l (.lst (xs.take a.toNat ++ ys ++ xs.drop c.toNat))) s' → Q () s') :
    wpAny (model X.prog X.w) X.A (setItem (.ref l) (.ref sl) (.ref b)) Q X.xe s := by
  obtain ⟨z, its, n, r, hl, e⟩ := I.lstM hH
  obtain ⟨z2, its2, n2, r2, hl2, e2⟩ := I.lstM hB
  obtain ⟨a', rfl⟩ := Int.eq_ofNat_of_zero_le h0
  obtain ⟨c', rfl⟩ := Int.eq_ofNat_of_zero_le (Int.le_trans h0 hac)
  simp only [Int.toNat_natCast] at h
  have hdrop : ∀ {α : Type} (l : List α), l.drop (min c' l.length) = l.drop c' := fun l => by
    rcases Nat.le_total c' l.length with k | k
    · rw [Nat.min_eq_left k]
    · rw [Nat.min_eq_right k, List.drop_of_length_le (Nat.le_refl _), List.drop_of_length_le k]
  refine setItem_clip (a := a') (c := c') e e2 hne hs pl pu (by omega) (by rw [List.size_toArray]; omega) (by rw [List.size_toArray, List.size_toArray]; omega) (h _ ?_)
  refine I.lset (its' := its.take a' ++ its2 ++ its.drop c') (t' := s.toks) hH e ?_ (Vals.append (Vals.append (r.take _) r2) (r.drop _)) ?_
  · rw [List.size_toArray]
    show its.toArray.extract 0 a' ++ its2.toArray ++ its.toArray.extract (min c' its.length) its.toArray.size = _
    rw [splice_eq its its2 a' (min c' its.length), hdrop]
  · rw [List.length_append, List.length_append, List.length_take, List.length_drop]
    omega
def sSsl (j : Nat) (lo hi x : M O) : SM := fun e => (toV x e).stm fun d e1 => match e1.at j with
  | none => .fail
  | some _ => (mOpt (some lo) e1).stm fun a e2 => (mOpt (some hi) e2).stm fun c e3 => match d, a, c, ownL e3 j with
    | .lst es, some a, some c, some ls => if 0 ≤ a ∧ a ≤ c ∧ a ≤ ls.length ∧ small (ls.length + es.length) then .next (e3.set j (some (.lst (ls.take a.toNat ++ es ++ ls.drop c.toNat)))) else .fail
    | _, _, _, _ => .fail
def gSlc (j : Nat) (tl th : TO) : TG := fun v σ H Q => ∃ o, σ[j]? = some (some o) ∧ tl σ H fun a H1 => th σ H1 fun c H2 => ∃ (l b : Addr) (xs ys : List V) (a' c' : Int), o = .ref l ∧ v = .ref b ∧ a = some a' ∧ c = some c' ∧ H2 l = some (.lst xs) ∧ H2 b = some (.lst ys) ∧ l ≠ b ∧
  0 ≤ a' ∧ a' ≤ c' ∧ a' ≤ xs.length ∧ xs.length + ys.length ≤ sizeLine ∧ Q σ (upd H2 l (.lst (xs.take a'.toNat ++ ys ++ xs.drop c'.toNat)))
theorem pg_slc {j : Nat} {x : Str} {lo hi : Expr} {tl th : TO} {npos sp : Pos} (hN : X.N[j]? = some x) (hv : Vis X.env.scope x) (hd : (x == ("__debug__" : Str)) = false) (hcd : (x == ("__classdict__" : Str)) = false) (hl : PO X (some lo) tl) (hh : PO X (some hi) th) :
    PG X (.Subscript (.Name x npos) (.Slice (some lo) (some hi) none sp) p2) (gSlc j tl th) := by
  refine ⟨fun pins s σ H v u Q I r h => ?_⟩
  show wpAny _ _ (do
      let ov ← holding [u] (eval (.Name x npos) X.env)
      let iv ← holding [u, ov] (eval (.Slice (some lo) (some hi) none sp) X.env)
      standAt p2
      holding [u, ov, iv] (setItem ov iv u)
      release [iv, u, ov] []) _ _ s
  obtain ⟨o, ho, h⟩ := h
  refine wpAny_bind (wpAny_holding (thn ((pe_var hN hv hd hcd).run pins s σ H (fun y H1 => y = o ∧ H1 = H) I ⟨o, ho, rfl, rfl⟩) fun ov s1 ⟨y, H1, I1, r1, ey, eH⟩ => ?_))
  subst ey eH
  refine wpAny_bind (wpAny_holding (wpAny_Slice (thn (hl.run pins s1 σ H1 _ I1 h) fun vl s2 ⟨al, H2, I2, pl, q2⟩ => thn (hh.run pins s2 σ H2 _ I2 q2) fun vu s3 ⟨au, H3, I3, pu, q3⟩ => ?_)))
  rw [evalPart_none]
  refine wpAny_pure ?_
  obtain ⟨l, b, xs, ys, a', c', eo, ev, ea, ec, hL, hB, ne, k1, k2, k3, k4, q⟩ := q3
  subst eo ev ea ec
  cases r1
  cases r
  have I4 : Inv X pins σ H3 { s3 with heap := s3.heap.push { cls := .type "slice", data := .fields #[vl, vu, .none] } } := I3.kept (t' := s3.toks) fun b ob q => Heap.get?_push_of_some _ q
  refine wpAny_bind (wpAny_standAt (wpAny_bind (wpAny_holding (set_clip I4 hL hB ne (Heap.IsSliceOf.new ..) pl pu k1 k2 k3 k4 fun s' I' => ?_))))
  exact wpAny_release ⟨σ, _, I', q⟩
theorem ps_ssl {j : Nat} {x : Str} {lo hi : Expr} {fl fh fx : M O} {npos sp : Pos} (hN : X.N[j]? = some x) (hv : Vis X.env.scope x) (hd : (x == ("__debug__" : Str)) = false) (hcd : (x == ("__classdict__" : Str)) = false)
    (hl : PX X W cl lo fl) (hh : PX X W cl hi fh) (h : PX X W cl a fx) (hs : swapsWithSole [.Subscript (.Name x npos) (.Slice (some lo) (some hi) none sp) p2] a pos.line X.env = pure false) :
    PST X W cl P (.Assign [.Subscript (.Name x npos) (.Slice (some lo) (some hi) none sp) p2] a pos) (sSsl j fl fh fx) :=
  (ps_asg (pv_of h) (pg_slc hN hv hd hcd (po_some' hl) (po_some' hh)) hs rfl rfl).imp fun D σ H ⟨pv, e, rest, s, hp, z⟩ => by
    unfold aft sSsl at z
    rw [postS_stm] at z
    refine ⟨pv, e, rest, s, z.imp (fun d e1 z v H1 s1 => ?_) fun c e1 z H' s' => z σ H' s'⟩
    cases ho : e1.at j with
    | none =>
      rw [ho] at z
      exact z.elim
    | some o0 =>
      rw [ho] at z
      dsimp only at z
      rw [postS_stm] at z
      obtain ⟨u, hu, _⟩ := s1.slot ho
      refine ⟨u, hu, pv, e1, (v, .frz d) :: rest, s1, z.imp (fun a e2 z H2 s2 => ?_) fun c e2 z H' s' => z σ H' s'.drop⟩
      rw [postS_stm] at z
      refine ⟨pv, e2, (v, .frz d) :: rest, s2, z.imp (fun c e3 z H3 s3 => ?_) fun c e2 z H' s' => z σ H' s'.drop⟩
      cases d with
      | lst es =>
       cases a with
       | none => exact z.elim
       | some a' =>
       cases c with
       | none => exact z.elim
       | some c' =>
       cases hls : ownL e3 j with
       | none =>
        rw [hls] at z
        exact z.elim
       | some ls =>
        rw [hls] at z
        have zq : postS (if 0 ≤ a' ∧ a' ≤ c' ∧ a' ≤ ls.length ∧ small (ls.length + es.length) = true then SRes.next (e3.set j (some (.lst (ls.take a'.toNat ++ es ++ ls.drop c'.toNat)))) else .fail) _ _ _ _ _ := z
        split at zq
        · rename_i hz
          have zz : ∀ σ' H', S X.K pv (e3.set j (some (.lst (ls.take a'.toNat ++ es ++ ls.drop c'.toNat)))) σ' rest H' → D.nx σ' H' := zq
          have ho3 : e3.at j = some (.lst ls) := by
            unfold ownL at hls
            split at hls
            · rename_i hh
              cases hls
              exact hh
            · cases hls
          obtain ⟨F, s0⟩ := s3.opn
          have rd := frz_in s0 List.mem_cons_self
          unfold RD at rd
          obtain ⟨b, ys, ev, hF, rys⟩ := rd
          obtain ⟨u2, hu2, pp⟩ := Cov.get s0.cov (Env.at_get ho3)
          rw [hu] at hu2
          cases hu2
          have r0 := s0.res.perm (pp.append_right _)
          obtain ⟨f, tt⟩ := r0.mem List.mem_cons_self
          obtain ⟨l, xs, el, hL, rxs, _⟩ := tt
          have ne : l ≠ b := by
            intro y
            obtain ⟨fp, _, rr, nd, n⟩ := r0
            obtain ⟨f1, g1, e1, ⟨l1, _, el1, _, _, ef⟩, _⟩ := rr
            have e8 : l1 = l := by
              have h9 : V.ref l1 = V.ref l := el1.symm.trans el
              cases h9
              rfl
            have := n l (by rw [e1, ef, e8]; exact List.mem_append_left _ (List.mem_singleton.mpr rfl))
            rw [y] at this
            rw [this] at hF
            cases hF
          refine ⟨l, b, xs, ys, a', c', el, ev, rfl, rfl, hL, s0.le _ _ hF, ne, hz.1, hz.2.1, by rw [rxs.length]; exact hz.2.2.1, by rw [rxs.length, rys.length]; exact size_ok hz.2.2.2, zz σ _ ?_⟩
          subst el
          have s9 := S.slotBack s3 hu (R0.mutL r0 (((rxs.take a'.toNat).append rys).append (rxs.drop c'.toNat)))
          exact s9.drop
        · exact zq.elim
      | _ => exact z.elim
end
end LR

set_option Elab.async false
set_option linter.all false
set_option maxRecDepth 100000
set_option maxHeartbeats 2000000
/-! A def's text as a code: what it says (run), whether it is that text's (ck). -/
namespace LR
open PySem L2

inductive Cd where
  -- values
  | var (i : Nat) | move (i : Nat) | ref (i : Nat) | glo (n : Nat) | lit (d : D)
  | bin (op : Operator) (a b : Cd) | ofT (t : Cd) | ite (t a b : Cd) | neg (a : Cd)
  | tup (l : List Cd) | lst (l : List Cd) | ix (a b : Cd) | sl (a : Cd) (lo hi : Option Cd)
  | blt (k : Blt) (l : List Cd) | isI (T : String) (a : Cd)
  | fn (i : Nat) (l : List Cd) | fnD (i : Nat) (l : List Cd) | fnK (i : Nat) (l : List Cd) (k : Cd)
  | mth (m : Mth) (j : Nat) (l : List Cd) | sset (a : Cd) | rev (a : Cd) | lcO (vs : List Nat) (tg : Tg) (j : Nat) (t e : Cd)
  | lc (vs : List Nat) (tg : Tg) (s t e : Cd) | lc2 (vs vs1 : List Nat) (tg tg1 : Tg) (s s1 e : Cd) | dc (vs : List Nat) (tg : Tg) (s t k e : Cd)
  -- tests
  | cmp (op : CmpOp) (a b : Cd) | chain (op op' : CmpOp) (a b c : Cd) | no (a : Cd) | all (l : List Cd) | one (l : List Cd) | asB (a : Cd) | yes
  -- what is walked
  | any (a : Cd) | enum (a : Cd) | zip2 (a b : Cd) | zip3 (a b c : Cd) | rng (a : Cd) | rng2 (a b : Cd)
  -- statements
  | pass | expr (a : Cd) | ret (a : Cd) | retN | brk | cont | raise (x : Str)
  | sif (t : Cd) (a b : List Cd) | set (i : Nat) (a : Cd) | asg (tg : Tg) (a : Cd) | par (is : List Nat) (l : List Cd) | sub (j : Nat) (k a : Cd) | ssl (j : Nat) (lo hi a : Cd)
  | sfor (tg : Tg) (s : Cd) (b : List Cd) | swhile (t : Cd) (b : List Cd)
instance : Inhabited Cd := ⟨.pass⟩
def notO : Cd → Bool
  | .lcO _ _ _ _ _ => false
  | _ => true

/-- a def as others see it -/
structure DefE where
  name : Str
  np : Nat
  /-- its last parameter is clamps=(), by keyword alone -/
  kw : Bool
/-- the module: defs, data, names that are not the module's, classes of exceptions -/
structure Tb where
  fns : List DefE
  gl : List (Str × D)
  nob : List Str
  exs : List Str
/-- a scope: its names, their kinds as they are looked up, as they are stored -/
structure Ctx where
  N : List Str
  sc : Scope
  sc0 : Scope
def envSc (sc : Scope) : PySem.Env := { scope := sc, locals := 0, globals := 0, cells := [], qual := Str.empty, func := none, code := .none, frame := none, builtins := 0 }
def blkSc (scope sc : Scope) : Scope := relabel scope (envSc sc)
def Ctx.blk (c : Ctx) (scope : Scope) : Ctx := ⟨c.N, blkSc scope c.sc, scope⟩

section
variable (t : Tb) (P : List Nat) (ev : Nat → List O → CRes)
def opdOf (c : Cd) (x : M O) : M Opd := match c with
  | .var i => rVar i
  | _ => toR x
def argOf (c : Cd) (x : M O) : M Opd := match c with
  | .ref i => rVar i
  | _ => toA x
def globOf (n : Nat) : M O := match t.gl[n]? with
  | some p => xLit p.2
  | none => xFail
mutual
noncomputable def rnX : Cd → M O
  | .var i => xVar i
  | .move i => xMove P i
  | .glo n => globOf t n
  | .lit d => xLit d
  | .bin op a b => op2 (dBin op) (opdOf a (rnX a)) (opdOf b (rnX b))
  | .ofT a => ofB (rnB a)
  | .ite c a b => xIf (rnB c) (rnX a) (rnX b)
  | .neg a => op1 dNeg (opdOf a (rnX a))
  | .tup l => xTup (rnVs l)
  | .lst l => xLst (rnVs l)
  | .ix a b => xIx (opdOf a (rnX a)) (opdOf b (rnX b))
  | .sl a lo hi => xSl (opdOf a (rnX a)) (rnO lo) (rnO hi)
  | .blt k l => opN (bOf k) (rnRs l)
  | .isI T a => xIsI T (opdOf a (rnX a))
  | .fn i l => xCall (ev i) [] (rnAs l)
  | .fnD i l => xCall (ev i) [.tup []] (rnAs l)
  | .fnK i l k => xCall (ev i) [] (rnAs l ++ [argOf k (rnX k)])
  | .mth m j l => xMth m j (rnVs l)
  | .sset a => op1 dSet (opdOf a (rnX a))
  | .rev a => op1 dRev (opdOf a (rnX a))
  | .lcO vs tg j c e => xLcO vs tg j (rnB c) (rnX e)
  | .lc vs tg s c e => xLc vs tg (rnI s) (rnB c) (rnX e)
  | .lc2 vs vs1 tg tg1 s s1 e => xLc2 vs vs1 tg tg1 (rnI s) (rnI s1) (rnX e)
  | .dc vs tg s c k e => xDc vs tg (rnI s) (rnB c) (rnX k) (rnX e)
  | _ => xFail
noncomputable def rnVs : List Cd → List (M D)
  | [] => []
  | c :: l => toV (rnX c) :: rnVs l
noncomputable def rnOs : List Cd → List (M O)
  | [] => []
  | c :: l => rnX c :: rnOs l
noncomputable def rnRs : List Cd → List (M Opd)
  | [] => []
  | c :: l => opdOf c (rnX c) :: rnRs l
noncomputable def rnAs : List Cd → List (M Opd)
  | [] => []
  | c :: l => argOf c (rnX c) :: rnAs l
noncomputable def rnO : Option Cd → Option (M O)
  | none => none
  | some c => some (rnX c)
noncomputable def rnB : Cd → M Bool
  | .cmp op a b => bCmp op (opdOf a (rnX a)) (opdOf b (rnX b))
  | .chain op op' a b c => bChain op op' (opdOf a (rnX a)) (opdOf b (rnX b)) (opdOf c (rnX c))
  | .no a => bNot (rnB a)
  | .all l => bAnd (rnBs l)
  | .one l => bOr (rnBs l)
  | .asB a => toB (rnX a)
  | .yes => bYes
  | _ => fun _ => .fail
noncomputable def rnBs : List Cd → List (M Bool)
  | [] => []
  | c :: l => rnB c :: rnBs l
noncomputable def rnI : Cd → M (List D)
  | .any a => srcAny (rnX a)
  | .enum a => srcEnum (rnX a)
  | .zip2 a b => srcZip2 (rnX a) (rnX b)
  | .zip3 a b c => srcZip3 (rnX a) (rnX b) (rnX c)
  | .rng a => srcRng1 (rnX a)
  | .rng2 a b => srcRng2 (rnX a) (rnX b)
  | _ => fun _ => .fail
noncomputable def rnS : Cd → SM
  | .pass => sPass
  | .expr a => sExpr (rnX a)
  | .ret a => sRet (rnX a)
  | .retN => sRetN
  | .brk => sBrk
  | .cont => sCont
  | .raise x => sRaise x
  | .sif c a b => sIf (rnB c) (sSeq (rnSs a)) (sSeq (rnSs b))
  | .set i a => sSet P i (rnX a)
  | .asg tg a => sAsg P tg (rnX a)
  | .par is l => sPar P is (rnOs l)
  | .sub j k a => sSub j (rnX k) (rnX a)
  | .ssl j lo hi a => sSsl j (rnX lo) (rnX hi) (rnX a)
  | .sfor tg s b => sFor P tg (rnI s) (sSeq (rnSs b))
  | .swhile c b => sWhile (rnB c) (sSeq (rnSs b))
  | _ => fun _ => .fail
noncomputable def rnSs : List Cd → List SM
  | [] => []
  | c :: l => rnS c :: rnSs l
end
end

/-! ### the checker -/
def noDbg (x : Str) : Bool := !(x == ("__debug__" : Str)) && !(x == ("__classdict__" : Str))
def visB (sc : Scope) (x : Str) : Bool := sc.names.lookup x == some .local || sc.names.lookup x == some .cell || sc.names.lookup x == some .free
def locB (c : Ctx) (x : Str) : Bool := c.sc.names.lookup x == some .local || (c.sc.names.lookup x == some .cell && c.sc0.names.lookup x == some .cell)
def glB (sc : Scope) (x : Str) : Bool := sc.names.lookup x == some .globalImplicit
def nmB (c : Ctx) (i : Nat) (x : Str) : Bool := c.N[i]? == some x && visB c.sc x && noDbg x
def notStar : Expr → Bool
  | .Starred _ _ => false
  | _ => true
def notSlice : Expr → Bool
  | .Slice _ _ _ _ => false
  | _ => true
def notSet : Expr → Bool
  | .Set _ _ _ => false
  | _ => true
def notComp : Expr → Bool
  | .ListComp _ _ _ _ => false
  | .SetComp _ _ _ _ => false
  | .DictComp _ _ _ _ _ => false
  | _ => true
def notName : Expr → Bool
  | .Name _ _ => false
  | _ => true
def isTup : Expr → Bool
  | .Tuple _ _ _ => true
  | .List _ _ => true
  | _ => false
def plainT : Expr → Bool
  | .Name _ _ => true
  | .Call _ _ _ _ => true
  | .Constant _ _ _ => true
  | .Subscript _ _ _ => true
  | _ => false
def litB (d : D) (e : Expr) : Bool := match e with
  | .Constant (.int j) _ _ => match d with
    | .int i => i == j
    | _ => false
  | .Constant (.bool j) _ _ => match d with
    | .bl i => i == j
    | _ => false
  | .Constant (.str j) _ _ => match d with
    | .str i => i == j
    | _ => false
  | .Constant .none _ _ => match d with
    | .non => true
    | _ => false
  | _ => false
def allStar (es : List Expr) : Bool := es.all notStar
def tgB (c : Ctx) (tg : Tg) (e : Expr) : Bool := match tg with
  | .name i => match e with
    | .Name x _ => c.N[i]? == some x && locB c x
    | _ => false
  | .tup is => match e with
    | .Tuple es _ _ => tgs is es
    | _ => false
where tgs : List Nat → List Expr → Bool
  | [], [] => true
  | i :: is, e :: es => (match e with
    | .Name x _ => c.N[i]? == some x && locB c x
    | _ => false) && tgs is es
  | _, _ => false
def blkB (N : List Str) (sc scope : Scope) (vs : List Nat) : Bool :=
  decide (scope.kind = .function) && scope.names.all (fun y => scope.names.lookup y.1 == some y.2) && vs.all (fun i => decide (i < N.length)) &&
  scope.names.all (fun y => !decide (y.2 = .free) || (sc.names.lookup y.1 == some .cell || sc.names.lookup y.1 == some .free)) &&
  scope.names.all (fun y => !(decide (y.2 = .local) || decide (y.2 = .cell)) || ((vs.map fun i => N.getD i Str.empty).contains y.1 || !N.contains y.1))
def ownOf (N : List Str) (vs : List Nat) : List (Str × Nat) := vs.map fun i => (N.getD i Str.empty, i)
/-- which stores a = (..) does -/
def swK (ts vs : List Expr) (sc : Scope) : Option (Option (List Str)) :=
  if !(ts.length == 2 || ts.length == 3) || vs.length != ts.length then some none
  else if vs.any (fun e => !notStar e) then some none
  else
    let line := (ts.head?.map (·.pos.line)).getD 0
    let names := ts.filterMap fun
      | .Name id pos => if sc.names.lookup id == some .local && pos.line == line then some id else none
      | _ => none
    if names.length != ts.length || names.eraseDups.length != names.length then some none
    else if vs.all (foldedForSure 8) then some none
    else if vs.all (constantsAlone 8) then none
    else some (some names)
def swPlain (tg a : Expr) (sc : Scope) : Bool := match tg, a with
  | .Tuple ts _ _, .Tuple vs _ _ => swK ts vs sc == some none
  | .List _ _, .Tuple _ _ _ => false
  | _, _ => true
/-- name = [..] by the list's own way -/
def swB (y : Str) (py : Pos) (scope : Scope) (pos : Pos) (sc : Scope) : Bool :=
  sc.names.lookup y == some .local && py.line == pos.line && !(scope.names.any fun (n, k) => n == y && (k == .local || k == .cell))
def ckPar (c : Ctx) : List Nat → List Expr → Bool
  | [], es => es.isEmpty
  | i :: is, es => match es with
    | .Name x _ :: es => c.N[i]? == some x && (c.sc.names.lookup x == some .local) && ckPar c is es
    | _ => false
def refB (c : Ctx) (a : Cd) (e : Expr) : Bool := match a with
  | .ref i => match e with
    | .Name x _ => nmB c i x
    | _ => false
  | _ => false
def isYes : Cd → Bool
  | .yes => true
  | _ => false
section
variable (t : Tb)
mutual
def ckX (c : Ctx) : Cd → Expr → Bool
  | .var i, e => match e with
    | .Name x _ => nmB c i x
    | _ => false
  | .move i, e => match e with
    | .Name x _ => nmB c i x
    | _ => false
  | .glo n, e => match e with
    | .Name x _ => match t.gl[n]? with
      | some p => p.1 == x && glB c.sc x && noDbg x
      | none => false
    | _ => false
  | .lit d, e => litB d e
  | .bin op a b, e => match e with
    | .BinOp x op2 y _ => decide (op = op2) && binOk op && ckX c a x && ckX c b y
    | _ => false
  | .ofT a, e => ckB c a e
  | .ite u a b, e => match e with
    | .IfExp x y z _ => ckB c u x && ckX c a y && ckX c b z
    | _ => false
  | .neg a, e => match e with
    | .UnaryOp .USub x _ => ckX c a x
    | _ => false
  | .tup l, e => match e with
    | .Tuple es _ _ => ckXs c l es
    | _ => false
  | .lst l, e => match e with
    | .List es _ => ckXs c l es
    | _ => false
  | .ix a b, e => match e with
    | .Subscript x y _ => notSlice y && ckX c a x && ckX c b y
    | _ => false
  | .sl a lo hi, e => match e with
    | .Subscript x (.Slice l h none _) _ => ckX c a x && ckO c lo l && ckO c hi h
    | _ => false
  | .blt k l, e => match e with
    | .Call (.Name x _) es [] _ => x == bltName k && glB c.sc x && t.nob.contains x && !es.isEmpty && ckXs c l es
    | _ => false
  | .isI T a, e => match e with
    | .Call (.Name x _) [y, .Name z _] [] _ => x == ("isinstance" : Str) && glB c.sc x && t.nob.contains x && ["int", "bool", "str", "tuple", "list"].contains T && z == Str.ofString T && glB c.sc z && t.nob.contains z && notStar y && ckX c a y
    | _ => false
  | .fn i l, e => match e with
    | .Call (.Name x _) es [] _ => (match t.fns[i]? with
      | some d => d.name == x && !d.kw
      | none => false) && glB c.sc x && noDbg x && !es.isEmpty && ckAs c l es
    | _ => false
  | .fnD i l, e => match e with
    | .Call (.Name x _) es [] _ => (match t.fns[i]? with
      | some d => d.name == x && d.kw
      | none => false) && glB c.sc x && noDbg x && !es.isEmpty && ckAs c l es
    | _ => false
  | .fnK i l k, e => match e with
    | .Call (.Name x _) es [⟨some kn, ke, _⟩] _ => (match t.fns[i]? with
      | some d => d.name == x && d.kw
      | none => false) && kn == ("clamps" : Str) && glB c.sc x && noDbg x && !es.isEmpty && ckAs c l es && (refB c k ke || ckX c k ke)
    | _ => false
  | .mth m j l, e => match e with
    | .Call (.Attribute (.Name x _) mn ap) es [] p => nmB c j x && mn == mName m && ap.endLine == p.line && !es.isEmpty && decide (es.length < 20) && ckXs c l es
    | _ => false
  | .sset a, e => match e with
    | .Call (.Name x _) [.Call (.Name y _) [z] [] _] [] _ => x == ("sorted" : Str) && y == ("set" : Str) && glB c.sc x && t.nob.contains x && glB c.sc y && t.nob.contains y && notStar z && ckX c a z
    | _ => false
  | .rev a, e => match e with
    | .Subscript x (.Slice none none (some (.UnaryOp .USub (.Constant (.int k) _ _) _)) _) _ => k == 1 && ckX c a x
    | _ => false
  | .lcO vs tg j u b, e => match e with
    | .ListComp x [⟨tgE, it, ifs, 0⟩] scope _ => refB c (.ref j) it && notSet it && blkB c.N c.sc scope vs && tgB (c.blk scope) tg tgE && ((isYes u && ifs.isEmpty) || (match ifs with
      | [y] => ckB (c.blk scope) u y
      | _ => false)) && ckX (c.blk scope) b x
    | _ => false
  | .lc vs tg s u b, e => match e with
    | .ListComp x [⟨tgE, it, ifs, 0⟩] scope _ => ckI c s it tgE && notSet it && blkB c.N c.sc scope vs && tgB (c.blk scope) tg tgE && ((isYes u && ifs.isEmpty) || (match ifs with
      | [y] => ckB (c.blk scope) u y
      | _ => false)) && ckX (c.blk scope) b x
    | _ => false
  | .lc2 vs vs1 tg tg1 s s1 b, e => match e with
    | .ListComp x [⟨tgE, it, [], 0⟩, ⟨tgE1, it1, [], 0⟩] scope _ => ckI c s it tgE && notSet it && notSet it1 && blkB c.N c.sc scope vs && vs1.all vs.contains && tgB (c.blk scope) tg tgE && ckI (c.blk scope) s1 it1 tgE1 && tgB (c.blk scope) tg1 tgE1 && ckX (c.blk scope) b x
    | _ => false
  | .dc vs tg s u k b, e => match e with
    | .DictComp y x [⟨tgE, it, ifs, 0⟩] scope _ => ckI c s it tgE && notSet it && blkB c.N c.sc scope vs && tgB (c.blk scope) tg tgE && ((isYes u && ifs.isEmpty) || (match ifs with
      | [y] => ckB (c.blk scope) u y
      | _ => false)) && ckX (c.blk scope) k y && ckX (c.blk scope) b x
    | _ => false
  | _, _ => false
def ckXs (c : Ctx) : List Cd → List Expr → Bool
  | [], es => es.isEmpty
  | a :: l, es => match es with
    | x :: es => notStar x && ckX c a x && ckXs c l es
    | [] => false
def ckAs (c : Ctx) : List Cd → List Expr → Bool
  | [], es => es.isEmpty
  | a :: l, es => match es with
    | x :: es => notStar x && (refB c a x || ckX c a x) && ckAs c l es
    | [] => false
def ckO (c : Ctx) : Option Cd → Option Expr → Bool
  | none, e => e.isNone
  | some a, e => match e with
    | some x => ckX c a x
    | none => false
def ckB (c : Ctx) : Cd → Expr → Bool
  | .cmp op a b, e => match e with
    | .Compare x [op2] [y] _ => decide (op = op2) && !behindInMarks op y && ckX c a x && ckX c b y
    | _ => false
  | .chain op op' a b d, e => match e with
    | .Compare x [op2, op3] [y, z] _ => decide (op = op2) && decide (op' = op3) && !lastMarks [op, op'] [y, z] && ckX c a x && ckX c b y && ckX c d z
    | _ => false
  | .no a, e => match e with
    | .UnaryOp .Not x _ => ckB c a x
    | _ => false
  | .all l, e => match e with
    | .BoolOp .And es _ => !es.isEmpty && ckBs c l es
    | _ => false
  | .one l, e => match e with
    | .BoolOp .Or es _ => !es.isEmpty && ckBs c l es
    | _ => false
  | .asB a, e => plainT e && ckX c a e
  | _, _ => false
def ckBs (c : Ctx) : List Cd → List Expr → Bool
  | [], es => es.isEmpty
  | a :: l, es => match es with
    | x :: es => ckB c a x && ckBs c l es
    | [] => false
def ckI (c : Ctx) : Cd → Expr → Expr → Bool
  | .any a, e, _ => ckX c a e
  | .enum a, e, tg => match e, tg with
    | .Call (.Name x _) [y] [] _, .Tuple _ _ _ => x == ("enumerate" : Str) && glB c.sc x && t.nob.contains x && notStar y && ckX c a y
    | _, _ => false
  | .zip2 a b, e, tg => match e, tg with
    | .Call (.Name x _) [y, z] [] _, .Tuple _ _ _ => x == ("zip" : Str) && glB c.sc x && t.nob.contains x && notStar y && notStar z && ckX c a y && ckX c b z
    | _, _ => false
  | .zip3 a b d, e, tg => match e, tg with
    | .Call (.Name x _) [y, z, w] [] _, .Tuple _ _ _ => x == ("zip" : Str) && glB c.sc x && t.nob.contains x && notStar y && notStar z && notStar w && ckX c a y && ckX c b z && ckX c d w
    | _, _ => false
  | .rng a, e, _ => match e with
    | .Call (.Name x _) [y] [] _ => x == ("range" : Str) && glB c.sc x && t.nob.contains x && notStar y && ckX c a y
    | _ => false
  | .rng2 a b, e, _ => match e with
    | .Call (.Name x _) [y, z] [] _ => x == ("range" : Str) && glB c.sc x && t.nob.contains x && notStar y && notStar z && ckX c a y && ckX c b z
    | _ => false
  | _, _, _ => false
def ckS (c : Ctx) : Cd → Stmt → Bool
  | .pass, s => match s with
    | .Pass _ => true
    | .Expr (.Constant (.str _) _ _) _ => true
    | _ => false
  | .expr a, s => match s with
    | .Expr e _ => notComp e && ckX c a e
    | _ => false
  | .ret a, s => match s with
    | .Return (some e) _ => ckX c a e
    | _ => false
  | .retN, s => match s with
    | .Return none _ => true
    | _ => false
  | .brk, s => match s with
    | .Break _ => true
    | _ => false
  | .cont, s => match s with
    | .Continue _ => true
    | _ => false
  | .raise x, s => match s with
    | .Raise (some (.Call (.Name y _) [.Constant (.str _) _ _] [] _)) none _ => x == y && t.exs.contains x && glB c.sc x && noDbg x
    | _ => false
  | .sif u a b, s => match s with
    | .If e x y _ => ckB c u e && ckSs c a x && ckSs c b y
    | _ => false
  | .set i a, s => match s with
    | .Assign [.Name y py] e _ => c.N[i]? == some y && locB c y && ckX c a e && (match e with
      | .ListComp x gs scope p => if swB y py scope p c.sc then notO a else true
      | .DictComp _ _ _ scope p => !swB y py scope p c.sc
      | e => notComp e)
    | _ => false
  | .asg tg a, s => match s with
    | .Assign [e] x _ => tgB c tg e && (notComp x || notName e) && swPlain e x c.sc && ckX c a x
    | _ => false
  | .par is l, s => match s with
    | .Assign [.Tuple ts _ _] (.Tuple vs _ _) _ => ckPar c is ts && (swK ts vs c.sc == some (some (ts.filterMap fun
        | .Name x _ => some x
        | _ => none))) && decide (ts.length = is.length) && decide (is.length = 2 ∨ is.length = 3) && decide is.Nodup && ckXs c l vs
    | _ => false
  | .sub j k a, s => match s with
    | .Assign [.Subscript (.Name x _) i _] e _ => nmB c j x && notSlice i && ckX c k i && ckX c a e
    | _ => false
  | .ssl j lo hi a, s => match s with
    | .Assign [.Subscript (.Name x _) (.Slice (some l) (some h) none _) _] e _ => nmB c j x && ckX c lo l && ckX c hi h && ckX c a e
    | _ => false
  | .sfor tg u b, s => match s with
    | .For e it body [] _ => tgB c tg e && notSet it && ckI c u it e && ckSs c b body
    | _ => false
  | .swhile u b, s => match s with
    | .While e body [] _ => ckB c u e && ckSs c b body
    | _ => false
  | _, _ => false
def ckSs (c : Ctx) : List Cd → List Stmt → Bool
  | [], ss => ss.isEmpty
  | a :: l, ss => match ss with
    | s :: ss => ckS c a s && ckSs c l ss
    | [] => false
end
end
end LR

set_option Elab.async false
set_option linter.all false
set_option maxRecDepth 100000
set_option maxHeartbeats 4000000
/-! A checked code is what the text does. -/
namespace LR
open PySem L2

/-- what is known of a def -/
structure FxD (ev : Nat → List O → CRes) (cl : Str → Value) (k : Nat) (P : Program) (w : World) (K : PySem.W.Frag) (mg : Str → Option Value) (base : Heap) (i : Nat) (d : DefE) : Prop where
  ex : ∃ (f : Addr) (fd : FuncData) (ps : List Str), FnOk P w K mg base (L2.CX P w) k f fd ps (spD K cl d.np (ev i)) ∧ mg d.name = some (.ref f) ∧ PySem.W.keepIn K (.ref f) = true ∧
    (d.kw = false → Binds K fd ps []) ∧
    (d.kw = true → (∃ v u, Binds K fd ps [u] ∧ RelV v u ∧ ∀ F, RD K F (.tup []) v) ∧
      ∀ (s : Shared) (us ws : List Value), K.In s.heap → (us ++ ws).length = ps.length → ws.length = 1 → BindsTo s fd ⟨us, [("clamps" : Str)].zip ws⟩ (ps.zip (us ++ ws)))
  len : ∀ os : List O, os.length ≠ d.np → ev i os = .fail
structure Fx (t : Tb) (ev : Nat → List O → CRes) (cl : Str → Value) (k : Nat) (P : Program) (w : World) (K : PySem.W.Frag) (mg : Str → Option Value) (base : Heap) : Prop where
  fns : ∀ i d, t.fns[i]? = some d → FxD ev cl k P w K mg base i d
  gl : ∀ p ∈ t.gl, ∃ v u, mg p.1 = some u ∧ RelV v u ∧ ∀ F, RD K F p.2 v
  nob : ∀ x ∈ t.nob, mg x = none
  exs : ∀ x ∈ t.exs, ∀ (X : Cx), X.K = K → X.mg = mg → ∀ (m : Str) (j : Nat) (p p2 pos : Pos), Gl X x → (x == ("__debug__" : Str)) = false → PMk X (.Call (.Name x p) [.Constant (.str m) j p2] [] pos) fun _ H Q => Q (cl x) none H
structure Good (t : Tb) (ev : Nat → List O → CRes) (cl : Str → Value) (k : Nat) (c : LR.Ctx) (X : Cx) (W : WX) : Prop where
  N : X.N = c.N
  nd : X.N.Nodup
  sc : X.env.scope = c.sc
  calm : X.calm = true
  fn : ∀ x, c.sc0.names.lookup x = some .cell → X.fn x = true
  room : Room k X.A
  tk : Takes X W
  fx : Fx t ev cl k X.prog X.w X.K X.mg X.base
  kind : c.sc.kind = .function
structure GoodS (t : Tb) (ev : Nat → List O → CRes) (cl : Str → Value) (k : Nat) (c : LR.Ctx) (X : Cx) (W : WX) : Prop extends Good t ev cl k c X W where
  pass : PassesOwn (model X.prog X.w) X.A X.env X.xe

section
variable {t : Tb} {ev : Nat → List O → CRes} {cl : Str → Value} {k : Nat} {c : LR.Ctx} {X : Cx} {W : WX} {P : List Nat} {e : Expr} {x : Str} {i : Nat}
theorem Good.units (g : Good t ev cl k c X W) : X.A.units + 65 < cLine := by
  have := g.room.un
  omega
theorem Good.vis (g : Good t ev cl k c X W) (h : visB c.sc x = true) : Vis X.env.scope x := by
  unfold visB at h
  rw [← g.sc] at h
  rcases Bool.or_eq_true_iff.mp h with h | h
  · rcases Bool.or_eq_true_iff.mp h with h | h
    · exact .inl (eq_of_beq h)
    · exact .inr (.inl (eq_of_beq h))
  · exact .inr (.inr (eq_of_beq h))
theorem Good.loc (g : Good t ev cl k c X W) (h : locB c x = true) : Loc X.env.scope x ∧ (X.fn x = true ∨ X.env.scope.names.lookup x = some .local) := by
  unfold locB at h
  rcases Bool.or_eq_true_iff.mp h with h | h
  · have h1 : X.env.scope.names.lookup x = some .local := by
      rw [g.sc]
      exact eq_of_beq h
    exact ⟨.inl h1, .inr h1⟩
  · have h := Bool.and_eq_true_iff.mp h
    have h1 : X.env.scope.names.lookup x = some .cell := by
      rw [g.sc]
      exact eq_of_beq h.1
    exact ⟨.inr h1, .inl (g.fn x (eq_of_beq h.2))⟩
theorem Good.glo (g : Good t ev cl k c X W) (h : glB c.sc x = true) : Gl X x := by
  unfold glB at h
  show X.env.scope.names.lookup x = _
  rw [g.sc]
  exact eq_of_beq h
theorem Good.nm (g : Good t ev cl k c X W) (h : nmB c i x = true) : X.N[i]? = some x ∧ Vis X.env.scope x ∧ (x == ("__debug__" : Str)) = false ∧ (x == ("__classdict__" : Str)) = false := by
  unfold nmB noDbg at h
  simp only [Bool.and_eq_true, Bool.not_eq_true'] at h
  exact ⟨by rw [g.N]; exact eq_of_beq h.1.1, g.vis h.1.2, h.2.1, h.2.2⟩
theorem dbg_of (h : noDbg x = true) : (x == ("__debug__" : Str)) = false := by
  unfold noDbg at h
  simp only [Bool.and_eq_true, Bool.not_eq_true'] at h
  exact h.1
theorem star_of {e : Expr} (h : notStar e = true) : ∀ y p, e ≠ .Starred y p := fun y p z => by
  rw [z] at h
  cases h
theorem slice_of {e : Expr} (h : notSlice e = true) : ∀ l u s p, e ≠ .Slice l u s p := fun l u s p z => by
  rw [z] at h
  cases h
theorem folded_of {e : Expr} {env : PySem.Env} (h : notSet e = true) : ∀ x, foldedSetIterable e env x = pure x := fun x => by
  cases e <;> first
    | rfl
    | cases h
theorem contains_of {l : List Str} {x : Str} (h : l.contains x = true) : x ∈ l := by simpa using h
theorem relabel_sc {scope : Scope} {env : PySem.Env} {sc : Scope} (h : env.scope = sc) : relabel scope env = blkSc scope sc := by
  unfold blkSc relabel Env.kindOf
  rw [h]
  rfl
/-- within a comprehension's block -/
theorem Good.blk (g : Good t ev cl k c X W) {scope : Scope} {vs : List Nat} (h : blkB c.N c.sc scope vs = true) (s : Shared) (H : Hp) (C : Addr) (cs : List (Str × Addr)) (fp : List Addr) : Good t ev cl k (c.blk scope) (X.blk s H scope (compEnvC scope cs C X.env) fp) W0 := by
  unfold blkB at h
  simp only [Bool.and_eq_true] at h
  exact ⟨g.N, g.nd, relabel_sc g.sc, g.calm, fun x hx => by
    show (scope.names.lookup x == some .cell) = true
    have hx : scope.names.lookup x = some .cell := hx
    rw [hx]
    rfl, g.room, takes0, g.fx, of_decide_eq_true h.1.1.1.1⟩
theorem own_map {N : List Str} {vs : List Nat} : (ownOf N vs).map (·.2) = vs := by
  unfold ownOf
  rw [List.map_map]
  exact List.map_id' vs
theorem Good.blkOk (g : Good t ev cl k c X W) {scope : Scope} {vs : List Nat} (h : blkB c.N c.sc scope vs = true) : BlkOk X.N X.env.scope scope (ownOf c.N vs) := by
  unfold blkB at h
  simp only [Bool.and_eq_true] at h
  obtain ⟨⟨⟨⟨h1, h2⟩, h3⟩, h4⟩, h5⟩ := h
  refine ⟨of_decide_eq_true h1, fun y hy => eq_of_beq (List.all_eq_true.mp h2 y hy), fun p hp => ?_, fun y hy hf => ?_, fun y hy hf => ?_⟩
  · obtain ⟨i, hi, rfl⟩ := List.mem_map.mp hp
    have hl : i < c.N.length := of_decide_eq_true (List.all_eq_true.mp h3 i hi)
    show X.N[i]? = some (c.N.getD i Str.empty)
    rw [g.N, List.getD_eq_getElem?_getD, List.getElem?_eq_getElem hl]
    rfl
  · have := List.all_eq_true.mp h4 y hy
    rw [hf] at this
    rw [g.sc]
    have h6 : (c.sc.names.lookup y.1 == some .cell || c.sc.names.lookup y.1 == some .free) = true := by simpa using this
    rcases Bool.or_eq_true_iff.mp h6 with h6 | h6
    · exact .inl (eq_of_beq h6)
    · exact .inr (eq_of_beq h6)
  · have := List.all_eq_true.mp h5 y hy
    have h7 : (decide (y.2 = .local) || decide (y.2 = .cell)) = true := by
      rcases hf with hf | hf <;> simp [hf]
    rw [h7] at this
    have h6 : ((vs.map fun i => c.N.getD i Str.empty).contains y.1 || !c.N.contains y.1) = true := by
      cases hz : ((vs.map fun i => c.N.getD i Str.empty).contains y.1 || !c.N.contains y.1) with
      | true => rfl
      | false =>
        rw [hz] at this
        cases this
    have h8 : (ownOf c.N vs).map (·.1) = vs.map fun i => c.N.getD i Str.empty := by
      unfold ownOf
      rw [List.map_map]
      rfl
    rw [h8, g.N]
    rcases Bool.or_eq_true_iff.mp h6 with h6 | h6
    · exact .inl (by simpa using h6)
    · exact .inr (by simpa using h6)
theorem Good.tgs (g : Good t ev cl k c X W) : ∀ {is : List Nat} {es : List Expr}, tgB.tgs c is es = true → PGs X es ((is.map gName).foldr gCons gNil) ∧ (assignEach es X.env).length = is.length ∧ (assignEach es X.env).findIdx? (·.1) = none
  | [], [], _ => ⟨pgs_nil, rfl, rfl⟩
  | i :: is, .Name x p :: es, h => by
    unfold tgB.tgs at h
    simp only [Bool.and_eq_true] at h
    obtain ⟨⟨h1, h2⟩, h3⟩ := h
    obtain ⟨l1, l2⟩ := g.loc h2
    obtain ⟨r1, r2, r3⟩ := g.tgs h3
    refine ⟨pgs_cons (pg_name g.nd (by rw [g.N]; exact eq_of_beq h1) l1 l2) r1 rfl, ?_, ?_⟩
    · show (assignEach es X.env).length + 1 = is.length + 1
      rw [r2]
    · have e1 : assignEach (.Name x p :: es) X.env = (false, assign (.Name x p) X.env) :: assignEach es X.env := rfl
      rw [e1, List.findIdx?_cons]
      simp [r3]
  | [], _ :: _, h => by cases h
  | _ :: _, [], h => by cases h
  | i :: is, e :: es, h => by
    unfold tgB.tgs at h
    cases e <;> simp at h
    rename_i x p
    obtain ⟨⟨h1, h2⟩, h3⟩ := h
    obtain ⟨l1, l2⟩ := g.loc h2
    obtain ⟨r1, r2, r3⟩ := g.tgs h3
    refine ⟨pgs_cons (pg_name g.nd (by rw [g.N]; exact h1) l1 l2) r1 rfl, ?_, ?_⟩
    · show (assignEach es X.env).length + 1 = is.length + 1
      rw [r2]
    · have e1 : assignEach (.Name x p :: es) X.env = (false, assign (.Name x p) X.env) :: assignEach es X.env := rfl
      rw [e1, List.findIdx?_cons]
      simp [r3]
theorem Good.tg (g : Good t ev cl k c X W) {tg : Tg} (h : tgB c tg e = true) : PGG X e tg := by
  cases tg with
  | name i =>
    unfold tgB at h
    cases e <;> simp at h
    obtain ⟨h1, h2⟩ := h
    obtain ⟨l1, l2⟩ := g.loc h2
    exact pg_n g.nd (by rw [g.N]; exact h1) l1 l2
  | tup is =>
    unfold tgB at h
    cases e <;> simp at h
    obtain ⟨r1, r2, r3⟩ := g.tgs h
    exact pg_t g.calm r1 r2 r3
theorem Good.swap (g : Good t ev cl k c X W) {ts vs : List Expr} {k1 k2 : Nat} {p1 p2 : Pos} {r : Option (List Str)} (h : swK ts vs c.sc = some r) : swappedStores [.Tuple ts k1 p1] (.Tuple vs k2 p2) X.env = pure r := by
  have hb : X.env.blockKind = .function := by
    unfold Env.blockKind
    rw [g.sc, g.kind]
    rfl
  have hk : ∀ y, X.env.kindOf y = c.sc.names.lookup y := fun y => by
    show X.env.scope.names.lookup y = _
    rw [g.sc]
  unfold swK at h
  unfold swappedStores
  simp only [hb, hk]
  by_cases h1 : (!(ts.length == 2 || ts.length == 3) || vs.length != ts.length) = true
  · rw [if_pos h1] at h
    cases h
    exact if_pos (by rw [h1]; rfl)
  · rw [if_neg h1] at h
    refine (if_neg (by
      rw [Bool.not_eq_true] at h1
      rw [h1]
      decide)).trans ?_
    by_cases h2 : (vs.any fun e => !notStar e) = true
    · rw [if_pos h2] at h
      cases h
      exact if_pos ((congrArg (List.any vs) (funext fun e => by cases e <;> rfl)).trans h2)
    · rw [if_neg h2] at h
      refine (if_neg fun z => h2 (Eq.trans (congrArg (List.any vs) (funext fun e => by cases e <;> rfl)) z)).trans ?_
      dsimp only at h
      split at h
      · rename_i h3
        cases h
        exact if_pos h3
      · rename_i h3
        refine (if_neg h3).trans ?_
        split at h
        · rename_i h4
          cases h
          exact if_pos h4
        · rename_i h4
          refine (if_neg h4).trans ?_
          split at h
          · cases h
          · rename_i h5
            cases h
            exact if_neg h5
end
end LR

set_option Elab.async false
set_option linter.all false
set_option maxRecDepth 100000
set_option maxHeartbeats 4000000
/-! A checked code is what the text does: every construct. -/
namespace LR
open PySem L2

structure St (a : Cd) : Prop where
  x : ∀ {t : Tb} {ev : Nat → List O → CRes} {cl : Str → Value} {k : Nat} {c : LR.Ctx} {X : Cx} {W : WX} {P : List Nat} {e : Expr}, Good t ev cl k c X W → ckX t c a e = true → PX X W cl e (rnX t P ev a)
  b : ∀ {t : Tb} {ev : Nat → List O → CRes} {cl : Str → Value} {k : Nat} {c : LR.Ctx} {X : Cx} {W : WX} {P : List Nat} {e : Expr}, Good t ev cl k c X W → ckB t c a e = true → PB X W cl e (rnB t P ev a) ∧ PTT X W cl e (rnB t P ev a)
  i : ∀ {t : Tb} {ev : Nat → List O → CRes} {cl : Str → Value} {k : Nat} {c : LR.Ctx} {X : Cx} {W : WX} {P : List Nat} {e tg : Expr}, Good t ev cl k c X W → ckI t c a e tg = true → PSrc X W cl tg e (rnI t P ev a)
  s : ∀ {t : Tb} {ev : Nat → List O → CRes} {cl : Str → Value} {k : Nat} {c : LR.Ctx} {X : Cx} {W : WX} {P : List Nat} {e : Stmt}, GoodS t ev cl k c X W → ckS t c a e = true → PST X W cl P e (rnS t P ev a)

section
variable {t : Tb} {ev : Nat → List O → CRes} {cl : Str → Value} {k : Nat} {c : LR.Ctx} {X : Cx} {W : WX} {P : List Nat} {e : Expr} {a b d : Cd} {l : List Cd} {es : List Expr}
theorem St.r (h : St a) (g : Good t ev cl k c X W) (hk : ckX t c a e = true) : PR X W cl e (opdOf a (rnX t P ev a)) := by
  cases a with
  | var i =>
    unfold ckX at hk
    cases e <;> simp at hk
    obtain ⟨h1, h2, h3, h4⟩ := g.nm hk
    exact pr_var h1 h2 h3 h4
  | _ => exact pr_of (h.x g hk)
theorem St.arg (h : St a) (g : Good t ev cl k c X W) (hk : (refB c a e || ckX t c a e) = true) : PR X W cl e (argOf a (rnX t P ev a)) := by
  cases a with
  | ref i =>
    have hk : (refB c (.ref i) e || ckX t c (.ref i) e) = true := hk
    unfold refB ckX at hk
    cases e <;> simp at hk
    obtain ⟨h1, h2, h3, h4⟩ := g.nm hk
    exact pr_var h1 h2 h3 h4
  | _ => exact pr_toA (h.x g (by simpa [refB] using hk))
theorem ref_ok {j : Nat} (g : Good t ev cl k c X W) (hk : refB c (.ref j) e = true) : PR X W cl e (rVar j) := by
  unfold refB at hk
  cases e <;> simp at hk
  obtain ⟨h1, h2, h3, h4⟩ := g.nm hk
  exact pr_var h1 h2 h3 h4
theorem vs_ok (g : Good t ev cl k c X W) : ∀ {l : List Cd} {es : List Expr}, (∀ a ∈ l, St a) → ckXs t c l es = true → PAA X W cl es (allM (rnVs t P ev l)) ∧ (∀ x ∈ es, ∀ y p, x ≠ .Starred y p)
  | [], es, _, hk => by
    unfold ckXs at hk
    have : es = [] := by simpa using hk
    rw [this]
    unfold rnVs
    exact ⟨pa_all_nil, fun x hx => by cases hx⟩
  | a :: l, [], _, hk => by
    unfold ckXs at hk
    cases hk
  | a :: l, e :: es, h, hk => by
    unfold ckXs at hk
    simp only [Bool.and_eq_true] at hk
    obtain ⟨⟨h1, h2⟩, h3⟩ := hk
    obtain ⟨r1, r2⟩ := vs_ok g (fun b hb => h b (List.mem_cons_of_mem _ hb)) h3
    unfold rnVs
    refine ⟨pa_all_cons (pv_of ((h a List.mem_cons_self).x g h2)) r1 (plain_star (star_of h1)), fun x hx => ?_⟩
    rcases List.mem_cons.mp hx with z | z
    · rw [z]
      exact star_of h1
    · exact r2 x z
theorem os_ok (g : Good t ev cl k c X W) : ∀ {l : List Cd} {es : List Expr}, (∀ a ∈ l, St a) → ckXs t c l es = true → PAO X W cl es (allM (rnOs t P ev l))
  | [], es, _, hk => by
    unfold ckXs at hk
    have : es = [] := by simpa using hk
    rw [this]
    unfold rnOs
    exact pao_nil
  | a :: l, [], _, hk => by
    unfold ckXs at hk
    cases hk
  | a :: l, e :: es, h, hk => by
    unfold ckXs at hk
    simp only [Bool.and_eq_true] at hk
    obtain ⟨⟨h1, h2⟩, h3⟩ := hk
    unfold rnOs
    exact pao_cons ((h a List.mem_cons_self).x g h2) (os_ok g (fun b hb => h b (List.mem_cons_of_mem _ hb)) h3) (plain_star (star_of h1))
theorem rs_ok (g : Good t ev cl k c X W) : ∀ {l : List Cd} {es : List Expr}, (∀ a ∈ l, St a) → ckXs t c l es = true → PAR X W cl es (allR (rnRs t P ev l)) ∧ (∀ x ∈ es, ∀ y p, x ≠ .Starred y p)
  | [], es, _, hk => by
    unfold ckXs at hk
    have : es = [] := by simpa using hk
    rw [this]
    unfold rnRs
    exact ⟨par_nil, fun x hx => by cases hx⟩
  | a :: l, [], _, hk => by
    unfold ckXs at hk
    cases hk
  | a :: l, e :: es, h, hk => by
    unfold ckXs at hk
    simp only [Bool.and_eq_true] at hk
    obtain ⟨⟨h1, h2⟩, h3⟩ := hk
    obtain ⟨r1, r2⟩ := rs_ok g (fun b hb => h b (List.mem_cons_of_mem _ hb)) h3
    unfold rnRs
    refine ⟨par_cons ((h a List.mem_cons_self).r g h2) r1 (plain_star (star_of h1)), fun x hx => ?_⟩
    rcases List.mem_cons.mp hx with z | z
    · rw [z]
      exact star_of h1
    · exact r2 x z
theorem as_ok (g : Good t ev cl k c X W) : ∀ {l : List Cd} {es : List Expr}, (∀ a ∈ l, St a) → ckAs t c l es = true → PAR X W cl es (allR (rnAs t P ev l)) ∧ (∀ x ∈ es, ∀ y p, x ≠ .Starred y p)
  | [], es, _, hk => by
    unfold ckAs at hk
    have : es = [] := by simpa using hk
    rw [this]
    unfold rnAs
    exact ⟨par_nil, fun x hx => by cases hx⟩
  | a :: l, [], _, hk => by
    unfold ckAs at hk
    cases hk
  | a :: l, e :: es, h, hk => by
    unfold ckAs at hk
    simp only [Bool.and_eq_true] at hk
    obtain ⟨⟨h1, h2⟩, h3⟩ := hk
    obtain ⟨r1, r2⟩ := as_ok g (fun b hb => h b (List.mem_cons_of_mem _ hb)) h3
    unfold rnAs
    refine ⟨par_cons ((h a List.mem_cons_self).arg g h2) r1 (plain_star (star_of h1)), fun x hx => ?_⟩
    rcases List.mem_cons.mp hx with z | z
    · rw [z]
      exact star_of h1
    · exact r2 x z
theorem and_ok (g : Good t ev cl k c X W) {pos : Pos} : ∀ {l : List Cd} {es : List Expr}, (∀ a ∈ l, St a) → es ≠ [] → ckBs t c l es = true → PB X W cl (.BoolOp .And es pos) (bAnd (rnBs t P ev l)) ∧ PWW X W cl (.BoolOp .And es pos) (bAnd (rnBs t P ev l))
  | [], es, _, hn, hk => by
    unfold ckBs at hk
    exact absurd (by simpa using hk) hn
  | a :: l, [], _, hn, _ => absurd rfl hn
  | [a], [e], h, _, hk => by
    unfold ckBs at hk
    simp only [Bool.and_eq_true] at hk
    obtain ⟨h1, h2⟩ := (h a List.mem_cons_self).b (P := P) g hk.1
    exact ⟨pb_and1 h1, pw_and1' h2⟩
  | a :: b :: l, e :: e2 :: es, h, _, hk => by
    unfold ckBs at hk
    simp only [Bool.and_eq_true] at hk
    obtain ⟨h1, h2⟩ := (h a List.mem_cons_self).b (P := P) g hk.1
    obtain ⟨r1, r2⟩ := and_ok g (pos := pos) (l := b :: l) (es := e2 :: es) (fun b hb => h b (List.mem_cons_of_mem _ hb)) (fun z => nomatch z) hk.2
    exact ⟨pb_and h1 r1, pw_and' h2 r2⟩
  | [a], e :: e2 :: es, h, _, hk => by
    unfold ckBs at hk
    simp [ckBs] at hk
  | a :: b :: l, [e], h, _, hk => by
    unfold ckBs at hk
    simp [ckBs] at hk
theorem or_ok (g : Good t ev cl k c X W) {pos : Pos} : ∀ {l : List Cd} {es : List Expr}, (∀ a ∈ l, St a) → es ≠ [] → ckBs t c l es = true → PB X W cl (.BoolOp .Or es pos) (bOr (rnBs t P ev l)) ∧ PWW X W cl (.BoolOp .Or es pos) (bOr (rnBs t P ev l))
  | [], es, _, hn, hk => by
    unfold ckBs at hk
    exact absurd (by simpa using hk) hn
  | a :: l, [], _, hn, _ => absurd rfl hn
  | [a], [e], h, _, hk => by
    unfold ckBs at hk
    simp only [Bool.and_eq_true] at hk
    obtain ⟨h1, h2⟩ := (h a List.mem_cons_self).b (P := P) g hk.1
    exact ⟨pb_or1 h1, pw_or1' h2⟩
  | a :: b :: l, e :: e2 :: es, h, _, hk => by
    unfold ckBs at hk
    simp only [Bool.and_eq_true] at hk
    obtain ⟨h1, h2⟩ := (h a List.mem_cons_self).b (P := P) g hk.1
    obtain ⟨r1, r2⟩ := or_ok g (pos := pos) (l := b :: l) (es := e2 :: es) (fun b hb => h b (List.mem_cons_of_mem _ hb)) (fun z => nomatch z) hk.2
    exact ⟨pb_or h1 r1, pw_or' h2 r2⟩
  | [a], e :: e2 :: es, h, _, hk => by
    unfold ckBs at hk
    simp [ckBs] at hk
  | a :: b :: l, [e], h, _, hk => by
    unfold ckBs at hk
    simp [ckBs] at hk
theorem ss_ok (g : GoodS t ev cl k c X W) : ∀ {l : List Cd} {ss : List Stmt}, (∀ a ∈ l, St a) → ckSs t c l ss = true → PSS X W cl P ss (sSeq (rnSs t P ev l))
  | [], ss, _, hk => by
    unfold ckSs at hk
    have : ss = [] := by simpa using hk
    rw [this]
    unfold rnSs
    exact pss_n
  | a :: l, [], _, hk => by
    unfold ckSs at hk
    cases hk
  | a :: l, s :: ss, h, hk => by
    unfold ckSs at hk
    simp only [Bool.and_eq_true] at hk
    unfold rnSs
    exact pss_c ((h a List.mem_cons_self).s g hk.1) (ss_ok g (fun b hb => h b (List.mem_cons_of_mem _ hb)) hk.2)
theorem oo_ok (g : Good t ev cl k c X W) {o : Option Cd} {oe : Option Expr} (h : ∀ a ∈ o, St a) (hk : ckO t c o oe = true) : POO X W cl oe (mOpt (rnO t P ev o)) := by
  cases o with
  | none =>
    unfold ckO at hk
    have : oe = none := by simpa using hk
    rw [this]
    unfold rnO
    exact po_none'
  | some a =>
    cases oe with
    | none =>
      unfold ckO at hk
      cases hk
    | some e =>
      unfold ckO at hk
      unfold rnO
      exact po_some' ((h a rfl).x g hk)
theorem lit_ok {dd : D} (hk : litB dd e = true) : PX X W cl e (xLit dd) := by
  unfold litB at hk
  split at hk
  · split at hk
    · rw [eq_of_beq hk]; exact px_int
    · cases hk
  · split at hk
    · rw [eq_of_beq hk]; exact px_bl
    · cases hk
  · split at hk
    · rw [eq_of_beq hk]; exact px_str
    · cases hk
  · split at hk
    · exact px_non
    · cases hk
  · cases hk
theorem plain_is {env : PySem.Env} (h : plainT e = true) : ∀ whole, isTrue e env whole = (do let v ← whole; standAt e.pos; holding [v] (truthy v)) := fun whole => by
  cases e <;> first
    | rfl
    | cases h
theorem swPlain_ok (g : Good t ev cl k c X W) {tg a : Expr} (h : swPlain tg a c.sc = true) : swappedStores [tg] a X.env = pure none := by
  unfold swPlain at h
  split at h
  · exact g.swap (eq_of_beq h)
  · cases h
  · rename_i h1 h2
    cases tg <;> first
      | rfl
      | (cases a <;> first
          | rfl
          | exact absurd rfl (h1 _ _ _ _ _ _ rfl)
          | exact (h1 _ _ _ _ _ _ rfl rfl).elim
          | exact (h2 _ _ _ _ _ rfl rfl).elim)
theorem swaps_of {tg a : Expr} {n : Nat} {env : PySem.Env} (h : (notComp a || notName tg) = true) : swapsWithSole [tg] a n env = pure false := by
  cases a <;> first
    | rfl
    | (cases tg <;> first
        | rfl
        | cases h)
theorem swaps1_of {tg : Option Expr} {a : Expr} {n : Nat} {env : PySem.Env} (h : notComp a = true) : swapsWith a tg n env = pure false := by
  cases a <;> first
    | rfl
    | cases h
theorem sw_is (g : Good t ev cl k c X W) {x : Expr} {gs : List Comprehension} {scope : Scope} {p py : Pos} {y : Str} {n : Nat} : swapsWith (.ListComp x gs scope p) (some (.Name y py)) n X.env = pure (swB y py scope p c.sc) := by
  have hb : X.env.blockKind = .function := by
    unfold Env.blockKind
    rw [g.sc, g.kind]
    rfl
  have hk : X.env.kindOf y = c.sc.names.lookup y := by
    show X.env.scope.names.lookup y = _
    rw [g.sc]
  unfold swapsWith swB
  simp only [hb, hk]
  rfl
theorem sw_isD (g : Good t ev cl k c X W) {x z : Expr} {gs : List Comprehension} {scope : Scope} {p py : Pos} {y : Str} {n : Nat} : swapsWith (.DictComp x z gs scope p) (some (.Name y py)) n X.env = pure (swB y py scope p c.sc) := by
  have hb : X.env.blockKind = .function := by
    unfold Env.blockKind
    rw [g.sc, g.kind]
    rfl
  have hk : X.env.kindOf y = c.sc.names.lookup y := by
    show X.env.scope.names.lookup y = _
    rw [g.sc]
  unfold swapsWith swB
  simp only [hb, hk]
  rfl
/-! ### calls -/
theorem fn_ok (g : Good t ev cl k c X W) {i : Nat} {x : Str} {p pos : Pos} {d : DefE} (hd : t.fns[i]? = some d) (hn : d.name = x) (hg : Gl X x) (hdb : (x == ("__debug__" : Str)) = false) {a : Expr} {es : List Expr} {fs : List (M Opd)} (hs : ∀ x ∈ a :: es, ∀ y p, x ≠ .Starred y p) (ha : PAR X W cl (a :: es) (allR fs)) :
    (d.kw = false → PX X W cl (.Call (.Name x p) (a :: es) [] pos) (xCall (ev i) [] fs)) ∧ (d.kw = true → PX X W cl (.Call (.Name x p) (a :: es) [] pos) (xCall (ev i) [.tup []] fs)) ∧
    (d.kw = true → ∀ {ke : Expr} {kp : Pos} {fk : M Opd}, PR X W cl ke fk → PX X W cl (.Call (.Name x p) (a :: es) [⟨some "clamps", ke, kp⟩] pos) (xCall (ev i) [] (fs ++ [fk]))) := by
  obtain ⟨⟨f, fd, ps, F, hm, hk, h1, h2⟩, hl⟩ := g.fx.fns i d hd
  rw [hn] at hm
  refine ⟨fun hw => px_fn (dvs := []) (dd := []) (ds := []) F g.tk g.room hg hm hk (h1 hw) .nil rfl (fun p hp => by cases hp) hl hs hdb ha, fun hw => ?_, fun hw ke kp fk hke => ?_⟩
  · obtain ⟨⟨v, u, hb, rv, rd⟩, _⟩ := h2 hw
    exact px_fn (dvs := [v]) (dd := [.tup []]) (ds := [u]) F g.tk g.room hg hm hk hb (.cons rv .nil) rfl (fun p hp F => by
      have e : p = (v, .tup []) := by simpa using hp
      rw [e]
      exact rd F) hl hs hdb ha
  · obtain ⟨_, hb⟩ := h2 hw
    exact px_fnK F g.tk g.room hg hm hk hb hl hs hdb ha hke
theorem size_mem {l : List Cd} {a : Cd} (h : a ∈ l) : sizeOf a < sizeOf l := List.sizeOf_lt_of_mem h
theorem par_ok (g : Good t ev cl k c X W) : ∀ {is : List Nat} {ts : List Expr}, ckPar c is ts = true → ∀ (j : Nat) (x : Str) (p : Pos), ts[j]? = some (Expr.Name x p) → ∃ i, is[j]? = some i ∧ X.N[i]? = some x ∧ X.env.scope.names.lookup x = some .local
  | [], ts, h, j, x, p, hj => by
    unfold ckPar at h
    have : ts = [] := by simpa using h
    rw [this] at hj
    simp at hj
  | i :: is, [], h, j, x, p, hj => by simp at hj
  | i :: is, e :: ts, h, j, x, p, hj => by
    unfold ckPar at h
    cases e <;> simp at h
    obtain ⟨⟨h1, h2⟩, h3⟩ := h
    cases j with
    | zero =>
      simp at hj
      obtain ⟨rfl, rfl⟩ := hj
      exact ⟨i, rfl, by rw [g.N]; exact h1, by rw [g.sc]; exact h2⟩
    | succ j => exact par_ok g h3 j x p (by simpa using hj)
theorem par_names : ∀ {is : List Nat} {ts : List Expr}, ckPar c is ts = true → ∀ e ∈ ts, ∃ x p, e = .Name x p
  | [], ts, h, e, he => by
    unfold ckPar at h
    have : ts = [] := by simpa using h
    rw [this] at he
    cases he
  | i :: is, [], h, e, he => by cases he
  | i :: is, e0 :: ts, h, e, he => by
    unfold ckPar at h
    cases e0 <;> simp at h
    rcases List.mem_cons.mp he with z | z
    · exact ⟨_, _, z⟩
    · exact par_names h.2 e z
theorem if_ok {X : Cx} {c : LR.Ctx} (g : Good t ev cl k c X W) {u : Cd} {ifs : List Expr} (h : St u) (hk : ((isYes u && ifs.isEmpty) || (match ifs with
      | [y] => ckB t c u y
      | _ => false)) = true) : PTTs X W cl ifs (rnB t P ev u) := by
  rcases Bool.or_eq_true_iff.mp hk with hk | hk
  · rw [Bool.and_eq_true] at hk
    have h2 : ifs = [] := by simpa using hk.2
    rw [h2]
    cases u <;> first
      | (unfold rnB; exact pts_n)
      | cases hk.1
  · split at hk
    · exact pts_1 (h.b g hk).2
    · cases hk
theorem xs_len : ∀ {l : List Cd} {es : List Expr}, ckXs t c l es = true → l.length = es.length
  | [], es, h => by
    unfold ckXs at h
    have : es = [] := by simpa using h
    rw [this]
    rfl
  | a :: l, [], h => by
    unfold ckXs at h
    cases h
  | a :: l, e :: es, h => by
    unfold ckXs at h
    simp only [Bool.and_eq_true] at h
    rw [List.length_cons, List.length_cons, xs_len h.2]
theorem ps_x {e : Expr} {x : Str} {pos : Pos} (hc : X.calm = true) (tk : Takes X W) (h : PMk X e fun _ H Q => Q (cl x) none H) : PST X W cl P (.Raise (some e) none pos) (sRaise x) :=
  (ps_raise hc tk h).imp fun D σ H ⟨pv, e, rest, s, hp, q⟩ => q σ H s

/-! ### every construct -/
theorem st_all : ∀ (n : Nat) (a : Cd), sizeOf a < n → St a := by
  intro n
  induction n with
  | zero => exact fun a h => absurd h (Nat.not_lt_zero _)
  | succ n ih =>
    intro a hsz
    have mem : ∀ {l : List Cd}, sizeOf l < n → ∀ b ∈ l, St b := fun hl b hb => ih b (Nat.lt_trans (size_mem hb) hl)
    refine ⟨fun {t ev cl k c X W P e} g hk => ?_, fun {t ev cl k c X W P e} g hk => ?_, fun {t ev cl k c X W P e tg} g hk => ?_, fun {t ev cl k c X W P e} g hk => ?_⟩
    -- values
    · cases a with
      | var i =>
        unfold ckX at hk
        cases e <;> simp at hk
        obtain ⟨h1, h2, h3, h4⟩ := g.nm hk
        unfold rnX
        exact px_var h1 h2 h3 h4
      | move i =>
        unfold ckX at hk
        cases e <;> simp at hk
        obtain ⟨h1, h2, h3, h4⟩ := g.nm hk
        unfold rnX
        exact px_move h1 h2 h3 h4
      | glo m =>
        unfold ckX at hk
        cases e <;> simp at hk
        split at hk
        · rename_i p hp
          simp at hk
          obtain ⟨⟨h1, h2⟩, h3⟩ := hk
          obtain ⟨v, u, hm, rv, rd⟩ := g.fx.gl p (List.mem_of_getElem? hp)
          unfold rnX globOf
          rw [hp]
          rw [h1] at hm
          exact px_glob (g.glo h2) hm rv rd (dbg_of h3)
        · cases hk
      | lit d =>
        unfold ckX at hk
        unfold rnX
        exact lit_ok hk
      | bin op a b =>
        simp only [Cd.bin.sizeOf_spec] at hsz
        unfold ckX at hk
        cases e <;> simp at hk
        obtain ⟨⟨⟨h1, h2⟩, h3⟩, h4⟩ := hk
        unfold rnX
        rw [← h1]
        exact px_bin h2 ((ih a (by omega)).r g h3) ((ih b (by omega)).r g h4)
      | ofT a =>
        simp only [Cd.ofT.sizeOf_spec] at hsz
        unfold ckX at hk
        unfold rnX
        exact px_ofB ((ih a (by omega)).b g hk).1
      | ite u a b =>
        simp only [Cd.ite.sizeOf_spec] at hsz
        unfold ckX at hk
        cases e <;> simp at hk
        obtain ⟨⟨h1, h2⟩, h3⟩ := hk
        unfold rnX
        exact px_if ((ih u (by omega)).b g h1).2 ((ih a (by omega)).x g h2) ((ih b (by omega)).x g h3)
      | neg a =>
        simp only [Cd.neg.sizeOf_spec] at hsz
        unfold ckX at hk
        split at hk
        · unfold rnX
          exact px_neg ((ih a (by omega)).r g hk)
        · cases hk
      | tup l =>
        simp only [Cd.tup.sizeOf_spec] at hsz
        unfold ckX at hk
        cases e <;> simp at hk
        unfold rnX
        exact px_tup (vs_ok g (mem (by omega)) hk).1
      | lst l =>
        simp only [Cd.lst.sizeOf_spec] at hsz
        unfold ckX at hk
        cases e <;> simp at hk
        unfold rnX
        exact px_lst (vs_ok g (mem (by omega)) hk).1
      | ix a b =>
        simp only [Cd.ix.sizeOf_spec] at hsz
        unfold ckX at hk
        cases e <;> simp at hk
        obtain ⟨⟨h1, h2⟩, h3⟩ := hk
        unfold rnX
        exact px_ix (by have := g.units; omega) (slice_of h1) ((ih a (by omega)).r g h2) ((ih b (by omega)).r g h3)
      | sl a lo hi =>
        simp only [Cd.sl.sizeOf_spec] at hsz
        unfold ckX at hk
        split at hk
        · simp only [Bool.and_eq_true] at hk
          obtain ⟨⟨h1, h2⟩, h3⟩ := hk
          unfold rnX
          refine px_sl ((ih a (by omega)).r g h1) (oo_ok g (fun b hb => ih b ?_) h2) (oo_ok g (fun b hb => ih b ?_) h3)
          · cases lo <;> simp at hb
            subst hb
            simp at hsz
            omega
          · cases hi <;> simp at hb
            subst hb
            simp at hsz
            omega
        · cases hk
      | blt kk l =>
        simp only [Cd.blt.sizeOf_spec] at hsz
        unfold ckX at hk
        split at hk
        · rename_i x p es q
          simp only [Bool.and_eq_true, Bool.not_eq_true'] at hk
          obtain ⟨⟨⟨⟨h1, h2⟩, h3⟩, h4⟩, h5⟩ := hk
          have h1 := eq_of_beq h1
          subst h1
          obtain ⟨r1, r2⟩ := rs_ok g (P := P) (mem (by omega)) h5
          cases es with
          | nil => cases h4
          | cons e0 es =>
            unfold rnX
            exact px_blt g.calm (g.glo h2) (g.fx.nob _ (contains_of h3)) r2 r1
        · cases hk
      | isI T a =>
        simp only [Cd.isI.sizeOf_spec] at hsz
        unfold ckX at hk
        split at hk
        · rename_i x p y z q r
          simp only [Bool.and_eq_true] at hk
          obtain ⟨⟨⟨⟨⟨⟨⟨⟨h1, h2⟩, h3⟩, h4⟩, h5⟩, h6⟩, h7⟩, h8⟩, h9⟩ := hk
          have h1 := eq_of_beq h1
          have h5 := eq_of_beq h5
          subst h1 h5
          have hT : T ∈ ["int", "bool", "str", "tuple", "list"] := by simpa using h4
          have hb : bootBuiltins (Str.ofString T) = some (.type T) ∧ Str.ofString T ≠ "__name__" ∧ (Str.ofString T == ("__debug__" : Str)) = false := by
            have : ∀ T ∈ ["int", "bool", "str", "tuple", "list"], bootBuiltins (Str.ofString T) = some (.type T) ∧ Str.ofString T ≠ "__name__" ∧ (Str.ofString T == ("__debug__" : Str)) = false := by decide +kernel
            exact this T hT
          unfold rnX
          exact px_isI hT (g.glo h2) (g.fx.nob _ (contains_of h3)) (g.glo h6) (g.fx.nob _ (contains_of h7)) hb.1 hb.2.1 hb.2.2 (star_of h8) ((ih a (by omega)).r g h9)
        · cases hk
      | fn i l =>
        simp only [Cd.fn.sizeOf_spec] at hsz
        unfold ckX at hk
        split at hk
        · rename_i x p es q
          simp only [Bool.and_eq_true, Bool.not_eq_true'] at hk
          obtain ⟨⟨⟨⟨h1, h2⟩, h3⟩, h4⟩, h5⟩ := hk
          split at h1
          · rename_i d hd
            simp only [Bool.and_eq_true, Bool.not_eq_true'] at h1
            obtain ⟨r1, r2⟩ := as_ok g (P := P) (mem (by omega)) h5
            cases es with
            | nil => cases h4
            | cons e0 es =>
              unfold rnX
              exact (fn_ok g hd (eq_of_beq h1.1) (g.glo h2) (dbg_of h3) r2 r1).1 h1.2
          · cases h1
        · cases hk
      | fnD i l =>
        simp only [Cd.fnD.sizeOf_spec] at hsz
        unfold ckX at hk
        split at hk
        · rename_i x p es q
          simp only [Bool.and_eq_true, Bool.not_eq_true'] at hk
          obtain ⟨⟨⟨⟨h1, h2⟩, h3⟩, h4⟩, h5⟩ := hk
          split at h1
          · rename_i d hd
            simp only [Bool.and_eq_true] at h1
            obtain ⟨r1, r2⟩ := as_ok g (P := P) (mem (by omega)) h5
            cases es with
            | nil => cases h4
            | cons e0 es =>
              unfold rnX
              exact (fn_ok g hd (eq_of_beq h1.1) (g.glo h2) (dbg_of h3) r2 r1).2.1 h1.2
          · cases h1
        · cases hk
      | fnK i l kk =>
        simp only [Cd.fnK.sizeOf_spec] at hsz
        unfold ckX at hk
        split at hk
        · rename_i x p es kn ke kp q
          simp only [Bool.and_eq_true, Bool.not_eq_true'] at hk
          obtain ⟨⟨⟨⟨⟨⟨h1, h0⟩, h2⟩, h3⟩, h4⟩, h5⟩, h6⟩ := hk
          have h0 := eq_of_beq h0
          subst h0
          split at h1
          · rename_i d hd
            simp only [Bool.and_eq_true] at h1
            obtain ⟨r1, r2⟩ := as_ok g (P := P) (mem (by omega)) h5
            cases es with
            | nil => cases h4
            | cons e0 es =>
              unfold rnX
              exact (fn_ok g hd (eq_of_beq h1.1) (g.glo h2) (dbg_of h3) r2 r1).2.2 h1.2 ((ih kk (by omega)).arg g h6)
          · cases h1
        · cases hk
      | mth m j l =>
        simp only [Cd.mth.sizeOf_spec] at hsz
        unfold ckX at hk
        split at hk
        · rename_i x p mn ap es q
          simp only [Bool.and_eq_true, Bool.not_eq_true'] at hk
          obtain ⟨⟨⟨⟨⟨h1, h2⟩, h3⟩, h4⟩, h5⟩, h6⟩ := hk
          have h2 := eq_of_beq h2
          subst h2
          obtain ⟨n1, n2, n3, n4⟩ := g.nm h1
          obtain ⟨r1, r2⟩ := vs_ok g (P := P) (mem (by omega)) h6
          have h5 := of_decide_eq_true h5
          cases es with
          | nil => cases h4
          | cons e0 es =>
            unfold rnX
            exact px_mth n1 n2 n3 n4 r1 r2 h3 (by rw [List.length_cons] at h5; omega)
        · cases hk
      | sset a =>
        simp only [Cd.sset.sizeOf_spec] at hsz
        unfold ckX at hk
        split at hk
        · simp only [Bool.and_eq_true] at hk
          obtain ⟨⟨⟨⟨⟨⟨⟨h1, h2⟩, h3⟩, h4⟩, h5⟩, h6⟩, h7⟩, h8⟩ := hk
          have h1 := eq_of_beq h1
          have h2 := eq_of_beq h2
          subst h1 h2
          unfold rnX
          exact px_sset g.calm g.units (g.glo h3) (g.fx.nob _ (contains_of h4)) (g.glo h5) (g.fx.nob _ (contains_of h6)) (star_of h7) ((ih a (by omega)).r g h8)
        · cases hk
      | rev a =>
        simp only [Cd.rev.sizeOf_spec] at hsz
        unfold ckX at hk
        split at hk
        · simp only [Bool.and_eq_true] at hk
          obtain ⟨h1, h2⟩ := hk
          have h1 := eq_of_beq h1
          subst h1
          unfold rnX
          exact px_rev ((ih a (by omega)).r g h2)
        · cases hk
      | lcO vs tg j u b =>
        simp only [Cd.lcO.sizeOf_spec] at hsz
        unfold ckX at hk
        split at hk
        · rename_i x tgE it ifs scope q
          simp only [Bool.and_eq_true] at hk
          obtain ⟨⟨⟨⟨⟨h1, h2⟩, h3⟩, h4⟩, h5⟩, h6⟩ := hk
          unfold rnX
          have key := px_lcO (X := X) (W := W) (cl := cl) (pos := q) (ifs := ifs) (ft := rnB t P ev u) (te := rnX t P ev b) (t := tg) (j := j) g.calm g.nd (ref_ok g h1) (g.blkOk h3) (fun s H C cs fp => (g.blk h3 s H C cs fp).tg h4) (fun s H C cs fp => ?_) (fun s H C cs fp => (ih b (by omega)).x (g.blk h3 s H C cs fp) h6) (folded_of h2)
          · rw [own_map] at key
            exact key
          · exact if_ok (g.blk h3 s H C cs fp) (ih u (by omega)) h5
        · cases hk
      | lc vs tg s u b =>
        simp only [Cd.lc.sizeOf_spec] at hsz
        unfold ckX at hk
        split at hk
        · rename_i x tgE it ifs scope q
          simp only [Bool.and_eq_true] at hk
          obtain ⟨⟨⟨⟨⟨h1, h2⟩, h3⟩, h4⟩, h5⟩, h6⟩ := hk
          unfold rnX
          have key := px_lc (X := X) (W := W) (cl := cl) (pos := q) (ifs := ifs) (ft := rnB t P ev u) (te := rnX t P ev b) (t := tg) (src := rnI t P ev s) g.calm g.nd ((ih s (by omega)).i g h1) (g.blkOk h3) (fun s H C cs fp => (g.blk h3 s H C cs fp).tg h4) (fun s H C cs fp => ?_) (fun s H C cs fp => (ih b (by omega)).x (g.blk h3 s H C cs fp) h6) (folded_of h2)
          · rw [own_map] at key
            exact key
          · exact if_ok (g.blk h3 s H C cs fp) (ih u (by omega)) h5
        · cases hk
      | lc2 vs vs1 tg tg1 s s1 b =>
        simp only [Cd.lc2.sizeOf_spec] at hsz
        unfold ckX at hk
        split at hk
        · rename_i x tgE it tgE1 it1 scope q
          simp only [Bool.and_eq_true] at hk
          obtain ⟨⟨⟨⟨⟨⟨⟨⟨h1, h2⟩, h3⟩, h4⟩, h5⟩, h6⟩, h7⟩, h8⟩, h9⟩ := hk
          unfold rnX
          have key := px_lc2 (X := X) (W := W) (cl := cl) (pos := q) (te := rnX t P ev b) (t := tg) (t1 := tg1) (vs1 := vs1) (src := rnI t P ev s) (src1 := rnI t P ev s1) g.calm g.nd ((ih s (by omega)).i g h1) (g.blkOk h4) (fun i hi => by
            rw [own_map]
            have := List.all_eq_true.mp h5 i hi
            simpa using this) (fun s H C cs fp => (g.blk h4 s H C cs fp).tg h6) (fun s H C cs fp => (ih s1 (by omega)).i (P := P) (g.blk h4 s H C cs fp) h7) (fun s H C cs fp => (g.blk h4 s H C cs fp).tg h8) (fun s H C cs fp => (ih b (by omega)).x (g.blk h4 s H C cs fp) h9) (folded_of h2) (fun env => folded_of h3)
          rw [own_map] at key
          exact key
        · cases hk
      | dc vs tg s u kk b =>
        simp only [Cd.dc.sizeOf_spec] at hsz
        unfold ckX at hk
        split at hk
        · rename_i y x tgE it ifs scope q
          simp only [Bool.and_eq_true] at hk
          obtain ⟨⟨⟨⟨⟨⟨h1, h2⟩, h3⟩, h4⟩, h5⟩, h6⟩, h7⟩ := hk
          unfold rnX
          have key := px_dc (X := X) (W := W) (cl := cl) (pos := q) (ifs := ifs) (ft := rnB t P ev u) (tk := rnX t P ev kk) (te := rnX t P ev b) (t := tg) (src := rnI t P ev s) g.calm g.nd ((ih s (by omega)).i g h1) (g.blkOk h3) (fun s H C cs fp => (g.blk h3 s H C cs fp).tg h4) (fun s H C cs fp => ?_) (fun s H C cs fp => (ih kk (by omega)).x (g.blk h3 s H C cs fp) h6) (fun s H C cs fp => (ih b (by omega)).x (g.blk h3 s H C cs fp) h7) (folded_of h2)
          · rw [own_map] at key
            exact key
          · exact if_ok (g.blk h3 s H C cs fp) (ih u (by omega)) h5
        · cases hk
      | _ =>
        unfold ckX at hk
        cases hk
    -- tests
    · cases a with
      | cmp op a b =>
        simp only [Cd.cmp.sizeOf_spec] at hsz
        unfold ckB at hk
        split at hk
        · simp only [Bool.and_eq_true, Bool.not_eq_true'] at hk
          obtain ⟨⟨⟨h1, h2⟩, h3⟩, h4⟩ := hk
          have h1 := of_decide_eq_true h1
          subst h1
          have r1 := (ih a (by omega)).r (P := P) g h3
          have r2 := (ih b (by omega)).r (P := P) g h4
          unfold rnB
          exact ⟨pb_cmp g.units h2 r1 r2, pt_cmp' g.units h2 r1 r2⟩
        · cases hk
      | chain op op' a b d =>
        simp only [Cd.chain.sizeOf_spec] at hsz
        unfold ckB at hk
        split at hk
        · simp only [Bool.and_eq_true, Bool.not_eq_true'] at hk
          obtain ⟨⟨⟨⟨⟨h1, h2⟩, h3⟩, h4⟩, h5⟩, h6⟩ := hk
          have h1 := of_decide_eq_true h1
          have h2 := of_decide_eq_true h2
          subst h1 h2
          have r1 := (ih a (by omega)).r (P := P) g h4
          have r2 := (ih b (by omega)).r (P := P) g h5
          have r3 := (ih d (by omega)).r (P := P) g h6
          unfold rnB
          exact ⟨pb_chain g.units h3 r1 r2 r3, pt_chain' g.units h3 r1 r2 r3⟩
        · cases hk
      | no a =>
        simp only [Cd.no.sizeOf_spec] at hsz
        unfold ckB at hk
        split at hk
        · obtain ⟨r1, r2⟩ := (ih a (by omega)).b (P := P) g hk
          unfold rnB
          exact ⟨pb_not r1, pt_not' r2⟩
        · cases hk
      | all l =>
        simp only [Cd.all.sizeOf_spec] at hsz
        unfold ckB at hk
        split at hk
        · simp only [Bool.and_eq_true, Bool.not_eq_true'] at hk
          obtain ⟨r1, r2⟩ := and_ok g (P := P) (mem (by omega)) (fun z => by rw [z] at hk; cases hk.1) hk.2
          unfold rnB
          exact ⟨r1, r2.pt⟩
        · cases hk
      | one l =>
        simp only [Cd.one.sizeOf_spec] at hsz
        unfold ckB at hk
        split at hk
        · simp only [Bool.and_eq_true, Bool.not_eq_true'] at hk
          obtain ⟨r1, r2⟩ := or_ok g (P := P) (mem (by omega)) (fun z => by rw [z] at hk; cases hk.1) hk.2
          unfold rnB
          exact ⟨r1, r2.pt⟩
        · cases hk
      | asB a =>
        simp only [Cd.asB.sizeOf_spec] at hsz
        unfold ckB at hk
        simp only [Bool.and_eq_true] at hk
        have r1 := pb_of ((ih a (by omega)).x (P := P) g hk.2)
        unfold rnB
        exact ⟨r1, pt_of r1 (plain_is hk.1)⟩
      | _ =>
        unfold ckB at hk
        cases hk
    -- what is walked
    · cases a with
      | any a =>
        simp only [Cd.any.sizeOf_spec] at hsz
        unfold ckI at hk
        unfold rnI
        exact src_any ((ih a (by omega)).x g hk)
      | enum a =>
        simp only [Cd.enum.sizeOf_spec] at hsz
        unfold ckI at hk
        split at hk
        · simp only [Bool.and_eq_true] at hk
          obtain ⟨⟨⟨⟨h1, h2⟩, h3⟩, h4⟩, h5⟩ := hk
          have h1 := eq_of_beq h1
          subst h1
          unfold rnI
          exact src_enum (g.glo h2) (g.fx.nob _ (contains_of h3)) (star_of h4) ((ih a (by omega)).x g h5)
        · cases hk
      | zip2 a b =>
        simp only [Cd.zip2.sizeOf_spec] at hsz
        unfold ckI at hk
        split at hk
        · simp only [Bool.and_eq_true] at hk
          obtain ⟨⟨⟨⟨⟨⟨h1, h2⟩, h3⟩, h4⟩, h5⟩, h6⟩, h7⟩ := hk
          have h1 := eq_of_beq h1
          subst h1
          unfold rnI
          refine src_zip2 (g.glo h2) (g.fx.nob _ (contains_of h3)) (fun x hx => ?_) ((ih a (by omega)).x g h6) ((ih b (by omega)).x g h7)
          simp only [List.mem_cons, List.not_mem_nil, or_false] at hx
          rcases hx with z | z
          · rw [z]; exact star_of h4
          · rw [z]; exact star_of h5
        · cases hk
      | zip3 a b d =>
        simp only [Cd.zip3.sizeOf_spec] at hsz
        unfold ckI at hk
        split at hk
        · simp only [Bool.and_eq_true] at hk
          obtain ⟨⟨⟨⟨⟨⟨⟨⟨h1, h2⟩, h3⟩, h4⟩, h5⟩, h6⟩, h7⟩, h8⟩, h9⟩ := hk
          have h1 := eq_of_beq h1
          subst h1
          unfold rnI
          refine src_zip3 (g.glo h2) (g.fx.nob _ (contains_of h3)) (fun x hx => ?_) ((ih a (by omega)).x g h7) ((ih b (by omega)).x g h8) ((ih d (by omega)).x g h9)
          simp only [List.mem_cons, List.not_mem_nil, or_false] at hx
          rcases hx with z | z | z
          · rw [z]; exact star_of h4
          · rw [z]; exact star_of h5
          · rw [z]; exact star_of h6
        · cases hk
      | rng a =>
        simp only [Cd.rng.sizeOf_spec] at hsz
        unfold ckI at hk
        split at hk
        · simp only [Bool.and_eq_true] at hk
          obtain ⟨⟨⟨⟨h1, h2⟩, h3⟩, h4⟩, h5⟩ := hk
          have h1 := eq_of_beq h1
          subst h1
          unfold rnI
          exact src_rng1 (g.glo h2) (g.fx.nob _ (contains_of h3)) (star_of h4) ((ih a (by omega)).x g h5)
        · cases hk
      | rng2 a b =>
        simp only [Cd.rng2.sizeOf_spec] at hsz
        unfold ckI at hk
        split at hk
        · simp only [Bool.and_eq_true] at hk
          obtain ⟨⟨⟨⟨⟨⟨h1, h2⟩, h3⟩, h4⟩, h5⟩, h6⟩, h7⟩ := hk
          have h1 := eq_of_beq h1
          subst h1
          unfold rnI
          refine src_rng2 (g.glo h2) (g.fx.nob _ (contains_of h3)) (fun x hx => ?_) ((ih a (by omega)).x g h6) ((ih b (by omega)).x g h7)
          simp only [List.mem_cons, List.not_mem_nil, or_false] at hx
          rcases hx with z | z
          · rw [z]; exact star_of h4
          · rw [z]; exact star_of h5
        · cases hk
      | _ =>
        unfold ckI at hk
        cases hk
    -- statements
    · have g0 : Good t ev cl k c X W := g.toGood
      cases a with
      | pass =>
        unfold ckS at hk
        unfold rnS
        split at hk
        · exact ps_p
        · exact ps_d
        · cases hk
      | expr a =>
        simp only [Cd.expr.sizeOf_spec] at hsz
        unfold ckS at hk
        split at hk
        · simp only [Bool.and_eq_true] at hk
          unfold rnS
          exact ps_e ((ih a (by omega)).x g0 hk.2) (swaps1_of hk.1)
        · cases hk
      | ret a =>
        simp only [Cd.ret.sizeOf_spec] at hsz
        unfold ckS at hk
        split at hk
        · unfold rnS
          exact ps_r ((ih a (by omega)).x g0 hk)
        · cases hk
      | retN =>
        unfold ckS at hk
        split at hk
        · unfold rnS
          exact ps_rN
        · cases hk
      | brk =>
        unfold ckS at hk
        split at hk
        · unfold rnS
          exact ps_b
        · cases hk
      | cont =>
        unfold ckS at hk
        split at hk
        · unfold rnS
          exact ps_c
        · cases hk
      | raise x =>
        unfold ckS at hk
        split at hk
        · simp only [Bool.and_eq_true] at hk
          obtain ⟨⟨⟨h1, h2⟩, h3⟩, h4⟩ := hk
          have h1 := eq_of_beq h1
          subst h1
          unfold rnS
          exact ps_x g0.calm g0.tk (g0.fx.exs x (contains_of h2) X rfl rfl _ _ _ _ _ (g0.glo h3) (dbg_of h4))
        · cases hk
      | sif u a b =>
        simp only [Cd.sif.sizeOf_spec] at hsz
        unfold ckS at hk
        split at hk
        · simp only [Bool.and_eq_true] at hk
          obtain ⟨⟨h1, h2⟩, h3⟩ := hk
          unfold rnS
          exact ps_i ((ih u (by omega)).b g0 h1).2 (ss_ok g (mem (by omega)) h2) (ss_ok g (mem (by omega)) h3)
        · cases hk
      | set i a =>
        simp only [Cd.set.sizeOf_spec] at hsz
        have ha := ih a (by omega)
        unfold ckS at hk
        split at hk
        · rename_i y py e0 q
          simp only [Bool.and_eq_true] at hk
          obtain ⟨⟨⟨h1, h2⟩, h3⟩, h4⟩ := hk
          have hN : X.N[i]? = some y := by
            rw [g0.N]
            exact eq_of_beq h1
          obtain ⟨l1, l2⟩ := g0.loc h2
          unfold rnS
          split at h4
          · rename_i x gs scope p
            by_cases hw : swB y py scope p c.sc = true
            · have hsw := sw_is g0 (x := x) (gs := gs) (scope := scope) (p := p) (py := py) (y := y) (n := q.line)
              rw [hw] at hsw
              have hyl : X.env.scope.names.lookup y = some .local := by
                unfold swB at hw
                simp only [Bool.and_eq_true] at hw
                rw [g0.sc]
                exact eq_of_beq hw.1.1
              have h4o := h4
              clear h4
              rw [if_pos hw] at h4o
              cases a with
              | lc vs tg s u b =>
                simp only [Cd.lc.sizeOf_spec] at hsz
                unfold ckX at h3
                split at h3
                · rename_i x tgE it ifs scope q heq
                  cases heq
                  simp only [Bool.and_eq_true] at h3
                  obtain ⟨⟨⟨⟨⟨h1, h2⟩, h3⟩, h4⟩, h5⟩, h6⟩ := h3
                  unfold rnX
                  have key := ps_lc (X := X) (W := W) (cl := cl) (P := P) (ft := rnB t P ev u) (te := rnX t P ev b) (t := tg) (src := rnI t P ev s) g0.calm g0.nd hN hyl hsw ((ih s (by omega)).i g0 h1) (g0.blkOk h3) (fun s H C cs fp => (g0.blk h3 s H C cs fp).tg h4) (fun s H C cs fp => ?_) (fun s H C cs fp => (ih b (by omega)).x (g0.blk h3 s H C cs fp) h6) (folded_of h2)
                  · rw [own_map] at key
                    exact key
                  · exact if_ok (g0.blk h3 s H C cs fp) (ih u (by omega)) h5
                · cases h3
              | lcO vs tg j u b =>
                exfalso
                unfold notO at h4o
                cases h4o
              | lc2 vs vs1 tg tg1 s s1 b =>
                simp only [Cd.lc2.sizeOf_spec] at hsz
                unfold ckX at h3
                split at h3
                · rename_i x tgE it tgE1 it1 scope q heq
                  cases heq
                  simp only [Bool.and_eq_true] at h3
                  obtain ⟨⟨⟨⟨⟨⟨⟨⟨h1, h2⟩, h3⟩, h4⟩, h5⟩, h6⟩, h7⟩, h8⟩, h9⟩ := h3
                  unfold rnX
                  have key := ps_lc2 (X := X) (W := W) (cl := cl) (P := P) (te := rnX t P ev b) (t := tg) (t1 := tg1) (vs1 := vs1) (src := rnI t P ev s) (src1 := rnI t P ev s1) g0.calm g0.nd hN hyl hsw ((ih s (by omega)).i g0 h1) (g0.blkOk h4) (fun i hi => by
                    rw [own_map]
                    have := List.all_eq_true.mp h5 i hi
                    simpa using this) (fun s H C cs fp => (g0.blk h4 s H C cs fp).tg h6) (fun s H C cs fp => (ih s1 (by omega)).i (P := P) (g0.blk h4 s H C cs fp) h7) (fun s H C cs fp => (g0.blk h4 s H C cs fp).tg h8) (fun s H C cs fp => (ih b (by omega)).x (g0.blk h4 s H C cs fp) h9) (folded_of h2) (fun env => folded_of h3)
                  rw [own_map] at key
                  exact key
                · cases h3
              | ofT a =>
                exfalso
                unfold ckX at h3
                cases a <;> simp [ckB, plainT] at h3
              | lit d =>
                exfalso
                unfold ckX litB at h3
                cases h3
              | _ =>
                exfalso
                unfold ckX at h3
                cases h3
            · have hsw := sw_is g0 (x := x) (gs := gs) (scope := scope) (p := p) (py := py) (y := y) (n := q.line)
              rw [Bool.not_eq_true] at hw
              rw [hw] at hsw
              exact ps_s g0.nd hN l1 (ha.x g0 h3) hsw l2
          · rename_i x z gs scope p
            have hsw := sw_isD g0 (x := x) (z := z) (gs := gs) (scope := scope) (p := p) (py := py) (y := y) (n := q.line)
            rw [Bool.not_eq_true'] at h4
            rw [h4] at hsw
            exact ps_s g0.nd hN l1 (ha.x g0 h3) hsw l2
          · exact ps_s g0.nd hN l1 (ha.x g0 h3) (swaps1_of h4) l2
        · cases hk
      | asg tg a =>
        simp only [Cd.asg.sizeOf_spec] at hsz
        unfold ckS at hk
        split at hk
        · simp only [Bool.and_eq_true] at hk
          obtain ⟨⟨⟨h1, h2⟩, h3⟩, h4⟩ := hk
          unfold rnS
          refine ps_a ((ih a (by omega)).x g0 h4) (g0.tg h1) (swaps_of h2) (swPlain_ok g0 h3) ?_
          rename_i e0 x0 q0
          cases tg with
          | name i =>
            unfold tgB at h1
            cases e0 <;> simp at h1
            rfl
          | tup is =>
            unfold tgB at h1
            cases e0 <;> simp at h1
            rfl
        · cases hk
      | par is l =>
        simp only [Cd.par.sizeOf_spec] at hsz
        unfold ckS at hk
        split at hk
        · rename_i ts k1 p1 vs k2 p2 q
          simp only [Bool.and_eq_true] at hk
          obtain ⟨⟨⟨⟨⟨h1, h2⟩, h3⟩, h4⟩, h5⟩, h6⟩ := hk
          have hsw := g0.swap (k1 := k1) (k2 := k2) (p1 := p1) (p2 := p2) (eq_of_beq h2)
          have hlen : ts.length = is.length := of_decide_eq_true h3
          have h4 := of_decide_eq_true h4
          have h5 := of_decide_eq_true h5
          have hpa := os_ok g0 (P := P) (mem (by omega)) h6
          have hnm := par_names h1
          have hix := par_ok g0 h1
          have hvl : vs.length = ts.length := by
            have h2 := eq_of_beq h2
            unfold swK at h2
            by_cases hc : (!(ts.length == 2 || ts.length == 3) || vs.length != ts.length) = true
            · rw [if_pos hc] at h2
              cases h2
            · rw [Bool.not_eq_true, Bool.or_eq_false_iff] at hc
              have := hc.2
              simpa using this
          have hll : l.length = vs.length := xs_len h6
          unfold rnS
          rcases h4 with h4 | h4
          · match is, ts, vs, l, h4, hlen, hvl, hll with
            | [i, j], [a1, a2], [v1, v2], [c1, c2], _, _, _, _ =>
              obtain ⟨x1, q1, rfl⟩ := hnm a1 (by simp)
              obtain ⟨x2, q2, rfl⟩ := hnm a2 (by simp)
              obtain ⟨i1, e1, n1, m1⟩ := hix 0 x1 q1 rfl
              obtain ⟨i2, e2, n2, m2⟩ := hix 1 x2 q2 rfl
              cases e1
              cases e2
              have hne : i ≠ j := by
                intro z
                rw [z] at h5
                simp at h5
              exact ps_2 g0.calm g0.nd n1 n2 hne m1 m2 hpa hsw
          · match is, ts, vs, l, h4, hlen, hvl, hll with
            | [i, j, o], [a1, a2, a3], [v1, v2, v3], [c1, c2, c3], _, _, _, _ =>
              obtain ⟨x1, q1, rfl⟩ := hnm a1 (by simp)
              obtain ⟨x2, q2, rfl⟩ := hnm a2 (by simp)
              obtain ⟨x3, q3, rfl⟩ := hnm a3 (by simp)
              obtain ⟨i1, e1, n1, m1⟩ := hix 0 x1 q1 rfl
              obtain ⟨i2, e2, n2, m2⟩ := hix 1 x2 q2 rfl
              obtain ⟨i3, e3, n3, m3⟩ := hix 2 x3 q3 rfl
              cases e1
              cases e2
              cases e3
              have hne : i ≠ j ∧ i ≠ o ∧ j ≠ o := by
                simp at h5
                exact ⟨h5.1.1, h5.1.2, h5.2⟩
              exact ps_3 g0.calm g0.nd n1 n2 n3 hne.1 hne.2.1 hne.2.2 m1 m2 m3 hpa hsw
        · cases hk
      | sub j kk a =>
        simp only [Cd.sub.sizeOf_spec] at hsz
        unfold ckS at hk
        split at hk
        · simp only [Bool.and_eq_true] at hk
          obtain ⟨⟨⟨h1, h2⟩, h3⟩, h4⟩ := hk
          obtain ⟨n1, n2, n3, n4⟩ := g0.nm h1
          unfold rnS
          exact ps_sub (by have := g0.units; omega) n1 n2 n3 n4 ((ih kk (by omega)).x g0 h3) ((ih a (by omega)).x g0 h4) (swaps_of (by simp [notName])) (slice_of h2)
        · cases hk
      | ssl j lo hi a =>
        simp only [Cd.ssl.sizeOf_spec] at hsz
        unfold ckS at hk
        split at hk
        · simp only [Bool.and_eq_true] at hk
          obtain ⟨⟨⟨h1, h2⟩, h3⟩, h4⟩ := hk
          obtain ⟨n1, n2, n3, n4⟩ := g0.nm h1
          unfold rnS
          exact ps_ssl n1 n2 n3 n4 ((ih lo (by omega)).x g0 h2) ((ih hi (by omega)).x g0 h3) ((ih a (by omega)).x g0 h4) (swaps_of (by simp [notName]))
        · cases hk
      | sfor tg u b =>
        simp only [Cd.sfor.sizeOf_spec] at hsz
        unfold ckS at hk
        split at hk
        · simp only [Bool.and_eq_true] at hk
          obtain ⟨⟨⟨h1, h2⟩, h3⟩, h4⟩ := hk
          unfold rnS
          exact ps_f g.pass g0.calm ((ih u (by omega)).i g0 h3) (g0.tg h1) (ss_ok g (mem (by omega)) h4) (folded_of h2)
        · cases hk
      | swhile u b =>
        simp only [Cd.swhile.sizeOf_spec] at hsz
        unfold ckS at hk
        split at hk
        · simp only [Bool.and_eq_true] at hk
          unfold rnS
          exact ps_w g.pass ((ih u (by omega)).b g0 hk.1).2 (ss_ok g (mem (by omega)) hk.2)
        · cases hk
      | _ =>
        unfold ckS at hk
        cases hk
theorem st (a : Cd) : St a := st_all _ a (Nat.lt_succ_self _)
end
end LR

set_option Elab.async false
set_option linter.all false
set_option maxRecDepth 100000
set_option maxHeartbeats 4000000
/-! A def by its checked code; a module of such defs. -/
namespace LR
open PySem PySem.Spec PyProof.Rows L2

theorem pinOf_has : ∀ {fl : List Bool} {n i : Nat}, fl[i]? = some true → (pinOf n fl).contains (n + i) = true
  | [], _, _, h => by simp at h
  | true :: fl, n, 0, _ => by simp [pinOf]
  | false :: fl, n, 0, h => by simp at h
  | true :: fl, n, i + 1, h => by
    have := pinOf_has (fl := fl) (n := n + 1) (i := i) (by simpa using h)
    have e : n + 1 + i = n + (i + 1) := by omega
    rw [e] at this
    simp only [pinOf, List.contains_cons, this, Bool.or_true]
  | false :: fl, n, i + 1, h => by
    have := pinOf_has (fl := fl) (n := n + 1) (i := i) (by simpa using h)
    have e : n + 1 + i = n + (i + 1) := by omega
    rw [e] at this
    simp only [pinOf, this]
theorem outs_ok : ∀ {fl : List Bool} {vs : List V} {e : Env} {σ : L2.St}, fl.length = vs.length → Cov e σ → (∀ (i : Nat) (v : V), fl[i]? = some true → vs[i]? = some v → σ[i]? = some (some v)) → ∃ m, (pairs e σ).Perm (m ++ pairs (outsOf fl e) (vs.map some))
  | [], [], e, σ, _, _, _ => ⟨pairs e σ, by
      have : pairs (outsOf [] e) (([] : List V).map some) = [] := by cases e <;> rfl
      rw [this, List.append_nil]⟩
  | b :: fl, v :: vs, [], [], _, _, _ => ⟨[], by
      have : outsOf (b :: fl) [] = [] := by cases b <;> rfl
      rw [this]
      exact .refl _⟩
  | true :: fl, v :: vs, none :: e, y :: σ, h, c, p => by
    obtain ⟨m, pm⟩ := outs_ok (fl := fl) (vs := vs) (e := e) (σ := σ) (by simpa using h) c fun i w h1 h2 => by
      have := p (i + 1) w (by simpa using h1) (by simpa using h2)
      simpa using this
    exact ⟨m, pm⟩
  | true :: fl, v :: vs, some o :: e, some y :: σ, h, c, p => by
    obtain ⟨m, pm⟩ := outs_ok (fl := fl) (vs := vs) (e := e) (σ := σ) (by simpa using h) c fun i w h1 h2 => by
      have := p (i + 1) w (by simpa using h1) (by simpa using h2)
      simpa using this
    have e1 := p 0 v rfl rfl
    cases (Option.some.inj (Option.some.inj e1))
    exact ⟨m, (pm.cons _).trans List.perm_middle.symm⟩
  | false :: fl, v :: vs, none :: e, y :: σ, h, c, p => by
    obtain ⟨m, pm⟩ := outs_ok (fl := fl) (vs := vs) (e := e) (σ := σ) (by simpa using h) c fun i w h1 h2 => by
      have := p (i + 1) w (by simpa using h1) (by simpa using h2)
      simpa using this
    exact ⟨m, pm⟩
  | false :: fl, v :: vs, some o :: e, some y :: σ, h, c, p => by
    obtain ⟨m, pm⟩ := outs_ok (fl := fl) (vs := vs) (e := e) (σ := σ) (by simpa using h) c fun i w h1 h2 => by
      have := p (i + 1) w (by simpa using h1) (by simpa using h2)
      simpa using this
    exact ⟨(y, o) :: m, pm.cons _⟩
  | [], _ :: _, _, _, h, _, _ => by simp at h
  | _ :: _, [], _, _, h, _, _ => by simp at h
  | _ :: _, _ :: _, [], _ :: _, _, c, _ => c.elim
  | _ :: _, _ :: _, none :: _, [], _, c, _ => c.elim
  | _ :: _, _ :: _, some _ :: _, [], _, c, _ => c.elim
  | _ :: _, _ :: _, some _ :: _, none :: _, _, c, _ => c.elim
theorem cov_none : ∀ {n m : Nat}, n = m → Cov (List.replicate n none) (List.replicate m none) ∧ pairs (List.replicate n none) (List.replicate m none) = []
  | 0, 0, _ => ⟨trivial, rfl⟩
  | n + 1, m + 1, h => cov_none (n := n) (m := m) (by omega)
  | 0, _ + 1, h => by omega
  | _ + 1, 0, h => by omega
theorem start_ok : ∀ {os : List O} {vs : List V} {n m : Nat}, os.length = vs.length → n = m → Cov (os.map some ++ List.replicate n none) (vs.map some ++ List.replicate m none) ∧ pairs (os.map some ++ List.replicate n none) (vs.map some ++ List.replicate m none) = vs.zip os
  | [], [], n, m, _, h => cov_none h
  | o :: os, v :: vs, n, m, h, h2 => by
    obtain ⟨c, p⟩ := start_ok (os := os) (vs := vs) (n := n) (m := m) (by simpa using h) h2
    exact ⟨c, by
      exact congrArg ((v, o) :: ·) p⟩
  | [], _ :: _, _, _, h, _ => by simp at h
  | _ :: _, [], _, _, h, _ => by simp at h

section
variable {P : Program} {w : World} {K : PySem.W.Frag} {mg : Str → Option Value} {base : Heap} {cl : Str → Value}
/-- a body that is right in its context makes the def keep its promise -/
theorem body_ok {X : Cx} {fl : List Bool} {N : List Str} {body : SM} {ss : List Stmt} {vs : List V} {H : Hp} {Q : VK} {E : XK} (hfl : fl.length ≤ N.length)
    (h : spD X.K cl fl.length (runDef N.length fl body) vs H Q E) : rS X.K (fun cls d _ H => E cls d H) cl (pinOf 0 fl) body { nx := fun _ H' => Q .non H', rt := Q } (L2.start N vs) H := by
  obtain ⟨os, rest, hv, ho, r, hm⟩ := h
  have hl : os.length = vs.length := by rw [hv, ho]
  have cond : os.length = fl.length ∧ os.length ≤ N.length := ⟨ho, by omega⟩
  unfold runDef at hm
  rw [if_pos cond] at hm
  obtain ⟨cv, pr⟩ := start_ok (os := os) (vs := vs) (n := N.length - os.length) (m := N.length - vs.length) hl (by rw [hl])
  refine ⟨fun i => if fl[i]? = some true then vs[i]? else none, startE N.length os, rest, ⟨cv, fun i v hi => ?_, ?_⟩, fun i v hi => ?_, ?_⟩
  · split at hi
    · unfold L2.start
      have hlt : i < vs.length := (List.getElem?_eq_some_iff.mp hi).1
      rw [List.getElem?_append_left (by rw [List.length_map]; exact hlt), List.getElem?_map, hi]
      rfl
    · cases hi
  · show R X.K H (pairs (startE N.length os) (L2.start N vs) ++ rest)
    unfold startE L2.start
    rw [pr]
    exact r
  · have hi : (if fl[i]? = some true then vs[i]? else none) = some v := hi
    split at hi
    · rename_i hf
      have := pinOf_has (n := 0) hf
      rw [Nat.zero_add] at this
      exact this
    · cases hi
  · have fin : ∀ {e : Env} {σ : L2.St} {m : List (V × O)} {H' : Hp}, S X.K (fun i => if fl[i]? = some true then vs[i]? else none) e σ (m ++ rest) H' → R X.K H' (m ++ (pairs (outsOf fl e) (vs.map some) ++ rest)) := fun {e σ m H'} s => by
      obtain ⟨m2, pm⟩ := outs_ok (fl := fl) (vs := vs) (e := e) (σ := σ) hv.symm s.cov fun i v h1 h2 => s.pin i v (by rw [if_pos h1]; exact h2)
      have r1 := s.res.perm (pm.append_right (m ++ rest))
      rw [List.append_assoc] at r1
      refine r1.drop.perm ?_
      rw [← List.append_assoc, ← List.append_assoc]
      exact List.Perm.append_right _ List.perm_append_comm
    unfold aft
    cases hb : body (startE N.length os) with
    | fail =>
      rw [hb] at hm
      exact hm
    | next e =>
      rw [hb] at hm
      intro σ H' s
      exact hm .non H' ((fin (m := []) s).lit fun F => by unfold RD; rfl)
    | ret o e =>
      rw [hb] at hm
      intro v σ H' s
      exact hm v H' (fin (m := [(v, o)]) s)
    | brk e =>
      rw [hb] at hm
      exact hm.elim
    | cont e =>
      rw [hb] at hm
      exact hm.elim
    | exc c e =>
      rw [hb] at hm
      intro σ H' s
      exact hm H' (fin (m := []) s)

/-- a def of the text, and its code -/
structure DefC where
  name : Str
  qual : Str
  N : List Str
  fl : List Bool
  code : List Cd
noncomputable def DefC.run (t : Tb) (ev : Nat → List O → CRes) (d : DefC) : List O → CRes := runDef d.N.length d.fl (sSeq (rnSs t (pinOf 0 d.fl) ev d.code))
theorem runDef_len {n : Nat} {fl : List Bool} {body : SM} {os : List O} (h : os.length ≠ fl.length) : runDef n fl body os = .fail := by
  unfold runDef
  rw [if_neg fun z => h z.1]
/-- the context of a def's body -/
theorem good_cx {t : Tb} {ev : Nat → List O → CRes} {k : Nat} {N ps : List Str} {qual : Str} {sc : Scope} {f : Addr} {cdv : Value} {A : Around} {outer : List PySem.Env} {s : Shared} {H : Hp} {E : XK} (S : FnScope N ps sc) (hr : Room k (A.deeper (envOfC qual sc s.heap.objs.size f cdv))) (fx : Fx t ev cl k P w K mg base) :
    GoodS t ev cl k ⟨N, sc, sc⟩ (cxOf (L2.CX P w) P w K mg base N qual sc f cdv A outer s H E) (fun cls d _ H => E cls d H) :=
  ⟨⟨rfl, S.nd, rfl, rfl, fun _ _ => rfl, hr, takes_of rfl rfl rfl rfl, fx, S.kind⟩, passes_of rfl⟩
theorem def_ok {t : Tb} {ev : Nat → List O → CRes} {k : Nat} {x qual : Str} {st : Stmt} {f : Addr} {fd : FuncData} {N ps : List Str} {fl : List Bool} {code : List Cd} (F : Fun K x qual st f fd) (S : FnScope N ps (defScope st)) (fx : Fx t ev cl k P w K mg base)
    (hfl : fl.length = ps.length) (hck : ckSs t ⟨N, defScope st, defScope st⟩ code (defBody st) = true) : FnOk P w K mg base (L2.CX P w) (k + 1) f fd ps (spD K cl ps.length (runDef N.length fl (sSeq (rnSs t (pinOf 0 fl) ev code)))) := by
  have hN : ps.length ≤ N.length := by
    have h := congrArg List.length S.pre
    rw [List.length_take] at h
    omega
  refine F.okX S (fun vs H Q E ⟨os, rest, hv, _⟩ => hv) fun cdv A outer s H vs Q E hr h => ?_
  have g := good_cx (E := E) (outer := outer) (H := H) S hr fx
  refine ⟨_, ss_ok g (P := pinOf 0 fl) (fun a _ => LR.st a) hck, ?_⟩
  rw [← hfl] at h
  exact body_ok (X := cxOf (L2.CX P w) P w K mg base N qual (defScope st) f cdv A outer s H E) (ss := defBody st) (by rw [hfl]; exact hN) h
/-- nothing is promised at no depth -/
theorem none_ok {f : Addr} {fd : FuncData} {ps : List Str} {n k : Nat} {g : List O → CRes} (hn : n = ps.length) (h : ∀ os, g os = .fail) : FnOk P w K mg base (L2.CX P w) k f fd ps (spD K cl n g) := by
  refine ⟨fun vs H Q E ⟨os, rest, hv, _⟩ => hv.trans hn, fun A outer s H args us vs Q E _ _ _ _ ⟨os, rest, _, _, _, hm⟩ => ?_⟩
  rw [h os] at hm
  exact hm.elim
end

/-! ### a module -/
noncomputable def calls (t : Tb) (ds : List DefC) : Nat → Nat → List O → CRes
  | 0, _, _ => .fail
  | k + 1, i, os => match ds[i]? with
    | some d => d.run t (calls t ds k) os
    | none => .fail
/-- what the heap holds of a def -/
structure DefH (t : Tb) (K : PySem.W.Frag) (mg : Str → Option Value) (e : DefE) (d : DefC) : Prop where
  ex : ∃ (st : Stmt) (f : Addr) (fd : FuncData) (ps : List Str), Fun K d.name d.qual st f fd ∧ FnScope d.N ps (defScope st) ∧ d.fl.length = ps.length ∧ e.np = ps.length ∧ ckSs t ⟨d.N, defScope st, defScope st⟩ d.code (defBody st) = true ∧ mg e.name = some (.ref f) ∧
    (e.kw = false → Binds K fd ps []) ∧
    (e.kw = true → (∃ v u, Binds K fd ps [u] ∧ RelV v u ∧ ∀ F, RD K F (.tup []) v) ∧
      ∀ (s : Shared) (us ws : List Value), K.In s.heap → (us ++ ws).length = ps.length → ws.length = 1 → BindsTo s fd ⟨us, [("clamps" : Str)].zip ws⟩ (ps.zip (us ++ ws)))
structure ModH (t : Tb) (ds : List DefC) (cl : Str → Value) (K : PySem.W.Frag) (mg : Str → Option Value) : Prop where
  len : t.fns.length = ds.length
  defs : ∀ (i : Nat) (e : DefE) (d : DefC), t.fns[i]? = some e → ds[i]? = some d → DefH t K mg e d
  gl : ∀ p ∈ t.gl, ∃ v u, mg p.1 = some u ∧ RelV v u ∧ ∀ F, RD K F p.2 v
  nob : ∀ x ∈ t.nob, mg x = none
  exs : ∀ x ∈ t.exs, ∀ (X : Cx), X.K = K → X.mg = mg → ∀ (m : Str) (j : Nat) (p p2 pos : Pos), Gl X x → (x == ("__debug__" : Str)) = false → PMk X (.Call (.Name x p) [.Constant (.str m) j p2] [] pos) fun _ H Q => Q (cl x) none H
section
variable {t : Tb} {ds : List DefC} {cl : Str → Value} {P : Program} {w : World} {K : PySem.W.Frag} {mg : Str → Option Value} {base : Heap}
/-- every def keeps its promise, at every depth -/
theorem mod_fx (M : ModH t ds cl K mg) : ∀ k, Fx t (calls t ds k) cl k P w K mg base
  | 0 => ⟨fun i e he => by
      have hd : ∃ d, ds[i]? = some d := by
        have := (List.getElem?_eq_some_iff.mp he).1
        rw [M.len] at this
        exact ⟨_, List.getElem?_eq_getElem this⟩
      obtain ⟨d, hd⟩ := hd
      obtain ⟨st, f, fd, ps, F, S, h1, h2, h3, h4, h5, h6⟩ := (M.defs i e d he hd).ex
      exact ⟨⟨f, fd, ps, none_ok h2 (fun os => rfl), h4, F.kp, h5, h6⟩, fun os _ => rfl⟩, M.gl, M.nob, M.exs⟩
  | k + 1 => ⟨fun i e he => by
      have hd : ∃ d, ds[i]? = some d := by
        have := (List.getElem?_eq_some_iff.mp he).1
        rw [M.len] at this
        exact ⟨_, List.getElem?_eq_getElem this⟩
      obtain ⟨d, hd⟩ := hd
      obtain ⟨st, f, fd, ps, F, S, h1, h2, h3, h4, h5, h6⟩ := (M.defs i e d he hd).ex
      have hc : calls t ds (k + 1) i = d.run t (calls t ds k) := by
        funext os
        show (match ds[i]? with | some d => d.run t (calls t ds k) os | none => .fail) = _
        rw [hd]
      refine ⟨⟨f, fd, ps, ?_, h4, F.kp, h5, h6⟩, fun os ho => ?_⟩
      · rw [hc, h2]
        exact def_ok F S (mod_fx M k) h1 h3
      · rw [hc]
        exact runDef_len (by rw [h1, ← h2]; exact ho), M.gl, M.nob, M.exs⟩
/-- the law's own promise -/
def spLaw (K : PySem.W.Frag) : Sp := fun vs H Q _ => ∃ (a : Addr) (ns : List Int), vs = [.ref a] ∧ SqL K H a (ns.map V.int) ∧ ns.length ≤ 63 ∧ (∀ z ∈ ns, Builtin.Int.intBits z ≤ 1048576) ∧ ∀ H', Q (.bl true) H'
theorem law_ok {i k : Nat} {e : DefE} {f : Addr} {fd : FuncData} (M : ModH t ds cl K mg) (he : t.fns[i]? = some e) (hk : e.kw = false) (hf : mg e.name = some (.ref f)) (hfd : ∀ d, ds[i]? = some d → ∀ (st : Stmt) (fd' : FuncData) (ps : List Str), Fun K d.name d.qual st f fd' → FnScope d.N ps (defScope st) → d.fl.length = ps.length → fd' = fd ∧ ps = ([("script" : Str)] : List Str))
    (hlaw : ∀ ns : List Int, ns.length ≤ 63 → (∀ z ∈ ns, Builtin.Int.intBits z ≤ 1048576) → ∃ outs, calls t ds k i [.frz (.scr ns)] = .ok (.frz (.bl true)) outs) : FnOk P w K mg base (L2.CX P w) k f fd [("script" : Str)] (spLaw K) := by
  have hd : ∃ d, ds[i]? = some d := by
    have := (List.getElem?_eq_some_iff.mp he).1
    rw [M.len] at this
    exact ⟨_, List.getElem?_eq_getElem this⟩
  obtain ⟨d, hd⟩ := hd
  obtain ⟨st, f', fd', ps', F, S, h1, h2, h3, h4, h5, h6⟩ := (M.defs i e d he hd).ex
  rw [hf] at h4
  cases h4
  obtain ⟨e1, e2⟩ := hfd d hd st fd' ps' F S h1
  subst e1 e2
  have hn : e.np = 1 := h2
  cases k with
  | zero =>
    refine ⟨fun vs H Q E ⟨a, ns, hv, _⟩ => by rw [hv]; rfl, fun A outer s H args us vs Q E _ _ _ _ ⟨a, ns, hv, hS, hl, hb, q⟩ => ?_⟩
    obtain ⟨outs, h⟩ := hlaw ns hl hb
    cases h
  | succ k =>
    have hc : calls t ds (k + 1) i = d.run t (calls t ds k) := by
      funext os
      show (match ds[i]? with | some d => d.run t (calls t ds k) os | none => .fail) = _
      rw [hd]
    have G := def_ok (P := P) (w := w) (base := base) F S (mod_fx M k) h1 h3
    refine G.imp fun vs H Q E ⟨a, ns, hv, hS, hl, hb, q⟩ => ?_
    obtain ⟨outs, h⟩ := hlaw ns hl hb
    rw [hc] at h
    have h : runDef d.N.length d.fl (sSeq (rnSs t (pinOf 0 d.fl) (calls t ds k) d.code)) [.frz (.scr ns)] = .ok (.frz (.bl true)) outs := h
    subst hv
    refine ⟨[.frz (.scr ns)], [], rfl, rfl, ?_, ?_⟩
    · rcases hS with hS | hS
      · obtain ⟨F, hF⟩ : ∃ F : Hp, R0 K F H [(.ref a, .frz (.scr ns))] := by
          refine ⟨fun b => if b = a then H a else none, [], fun b o hb => ?_, ⟨[], [], rfl, ⟨?_, rfl⟩, rfl⟩, List.nodup_nil, fun _ h => by cases h⟩
          · dsimp only at hb
            split at hb
            · rename_i z
              rw [z]
              exact hb
            · cases hb
          · show RD K _ (.scr ns) (.ref a)
            unfold RD
            refine ⟨a, rfl, .inl ?_⟩
            rcases hS with hS | ⟨o, hS⟩
            · exact .inl (by dsimp only; rw [if_pos rfl]; exact hS)
            · exact .inr ⟨o, by dsimp only; rw [if_pos rfl]; exact hS⟩
        exact ⟨F, hF⟩
      · obtain ⟨F, hF⟩ : ∃ F : Hp, R0 K F H [(.ref a, .frz (.scr ns))] := by
          refine ⟨fun b => none, [], fun b o hb => (by cases hb), ⟨[], [], rfl, ⟨?_, rfl⟩, rfl⟩, List.nodup_nil, fun _ h => by cases h⟩
          show RD K _ (.scr ns) (.ref a)
          unfold RD
          exact ⟨a, rfl, .inr hS⟩
        exact ⟨F, hF⟩
    · rw [h]
      intro v H' r
      obtain ⟨F, r0⟩ := r
      have := frz_at r0 List.mem_cons_self
      unfold RD at this
      rw [this]
      exact q H'
end
end LR

set_option Elab.async false
set_option linter.all false
set_option maxRecDepth 100000
set_option maxHeartbeats 4000000
/-! From the heap's written part to a module of checked defs, and to the law. -/
namespace LR
open PySem PySem.Spec PyProof.Rows L2

/-- what is to be checked of a def's text -/
structure PreD (t : Tb) (x : Str) (st : Stmt) (N ps : List Str) (fl : List Bool) (code : List Cd) : Prop where
  sc : FnScope N ps (defScope st)
  fl : fl.length = ps.length
  ck : ckSs t ⟨N, defScope st, defScope st⟩ code (defBody st) = true
  bind : ∀ (kV doc pm : Value) (an : Option Addr) (cdv ct : Value) (us : List Value), us.length = ps.length → bindArgs (PySem.W.fnOf x x (defArgs st) (defBody st) (defScope st) .none kV doc pm an cdv ct) ⟨us, []⟩ = pure (ps.zip us)
section
variable {t : Tb} {K : PySem.W.Frag} {mg : Str → Option Value} {h : Heap} {x : Str} {st : Stmt} {f : Addr} {oc kV dc pm cdv ct : Value} {od an : Option Addr} {osl : Array (Option Value)} {N ps : List Str} {fl : List Bool} {code : List Cd}
theorem mkF (KX : K.In h) (G : h.Ns mainGlobals mg) (p : PreD t x st N ps fl code) (a : PySem.W.nsIn K mainGlobals x = some (some (.ref f)))
    (l : K.lookup f = some ⟨oc, od, .func (PySem.W.fnOf x x (defArgs st) (defBody st) (defScope st) .none kV dc pm an cdv ct), osl⟩) (c : PySem.W.codeIn K cdv x = true) (k : PySem.W.keepIn K (.ref f) = true) : DefH t K mg ⟨x, ps.length, false⟩ ⟨x, x, N, fl, code⟩ := by
  have F := fun_mk (st := st) l c k
  exact ⟨st, f, _, ps, F, p.sc, p.fl, rfl, p.ck, PySem.W.mg_of KX G a, fun _ => F.binds p.bind, fun z => by cases z⟩
def DefsAll (t : Tb) (K : PySem.W.Frag) (mg : Str → Option Value) : List DefE → List DefC → Prop
  | [], [] => True
  | e :: es, d :: ds => DefH t K mg e d ∧ DefsAll t K mg es ds
  | _, _ => False
theorem defsAll_get : ∀ {es : List DefE} {ds : List DefC}, DefsAll t K mg es ds → es.length = ds.length ∧ ∀ (i : Nat) (e : DefE) (d : DefC), es[i]? = some e → ds[i]? = some d → DefH t K mg e d
  | [], [], _ => ⟨rfl, fun i e d h => by simp at h⟩
  | e :: es, d :: ds, h => by
    obtain ⟨h1, h2⟩ := h
    obtain ⟨l, g⟩ := defsAll_get h2
    refine ⟨by rw [List.length_cons, List.length_cons, l], fun i e' d' he hd => ?_⟩
    cases i with
    | zero =>
      cases he
      cases hd
      exact h1
    | succ i => exact g i e' d' (by simpa using he) (by simpa using hd)
  | [], _ :: _, h => h.elim
  | _ :: _, [], h => h.elim
def GlOk (K : PySem.W.Frag) (mg : Str → Option Value) (p : Str × D) : Prop := ∃ v u, mg p.1 = some u ∧ RelV v u ∧ ∀ F, RD K F p.2 v
theorem gl_int {i : Int} {tk : Tok} (KX : K.In h) (G : h.Ns mainGlobals mg) (a : PySem.W.nsIn K mainGlobals x = some (some (.int i tk))) : GlOk K mg (x, .int i) := ⟨.int i, _, PySem.W.mg_of KX G a, ⟨_, rfl⟩, fun F => by unfold RD; rfl⟩
theorem gl_str {i : Str} {tk : Tok} (KX : K.In h) (G : h.Ns mainGlobals mg) (a : PySem.W.nsIn K mainGlobals x = some (some (.str i tk))) : GlOk K mg (x, .str i) := ⟨.str i, _, PySem.W.mg_of KX G a, ⟨_, rfl⟩, fun F => by unfold RD; rfl⟩
theorem nob_all (KX : K.In h) (G : h.Ns mainGlobals mg) : ∀ {l : List Str}, (∀ x ∈ l, PySem.W.nsIn K mainGlobals x = some none) → ∀ x ∈ l, mg x = none := fun hl x hx => PySem.W.mg_none_of KX G (hl x hx)
end
section
variable {t : Tb} {ds : List DefC} {cl : Str → Value} {P : Program} {w : World} {K : PySem.W.Frag} {mg : Str → Option Value} {base : Heap} {x : Str} {st : Stmt} {f : Addr} {fd : FuncData} {N : List Str} {code : List Cd} {k : Nat}
/-- the law's def keeps the law's promise -/
theorem law_of (M : ModH t ds cl K mg) (F : Fun K x x st f fd) (p : PreD t x st N ["script"] [false] code)
    (hlaw : ∀ ns : List Int, ns.length ≤ 63 → (∀ z ∈ ns, Builtin.Int.intBits z ≤ 1048576) → ∃ outs, runDef N.length [false] (sSeq (rnSs t [] (calls t ds k) code)) [.frz (.scr ns)] = .ok (.frz (.bl true)) outs) :
    FnOk P w K mg base (L2.CX P w) (k + 1) f fd [("script" : Str)] (spLaw K) := by
  have G := def_ok (P := P) (w := w) (base := base) F p.sc (mod_fx M k) p.fl p.ck
  refine G.imp fun vs H Q E ⟨a, ns, hv, hS, hl, hb, q⟩ => ?_
  obtain ⟨outs, h⟩ := hlaw ns hl hb
  subst hv
  refine ⟨[.frz (.scr ns)], [], rfl, rfl, ?_, ?_⟩
  · rcases hS with hS | hS
    · obtain ⟨F, hF⟩ : ∃ F : Hp, R0 K F H [(.ref a, .frz (.scr ns))] := by
        refine ⟨fun b => if b = a then H a else none, [], fun b o hb => ?_, ⟨[], [], rfl, ⟨?_, rfl⟩, rfl⟩, List.nodup_nil, fun _ h => by cases h⟩
        · dsimp only at hb
          split at hb
          · rename_i z
            rw [z]
            exact hb
          · cases hb
        · show RD K _ (.scr ns) (.ref a)
          unfold RD
          refine ⟨a, rfl, .inl ?_⟩
          rcases hS with hS | ⟨o, hS⟩
          · exact .inl (by dsimp only; rw [if_pos rfl]; exact hS)
          · exact .inr ⟨o, by dsimp only; rw [if_pos rfl]; exact hS⟩
      exact ⟨F, hF⟩
    · obtain ⟨F, hF⟩ : ∃ F : Hp, R0 K F H [(.ref a, .frz (.scr ns))] := by
        refine ⟨fun b => none, [], fun b o hb => (by cases hb), ⟨[], [], rfl, ⟨?_, rfl⟩, rfl⟩, List.nodup_nil, fun _ h => by cases h⟩
        show RD K _ (.scr ns) (.ref a)
        unfold RD
        exact ⟨a, rfl, .inr hS⟩
      exact ⟨F, hF⟩
  · show match runDef N.length [false] (sSeq (rnSs t [] (calls t ds k) code)) [.frz (.scr ns)] with
      | .fail => False
      | .ok o outs => ∀ v H', R K H' ((v, o) :: (pairs outs _ ++ [])) → Q v H'
      | .exc c outs => ∀ H', R K H' (pairs outs _ ++ []) → E (cl c) none H'
    rw [h]
    intro v H' r
    obtain ⟨F, r0⟩ := r
    have := frz_at r0 List.mem_cons_self
    unfold RD at this
    rw [this]
    exact q H'
/-- all that the head asks -/
theorem head_of {l : PySem.W.OpenLaw} {q : Program} {loose : List Str} {XP : (Str → Option Value) → Heap → Prop} {YP : World → Heap → Prop} {d : DefRec} {K : Params → PySem.W.Frag} {k : Nat} (hn : l.most = some 63) (hdf : d.params.defaults = []) (hr : Room (k + 1) callerA)
    (hY : ∀ (w : World) (h : Heap), YP w h → (K w.params).In h)
    (F : ∀ (w : World) (mg : Str → Option Value) (fa : Addr) (h : Heap), (K w.params).In h → h.Ns mainGlobals mg → mg d.name = some (.ref fa) →
      ∃ fd : FuncData, (∀ (s : Shared) (u : Value), BindsTo s fd ⟨[u], []⟩ [("script", u)]) ∧ ∀ base : Heap, (K w.params).In base → base.Ns mainGlobals mg → FnOk l.prog w (K w.params) mg base (L2.CX l.prog w) (k + 1) fa fd [("script" : Str)] (spLaw (K w.params))) :
    PySem.W.WalkO q loose XP YP l.row.toRowW d [] (fun f vs => PySem.call f vs) :=
  L2.walk_ofB (n := 63) (k := k + 1) (x := "script") (CX := fun w => L2.CX l.prog w) (sp := fun w => spLaw (K w.params)) hn (by decide) hdf hr hY F (fun _ _ a ns hl hb _ hS => ⟨a, ns, rfl, hS, hl, hb, fun _ => rfl⟩) fun _ _ _ _ _ z => by
    obtain ⟨_, _, _, _, _, _, _, _, _, _, _, _, z⟩ := z
    exact z
end
end LR

set_option Elab.async false
set_option linter.all false
set_option maxRecDepth 100000
set_option maxHeartbeats 4000000
/-! Codes run by rewriting. -/
namespace LR
open PySem PySem.Spec PyProof.Rows L2
section
variable {t : Tb} {P : List Nat} {ev : Nat → List O → CRes} {e e1 : Env}
-- codes
@[simp] theorem v_var {i : Nat} : rnX t P ev (.var i) = xVar i := by unfold rnX; rfl
@[simp] theorem v_move {i : Nat} : rnX t P ev (.move i) = xMove P i := by unfold rnX; rfl
@[simp] theorem v_glo {i : Nat} : rnX t P ev (.glo i) = globOf t i := by unfold rnX; rfl
@[simp] theorem v_lit {d : D} : rnX t P ev (.lit d) = xLit d := by unfold rnX; rfl
@[simp] theorem v_bin {op : Operator} {a b : Cd} : rnX t P ev (.bin op a b) = op2 (dBin op) (opdOf a (rnX t P ev a)) (opdOf b (rnX t P ev b)) := by conv => lhs; unfold rnX
@[simp] theorem v_ofT {a : Cd} : rnX t P ev (.ofT a) = ofB (rnB t P ev a) := by conv => lhs; unfold rnX
@[simp] theorem v_ite {c a b : Cd} : rnX t P ev (.ite c a b) = xIf (rnB t P ev c) (rnX t P ev a) (rnX t P ev b) := by conv => lhs; unfold rnX
@[simp] theorem v_neg {a : Cd} : rnX t P ev (.neg a) = op1 dNeg (opdOf a (rnX t P ev a)) := by conv => lhs; unfold rnX
@[simp] theorem v_tup {l : List Cd} : rnX t P ev (.tup l) = xTup (rnVs t P ev l) := by conv => lhs; unfold rnX
@[simp] theorem v_lst {l : List Cd} : rnX t P ev (.lst l) = xLst (rnVs t P ev l) := by conv => lhs; unfold rnX
@[simp] theorem v_ix {a b : Cd} : rnX t P ev (.ix a b) = xIx (opdOf a (rnX t P ev a)) (opdOf b (rnX t P ev b)) := by conv => lhs; unfold rnX
@[simp] theorem v_sl {a : Cd} {lo hi : Option Cd} : rnX t P ev (.sl a lo hi) = xSl (opdOf a (rnX t P ev a)) (rnO t P ev lo) (rnO t P ev hi) := by conv => lhs; unfold rnX
@[simp] theorem v_blt {k : Blt} {l : List Cd} : rnX t P ev (.blt k l) = opN (bOf k) (rnRs t P ev l) := by conv => lhs; unfold rnX
@[simp] theorem v_isI {T : String} {a : Cd} : rnX t P ev (.isI T a) = xIsI T (opdOf a (rnX t P ev a)) := by conv => lhs; unfold rnX
@[simp] theorem v_fn {i : Nat} {l : List Cd} : rnX t P ev (.fn i l) = xCall (ev i) [] (rnAs t P ev l) := by conv => lhs; unfold rnX
@[simp] theorem v_fnD {i : Nat} {l : List Cd} : rnX t P ev (.fnD i l) = xCall (ev i) [.tup []] (rnAs t P ev l) := by conv => lhs; unfold rnX
@[simp] theorem v_fnK {i : Nat} {l : List Cd} {k : Cd} : rnX t P ev (.fnK i l k) = xCall (ev i) [] (rnAs t P ev l ++ [argOf k (rnX t P ev k)]) := by conv => lhs; unfold rnX
@[simp] theorem v_mth {m : Mth} {j : Nat} {l : List Cd} : rnX t P ev (.mth m j l) = xMth m j (rnVs t P ev l) := by conv => lhs; unfold rnX
@[simp] theorem v_sset {a : Cd} : rnX t P ev (.sset a) = op1 dSet (opdOf a (rnX t P ev a)) := by conv => lhs; unfold rnX
@[simp] theorem v_rev {a : Cd} : rnX t P ev (.rev a) = op1 dRev (opdOf a (rnX t P ev a)) := by conv => lhs; unfold rnX
@[simp] theorem v_lcO {vs : List Nat} {tg : Tg} {j : Nat} {c x : Cd} : rnX t P ev (.lcO vs tg j c x) = xLcO vs tg j (rnB t P ev c) (rnX t P ev x) := by conv => lhs; unfold rnX
@[simp] theorem v_lc {vs : List Nat} {tg : Tg} {s c x : Cd} : rnX t P ev (.lc vs tg s c x) = xLc vs tg (rnI t P ev s) (rnB t P ev c) (rnX t P ev x) := by conv => lhs; unfold rnX
@[simp] theorem v_lc2 {vs vs1 : List Nat} {tg tg1 : Tg} {s s1 x : Cd} : rnX t P ev (.lc2 vs vs1 tg tg1 s s1 x) = xLc2 vs vs1 tg tg1 (rnI t P ev s) (rnI t P ev s1) (rnX t P ev x) := by conv => lhs; unfold rnX
@[simp] theorem v_dc {vs : List Nat} {tg : Tg} {s c k x : Cd} : rnX t P ev (.dc vs tg s c k x) = xDc vs tg (rnI t P ev s) (rnB t P ev c) (rnX t P ev k) (rnX t P ev x) := by conv => lhs; unfold rnX
@[simp] theorem vs_nil : rnVs t P ev [] = [] := by unfold rnVs; rfl
@[simp] theorem vs_cons {c : Cd} {l : List Cd} : rnVs t P ev (c :: l) = toV (rnX t P ev c) :: rnVs t P ev l := by conv => lhs; unfold rnVs
@[simp] theorem os_nil : rnOs t P ev [] = [] := by unfold rnOs; rfl
@[simp] theorem os_cons {c : Cd} {l : List Cd} : rnOs t P ev (c :: l) = rnX t P ev c :: rnOs t P ev l := by conv => lhs; unfold rnOs
@[simp] theorem rs_nil : rnRs t P ev [] = [] := by unfold rnRs; rfl
@[simp] theorem rs_cons {c : Cd} {l : List Cd} : rnRs t P ev (c :: l) = opdOf c (rnX t P ev c) :: rnRs t P ev l := by conv => lhs; unfold rnRs
@[simp] theorem as_nil : rnAs t P ev [] = [] := by unfold rnAs; rfl
@[simp] theorem as_cons {c : Cd} {l : List Cd} : rnAs t P ev (c :: l) = argOf c (rnX t P ev c) :: rnAs t P ev l := by conv => lhs; unfold rnAs
@[simp] theorem o_none : rnO t P ev none = none := by unfold rnO; rfl
@[simp] theorem o_some {c : Cd} : rnO t P ev (some c) = some (rnX t P ev c) := by conv => lhs; unfold rnO
@[simp] theorem b_cmp {op : CmpOp} {a b : Cd} : rnB t P ev (.cmp op a b) = bCmp op (opdOf a (rnX t P ev a)) (opdOf b (rnX t P ev b)) := by conv => lhs; unfold rnB
@[simp] theorem b_chain {op op' : CmpOp} {a b c : Cd} : rnB t P ev (.chain op op' a b c) = bChain op op' (opdOf a (rnX t P ev a)) (opdOf b (rnX t P ev b)) (opdOf c (rnX t P ev c)) := by conv => lhs; unfold rnB
@[simp] theorem b_no {a : Cd} : rnB t P ev (.no a) = bNot (rnB t P ev a) := by conv => lhs; unfold rnB
@[simp] theorem b_all {l : List Cd} : rnB t P ev (.all l) = bAnd (rnBs t P ev l) := by conv => lhs; unfold rnB
@[simp] theorem b_one {l : List Cd} : rnB t P ev (.one l) = bOr (rnBs t P ev l) := by conv => lhs; unfold rnB
@[simp] theorem b_asB {a : Cd} : rnB t P ev (.asB a) = toB (rnX t P ev a) := by conv => lhs; unfold rnB
@[simp] theorem b_yes : rnB t P ev .yes = bYes := by unfold rnB; rfl
@[simp] theorem bs_nil : rnBs t P ev [] = [] := by unfold rnBs; rfl
@[simp] theorem bs_cons {c : Cd} {l : List Cd} : rnBs t P ev (c :: l) = rnB t P ev c :: rnBs t P ev l := by conv => lhs; unfold rnBs
@[simp] theorem i_any {a : Cd} : rnI t P ev (.any a) = srcAny (rnX t P ev a) := by conv => lhs; unfold rnI
@[simp] theorem i_enum {a : Cd} : rnI t P ev (.enum a) = srcEnum (rnX t P ev a) := by conv => lhs; unfold rnI
@[simp] theorem i_zip2 {a b : Cd} : rnI t P ev (.zip2 a b) = srcZip2 (rnX t P ev a) (rnX t P ev b) := by conv => lhs; unfold rnI
@[simp] theorem i_zip3 {a b c : Cd} : rnI t P ev (.zip3 a b c) = srcZip3 (rnX t P ev a) (rnX t P ev b) (rnX t P ev c) := by conv => lhs; unfold rnI
@[simp] theorem i_rng {a : Cd} : rnI t P ev (.rng a) = srcRng1 (rnX t P ev a) := by conv => lhs; unfold rnI
@[simp] theorem i_rng2 {a b : Cd} : rnI t P ev (.rng2 a b) = srcRng2 (rnX t P ev a) (rnX t P ev b) := by conv => lhs; unfold rnI
@[simp] theorem s_pass : rnS t P ev .pass = sPass := by unfold rnS; rfl
@[simp] theorem s_expr {a : Cd} : rnS t P ev (.expr a) = sExpr (rnX t P ev a) := by conv => lhs; unfold rnS
@[simp] theorem s_ret {a : Cd} : rnS t P ev (.ret a) = sRet (rnX t P ev a) := by conv => lhs; unfold rnS
@[simp] theorem s_retN : rnS t P ev .retN = sRetN := by unfold rnS; rfl
@[simp] theorem s_brk : rnS t P ev .brk = sBrk := by unfold rnS; rfl
@[simp] theorem s_cont : rnS t P ev .cont = sCont := by unfold rnS; rfl
@[simp] theorem s_raise {x : Str} : rnS t P ev (.raise x) = sRaise x := by unfold rnS; rfl
@[simp] theorem s_sif {c : Cd} {a b : List Cd} : rnS t P ev (.sif c a b) = sIf (rnB t P ev c) (sSeq (rnSs t P ev a)) (sSeq (rnSs t P ev b)) := by conv => lhs; unfold rnS
@[simp] theorem s_set {i : Nat} {a : Cd} : rnS t P ev (.set i a) = sSet P i (rnX t P ev a) := by conv => lhs; unfold rnS
@[simp] theorem s_asg {tg : Tg} {a : Cd} : rnS t P ev (.asg tg a) = sAsg P tg (rnX t P ev a) := by conv => lhs; unfold rnS
@[simp] theorem s_par {is : List Nat} {l : List Cd} : rnS t P ev (.par is l) = sPar P is (rnOs t P ev l) := by conv => lhs; unfold rnS
@[simp] theorem s_sub {j : Nat} {k a : Cd} : rnS t P ev (.sub j k a) = sSub j (rnX t P ev k) (rnX t P ev a) := by conv => lhs; unfold rnS
@[simp] theorem s_ssl {j : Nat} {lo hi a : Cd} : rnS t P ev (.ssl j lo hi a) = sSsl j (rnX t P ev lo) (rnX t P ev hi) (rnX t P ev a) := by conv => lhs; unfold rnS
@[simp] theorem s_sfor {tg : Tg} {s : Cd} {b : List Cd} : rnS t P ev (.sfor tg s b) = sFor P tg (rnI t P ev s) (sSeq (rnSs t P ev b)) := by conv => lhs; unfold rnS
@[simp] theorem s_swhile {c : Cd} {b : List Cd} : rnS t P ev (.swhile c b) = sWhile (rnB t P ev c) (sSeq (rnSs t P ev b)) := by conv => lhs; unfold rnS
@[simp] theorem ss_nil : rnSs t P ev [] = [] := by unfold rnSs; rfl
@[simp] theorem ss_cons {c : Cd} {l : List Cd} : rnSs t P ev (c :: l) = rnS t P ev c :: rnSs t P ev l := by conv => lhs; unfold rnSs
-- names
@[simp] theorem at_zero {x : Option O} : Env.at (x :: e) 0 = x := by cases x <;> rfl
@[simp] theorem at_succ {x : Option O} {i : Nat} : Env.at (x :: e) (i + 1) = Env.at e i := rfl
@[simp] theorem at_nil {i : Nat} : Env.at [] i = none := rfl
-- results
@[simp] theorem post_ok' {α : Type} {a : α} {f : α → Env → SRes} : (Res.ok a e).stm f = f a e := rfl
@[simp] theorem stm_fail {α : Type} {f : α → Env → SRes} : (Res.fail : Res α).stm f = .fail := rfl
-- operands
@[simp] theorem od_var {i : Nat} {x : M O} : opdOf (.var i) x = rVar i := rfl
@[simp] theorem ag_ref {i : Nat} {x : M O} : argOf (.ref i) x = rVar i := rfl
-- combinators at a state
variable {α : Type}
theorem at_eq {i : Nat} {o : Option O} (h : e.at i = o) : e.at i = o := h
@[simp] theorem q_var {i : Nat} : xVar i e = match e.at i with
  | some (.frz d) => .ok (.frz d) e
  | some (.lst ds) => .ok (.frz (.lst ds)) (e.set i (some (.frz (.lst ds))))
  | some (.dK kvs) => .ok (.frz (O.dK kvs).data) (e.set i (some (.frz (O.dK kvs).data)))
  | _ => .fail := rfl
@[simp] theorem q_rvar {i : Nat} : rVar i e = match e.at i with
  | some (.frz d) => .ok (.dat d) e
  | some _ => .ok (.slot i) e
  | none => .fail := rfl
@[simp] theorem q_move {i : Nat} : xMove P i e = if P.contains i then xVar i e else match e.at i with
  | some o => .ok o (e.set i none)
  | none => .fail := rfl
@[simp] theorem q_lit {d : D} : xLit d e = .ok (.frz d) e := rfl
@[simp] theorem q_toR {x : M O} : toR x e = (x e).bind fun o e1 => match o.val with
  | some d => .ok (.dat d) e1
  | none => .fail := rfl
@[simp] theorem q_toV {x : M O} : toV x e = (x e).bind fun o e1 => match o.val with
  | some d => .ok d e1
  | none => .fail := rfl
@[simp] theorem q_toA {x : M O} : toA x e = (toV x e).bind fun d e1 => .ok (.dat d) e1 := rfl
@[simp] theorem q_all0 : allM ([] : List (M α)) e = .ok [] e := rfl
@[simp] theorem q_all1 {x : M α} {r : List (M α)} : allM (x :: r) e = (x e).bind fun a e1 => (allM r e1).bind fun l e2 => .ok (a :: l) e2 := rfl
@[simp] theorem q_allR0 : allR [] e = .ok [] e := rfl
@[simp] theorem q_allR1 {x : M Opd} {r : List (M Opd)} : allR (x :: r) e = (x e).bind fun a e1 => (allR r e1).bind fun l e2 => .ok (a :: l) e2 := rfl
@[simp] theorem q_tup {xs : List (M D)} : xTup xs e = (allM xs e).bind fun ds e1 => if small ds.length then .ok (.frz (.tup ds)) e1 else .fail := rfl
@[simp] theorem q_lst {xs : List (M D)} : xLst xs e = (allM xs e).bind fun ds e1 => if small ds.length then .ok (.lst ds) e1 else .fail := rfl
@[simp] theorem q_op2 {g : D → D → Option α} {a b : M Opd} : op2 g a b e = (a e).bind fun p e1 => (b e1).bind fun q e2 => give ((p.val e2).bind fun x => (q.val e2).bind fun y => g x y) e2 := rfl
@[simp] theorem q_op1 {g : D → Option α} {a : M Opd} : op1 g a e = (a e).bind fun p e1 => give ((p.val e1).bind g) e1 := rfl
@[simp] theorem q_opN {g : List D → Option α} {xs : List (M Opd)} : opN g xs e = (allR xs e).bind fun ps e1 => give ((valsOf e1 ps).bind g) e1 := rfl
@[simp] theorem q_vals0 : valsOf e [] = some [] := rfl
@[simp] theorem q_vals1 {p : Opd} {r : List Opd} : valsOf e (p :: r) = (p.val e).bind fun d => (valsOf e r).bind fun ds => some (d :: ds) := rfl
@[simp] theorem q_ofB {x : M Bool} : ofB x e = (x e).bind fun b e1 => .ok (.frz (.bl b)) e1 := rfl
@[simp] theorem q_toB {x : M O} : toB x e = (x e).bind fun o e1 => match o with
  | .frz (.bl b) => .ok b e1
  | _ => .fail := rfl
@[simp] theorem q_cmp {op : CmpOp} {a b : M Opd} : bCmp op a b e = op2 (dCmp op) a b e := rfl
@[simp] theorem q_chain {op op' : CmpOp} {a b c : M Opd} : bChain op op' a b c e = (a e).bind fun p e1 => (b e1).bind fun q e2 => (give ((p.val e2).bind fun x => (q.val e2).bind fun y => dCmp op x y) e2).bind fun k e3 =>
  if k then (c e3).bind fun r e4 => give ((q.val e4).bind fun y => (r.val e4).bind fun z => dCmp op' y z) e4 else .ok false e3 := rfl
@[simp] theorem q_not {a : M Bool} : bNot a e = (a e).bind fun b e1 => .ok (!b) e1 := rfl
@[simp] theorem q_and1 {a : M Bool} : bAnd [a] e = a e := rfl
@[simp] theorem q_and2 {a b : M Bool} {r : List (M Bool)} : bAnd (a :: b :: r) e = (a e).bind fun k e1 => if k then bAnd (b :: r) e1 else .ok false e1 := rfl
@[simp] theorem q_or1 {a : M Bool} : bOr [a] e = a e := rfl
@[simp] theorem q_or2 {a b : M Bool} {r : List (M Bool)} : bOr (a :: b :: r) e = (a e).bind fun k e1 => if k then .ok true e1 else bOr (b :: r) e1 := rfl
@[simp] theorem q_xif {t : M Bool} {a b : M O} : xIf t a b e = (t e).bind fun k e1 => if k then a e1 else b e1 := rfl
@[simp] theorem q_isI {T : String} {a : M Opd} : xIsI T a e = op1 (fun d => (isI T d).map fun b => .frz (.bl b)) a e := rfl
@[simp] theorem q_ix {a b : M Opd} : xIx a b e = op2 dIx a b e := rfl
@[simp] theorem q_sl {a : M Opd} {lo hi : Option (M O)} : xSl a lo hi e = (a e).bind fun p e1 => (mOpt lo e1).bind fun l e2 => (mOpt hi e2).bind fun h e3 => give ((p.val e3).bind (dSl l h)) e3 := rfl
@[simp] theorem q_opt0 : mOpt none e = .ok none e := rfl
@[simp] theorem q_opt1 {f : M O} : mOpt (some f) e = (f e).bind fun o e1 => match o with
  | .frz (.int i) => .ok (some i) e1
  | _ => .fail := rfl
@[simp] theorem q_call {g : List O → CRes} {dflt : List D} {xs : List (M Opd)} : xCall g dflt xs e = (allR xs e).bind fun ps e1 => match takeS ps e1 with
  | none => .fail
  | some r => (g (r.1 ++ dflt.map O.frz)).put ps r.2 := rfl
@[simp] theorem q_take0 : takeS [] e = some ([], e) := rfl
@[simp] theorem q_take1 {d : D} {ps : List Opd} : takeS (.dat d :: ps) e = (takeS ps e).map fun r => (.frz d :: r.1, r.2) := rfl
@[simp] theorem q_take2 {i : Nat} {ps : List Opd} : takeS (.slot i :: ps) e = (e.at i).bind fun o => (takeS ps (e.set i none)).map fun r => (o :: r.1, r.2) := rfl
@[simp] theorem q_put0 {ps : List Opd} : CRes.fail.put ps e = .fail := rfl
@[simp] theorem q_put1 {ps : List Opd} {o : O} {outs : Env} : (CRes.ok o outs).put ps e = .ok o (putS ps outs e) := rfl
@[simp] theorem q_put2 {ps : List Opd} {o : Str} {outs : Env} : (CRes.exc o outs).put ps e = .exc o (putS ps outs e) := rfl
@[simp] theorem q_putS0 : putS [] [] e = e := rfl
@[simp] theorem q_putS0' {outs : Env} : putS [] outs e = e := by cases outs <;> rfl
@[simp] theorem q_putS1 {d : D} {x : Option O} {ps : List Opd} {outs : Env} : putS (.dat d :: ps) (x :: outs) e = putS ps outs e := by cases x <;> rfl
@[simp] theorem q_putS2 {i : Nat} {o : O} {ps : List Opd} {outs : Env} : putS (.slot i :: ps) (some o :: outs) e = putS ps outs (e.set i (some o)) := rfl
@[simp] theorem q_putS3 {i : Nat} {ps : List Opd} {outs : Env} : putS (.slot i :: ps) (none :: outs) e = putS ps outs e := rfl
@[simp] theorem q_val1 {d : D} : Opd.val e (.dat d) = O.val (.frz d) := rfl
@[simp] theorem q_val2 {i : Nat} : Opd.val e (.slot i) = (e.at i).bind O.val := rfl
@[simp] theorem q_oval1 {d : D} : O.val (.frz d) = some d := rfl
@[simp] theorem q_oval2 {d : List D} : O.val (.lst d) = some (.lst d) := rfl
@[simp] theorem q_oval3 {d : List (Key × D)} : O.val (.dK d) = some (.dK (d.map (·.1)) (d.map (·.2))) := rfl
-- statements
@[simp] theorem q_pass : sPass e = .next e := rfl
@[simp] theorem q_seq0 : sSeq [] e = .next e := rfl
@[simp] theorem q_seq1 {x : SM} {r : List SM} : sSeq (x :: r) e = (x e).andThen (sSeq r) := rfl
@[simp] theorem q_expr {x : M O} : sExpr x e = (x e).stm fun _ e1 => .next e1 := rfl
@[simp] theorem q_ret {x : M O} : sRet x e = (x e).stm fun o e1 => .ret o e1 := rfl
@[simp] theorem q_retN : sRetN e = .ret (.frz .non) e := rfl
@[simp] theorem q_sif {t : M Bool} {a b : SM} : sIf t a b e = (t e).stm fun k e1 => if k then a e1 else b e1 := rfl
@[simp] theorem q_brk : sBrk e = .brk e := rfl
@[simp] theorem q_cont : sCont e = .cont e := rfl
@[simp] theorem q_raise {x : Str} : sRaise x e = .exc x e := rfl
@[simp] theorem q_set {i : Nat} {x : M O} : sSet P i x e = (x e).stm fun o e1 => if okP P [i] then goOn (put1 i o e1) else .fail := rfl
@[simp] theorem q_asg {t : Tg} {x : M O} : sAsg P t x e = (toV x e).stm fun d e1 => if okP P t.slots then goOn (t.put d e1) else .fail := rfl
@[simp] theorem q_par {is : List Nat} {xs : List (M O)} : sPar P is xs e = (allM xs e).stm fun os e1 => if okP P is then goOn (putO is os e1) else .fail := rfl
@[simp] theorem q_sub {j : Nat} {k x : M O} : sSub j k x e = (toV x e).stm fun d e1 => match e1.at j with
  | none => .fail
  | some _ => (toV k e1).stm fun kd e2 => match (e2.at j).bind (setD kd d) with
    | some o => .next (e2.set j (some o))
    | none => .fail := rfl
@[simp] theorem q_sfor {tg : Tg} {src : M (List D)} {body : SM} : sFor P tg src body e = (src e).stm fun ds e1 => if okP P tg.slots then loopS tg body ds e1 else .fail := rfl
@[simp] theorem q_loop0 {tg : Tg} {body : SM} : loopS tg body [] e = .next e := rfl
@[simp] theorem q_any {x : M O} : srcAny x e = (toV x e).bind fun d e1 => give (itemsOf d) e1 := rfl
@[simp] theorem q_rng {x : M O} : srcRng1 x e = (toV x e).bind fun d e1 => match d with
  | .int i => if inSize i then .ok (upFrom 0 i.toNat) e1 else .fail
  | _ => .fail := rfl
@[simp] theorem q_lc {vs : List Nat} {tg : Tg} {src : M (List D)} {tt : M Bool} {te : M O} : xLc vs tg src tt te e = (src e).bind fun ds e1 =>
  if subL tg.slots vs then (aside vs (lcLoop vs tg tt te [] ds) e1).bind fun l e2 => .ok (.lst l) e2 else .fail := rfl
@[simp] theorem q_lcO {vs : List Nat} {tg : Tg} {j : Nat} {tt : M Bool} {te : M O} : xLcO vs tg j tt te e = match e.at j with
  | some (.lst items) => if subL tg.slots vs then (aside vs (lcLoop vs tg tt te [] items) (e.set j none)).bind fun l e2 => .ok (.lst l) (e2.set j (some (.lst items))) else .fail
  | _ => .fail := rfl
@[simp] theorem q_mth {m : Mth} {j : Nat} {xs : List (M D)} : xMth m j xs e = if isOwn e j then (allM xs e).bind fun ds e1 => match (ownL e1 j).bind fun l => mRun m l ds with
    | some r => .ok (.frz r.2) (e1.set j (some (.lst r.1)))
    | none => .fail
  else .fail := rfl
@[simp] theorem q_yes : bYes e = .ok true e := rfl
@[simp] theorem q_run {n : Nat} {fl : List Bool} {body : SM} {os : List O} (h : os.length = fl.length ∧ os.length ≤ n) : runDef n fl body os = match body (startE n os) with
    | .next e => .ok (.frz .non) (outsOf fl e)
    | .ret o e => .ok o (outsOf fl e)
    | .exc c e => .exc c (outsOf fl e)
    | _ => .fail := by
  unfold runDef
  rw [if_pos h]
  all_goals rfl
@[simp] theorem q_slots1 {i : Nat} : (Tg.name i).slots = [i] := rfl
@[simp] theorem q_slots2 {i : List Nat} : (Tg.tup i).slots = i := rfl
@[simp] theorem q_own1 {j : Nat} {l : List D} (h : e.at j = some (.lst l)) : isOwn e j = true ∧ ownL e j = some l := by
  unfold isOwn ownL
  rw [h]
  exact ⟨rfl, rfl⟩
@[simp] theorem q_outs0 : outsOf [] e = [] := by cases e <;> rfl
@[simp] theorem q_outs1 {x : Option O} {fl : List Bool} : outsOf (true :: fl) (x :: e) = x :: outsOf fl e := rfl
@[simp] theorem q_outs2 {x : Option O} {fl : List Bool} : outsOf (false :: fl) (x :: e) = none :: outsOf fl e := rfl

/-! ### loops -/
/-- a loop that keeps something true -/
theorem loop_inv {tg : Tg} {body : SM} (J : Env → Prop) : ∀ {items : List D} {e : Env}, J e → (∀ d ∈ items, ∀ e, J e → ∃ e1, tg.put d e = some e1 ∧ ∃ e2, body e1 = .next e2 ∧ J e2) → ∃ e', loopS tg body items e = .next e' ∧ J e'
  | [], e, h, _ => ⟨e, rfl, h⟩
  | d :: ds, e, h, s => by
    obtain ⟨e1, h1, e2, h2, h3⟩ := s d List.mem_cons_self e h
    obtain ⟨e', h4, h5⟩ := loop_inv J h3 fun x hx => s x (List.mem_cons_of_mem _ hx)
    refine ⟨e', ?_, h5⟩
    unfold loopS
    rw [h1]
    dsimp only
    rw [h2]
    exact h4
/-- a loop that goes on, or leaves the def with what is told -/
theorem loop_all {tg : Tg} {body : SM} (J : Env → Prop) (q : D → Bool) (o : O) : ∀ {items : List D} {e : Env}, J e →
    (∀ d ∈ items, ∀ e, J e → ∃ e1, tg.put d e = some e1 ∧ ∃ e2, body e1 = (if q d then .next e2 else .ret o e2) ∧ J e2) → ∃ e', loopS tg body items e = (if items.all q then .next e' else .ret o e') ∧ J e'
  | [], e, h, _ => ⟨e, rfl, h⟩
  | d :: ds, e, h, s => by
    obtain ⟨e1, h1, e2, h2, h3⟩ := s d List.mem_cons_self e h
    cases hq : q d with
    | true =>
      rw [hq] at h2
      obtain ⟨e', h4, h5⟩ := loop_all J q o h3 fun x hx => s x (List.mem_cons_of_mem _ hx)
      refine ⟨e', ?_, h5⟩
      unfold loopS
      rw [h1]
      dsimp only
      rw [h2, if_pos rfl, List.all_cons, hq, Bool.true_and]
      exact h4
    | false =>
      rw [hq] at h2
      refine ⟨e2, ?_, h3⟩
      unfold loopS
      rw [h1]
      dsimp only
      rw [h2]
      simp [hq]
/-- a comprehension over what each item comes to, the state kept -/
theorem lc_map {vs : List Nat} {tg : Tg} {tt : M Bool} {te : M O} (J : Env → Prop) (q : D → Bool) (g : D → D) : ∀ {items acc : List D} {e : Env}, acc.length + items.length ≤ 100000 → J e →
    (∀ d ∈ items, ∀ e, J e → ∃ e1 e2, tg.put d e = some e1 ∧ tt e1 = .ok (q d) e2 ∧ if q d then ∃ e3, toV te e2 = .ok (g d) e3 ∧ J (wipeE e3 vs) else J (wipeE e2 vs)) →
    ∃ e', lcLoop vs tg tt te acc items e = .ok (acc ++ (items.filter q).map g) e' ∧ J e'
  | [], acc, e, _, h, _ => ⟨e, by simp [lcLoop], h⟩
  | d :: ds, acc, e, hl, h, s => by
    obtain ⟨e1, e2, h1, h2, h3⟩ := s d List.mem_cons_self e h
    have hs : small acc.length = true := decide_eq_true (by rw [List.length_cons] at hl; omega)
    cases hq : q d with
    | true =>
      rw [hq] at h2 h3
      obtain ⟨e3, h4, h5⟩ := h3
      obtain ⟨e', h6, h7⟩ := lc_map J q g (acc := acc ++ [g d]) (by simp at hl ⊢; omega) h5 fun x hx => s x (List.mem_cons_of_mem _ hx)
      refine ⟨e', ?_, h7⟩
      unfold lcLoop
      rw [if_pos hs, h1]
      dsimp only
      rw [h2]
      dsimp only
      rw [h4]
      dsimp only
      rw [h6]
      simp [List.filter_cons, hq]
    | false =>
      rw [hq] at h2 h3
      obtain ⟨e', h6, h7⟩ := lc_map J q g (acc := acc) (by simp at hl ⊢; omega) h3 fun x hx => s x (List.mem_cons_of_mem _ hx)
      refine ⟨e', ?_, h7⟩
      unfold lcLoop
      rw [if_pos hs, h1]
      dsimp only
      rw [h2]
      dsimp only
      rw [h6]
      simp [List.filter_cons, hq]
/-- a comprehension whose items are known by a property alone -/
theorem lc_some {vs : List Nat} {tg : Tg} {tt : M Bool} {te : M O} (J : Env → Prop) (G : D → Prop) : ∀ {items acc : List D} {e : Env}, acc.length + items.length ≤ 100000 → J e → (∀ d ∈ acc, G d) →
    (∀ d ∈ items, ∀ e, J e → ∃ e1 e2 e3 y, tg.put d e = some e1 ∧ tt e1 = .ok true e2 ∧ toV te e2 = .ok y e3 ∧ G y ∧ J (wipeE e3 vs)) →
    ∃ l e', lcLoop vs tg tt te acc items e = .ok l e' ∧ J e' ∧ l.length = acc.length + items.length ∧ ∀ d ∈ l, G d
  | [], acc, e, _, h, ha, _ => ⟨acc, e, rfl, h, rfl, ha⟩
  | d :: ds, acc, e, hl, h, ha, s => by
    obtain ⟨e1, e2, e3, y, h1, h2, h3, h4, h5⟩ := s d List.mem_cons_self e h
    have hs : small acc.length = true := decide_eq_true (by rw [List.length_cons] at hl; omega)
    obtain ⟨l, e', h6, h7, h8, h9⟩ := lc_some J G (acc := acc ++ [y]) (by simp at hl ⊢; omega) h5 (fun x hx => by
      rcases List.mem_append.mp hx with z | z
      · exact ha x z
      · rw [List.mem_singleton.mp z]; exact h4) fun x hx => s x (List.mem_cons_of_mem _ hx)
    refine ⟨l, e', ?_, h7, by rw [h8]; simp; omega, h9⟩
    unfold lcLoop
    rw [if_pos hs, h1]
    dsimp only
    rw [h2]
    dsimp only
    rw [h3]
    exact h6
end
end LR

set_option Elab.async false
set_option linter.all false
set_option maxRecDepth 100000
set_option maxHeartbeats 4000000
namespace LR
open PySem PySem.Spec PyProof.Rows L2
def top (i : Nat) : Stmt := PySem.Challenge.pw_lanerope_k01_what_are_halls.main.body.getD i (.Pass ⟨0, 0, 0, 0⟩)
def tb : Tb := ⟨[⟨"is_whole", 1, false⟩, ⟨"is_name", 1, false⟩, ⟨"is_from", 3, false⟩, ⟨"are_rows", 3, false⟩, ⟨"are_strands", 2, false⟩, ⟨"is_hall", 1, false⟩, ⟨"_law_well", 2, false⟩, ⟨"_law_take", 2, false⟩, ⟨"_law_is_int", 3, false⟩, ⟨"_law_says", 2, false⟩, ⟨"_law_thing", 2, false⟩, ⟨"_law_otherwise", 3, false⟩, ⟨"_law_hall", 3, false⟩, ⟨"_law_is_name", 1, false⟩, ⟨"_law_are_rows", 2, false⟩, ⟨"_law_is_hall", 1, false⟩, ⟨"law", 1, false⟩], [("LETTERS", .str "abcdefghijklmnopqrstuvwxyz"), ("MOST_STRANDS", .int 4), ("MOST_CARS", .int 3), ("MOST_ROPES", .int 3), ("MOST_LONG", .int 60), ("MOST_RUB", .int 30)], ["isinstance", "int", "bool", "str", "len", "all", "tuple", "range", "any", "list", "sorted", "set", "max", "min"], []⟩
/-- is_whole -/
def c0 : List Cd := [
  .ret (.ofT (.all [.asB (.isI "int" (.var 0)), .no (.asB (.isI "bool" (.var 0)))]))]
def n0 : List Str := ["thing"]
def d0 : DefC := ⟨"is_whole", "is_whole", n0, [false], c0⟩
/-- is_name -/
def c1 : List Cd := [
  .ret (.ofT (.all [.asB (.isI "str" (.var 0)), .chain .LtE .LtE (.lit (.int 1)) (.blt .len [.var 0]) (.lit (.int 8)), .asB (.blt .all [.lc [1] (.name 1) (.any (.var 0)) (.yes) (.ofT (.cmp .In (.var 1) (.glo 0)))])]))]
def n1 : List Str := ["thing", "sign"]
def d1 : DefC := ⟨"is_name", "is_name", n1, [false], c1⟩
/-- is_from -/
def c2 : List Cd := [
  .ret (.ofT (.all [.asB (.fn 0 [.var 0]), .chain .LtE .LtE (.var 1) (.var 0) (.var 2)]))]
def n2 : List Str := ["thing", "low", "high"]
def d2 : DefC := ⟨"is_from", "is_from", n2, [false, false, false], c2⟩
/-- are_rows -/
def c3 : List Cd := [
  .sif (.one [.no (.asB (.isI "tuple" (.var 0))), .no (.chain .LtE .LtE (.lit (.int 1)) (.blt .len [.var 0]) (.var 1))]) [.ret (.lit (.bl false))] [],
  .sif (.no (.asB (.blt .all [.lc [3] (.name 3) (.any (.var 0)) (.yes) (.ofT (.all [.asB (.isI "tuple" (.var 3)), .cmp .Eq (.blt .len [.var 3]) (.var 2), .asB (.fn 1 [.ix (.var 3) (.lit (.int 0))])]))]))) [.ret (.lit (.bl false))] [],
  .ret (.blt .all [.lc [4] (.name 4) (.rng (.bin .Sub (.blt .len [.var 0]) (.lit (.int 1)))) (.yes) (.ofT (.cmp .Lt (.ix (.ix (.var 0) (.var 4)) (.lit (.int 0))) (.ix (.ix (.var 0) (.bin .Add (.var 4) (.lit (.int 1)))) (.lit (.int 0)))))])]
def n3 : List Str := ["thing", "most", "parts", "row", "k"]
def d3 : DefC := ⟨"are_rows", "are_rows", n3, [false, false, false], c3⟩
/-- are_strands -/
def c4 : List Cd := [
  .sif (.one [.no (.asB (.isI "tuple" (.var 0))), .cmp .NotEq (.blt .len [.var 0]) (.var 1)]) [.ret (.lit (.bl false))] [],
  .sfor (.name 2) (.any (.var 0)) [.sif (.one [.no (.asB (.isI "tuple" (.var 2))), .cmp .NotEq (.blt .len [.var 2]) (.lit (.int 2)), .no (.asB (.blt .all [.lc [3] (.name 3) (.any (.var 2)) (.yes) (.fn 2 [.var 3, .lit (.int 0), .glo 1])]))]) [.ret (.lit (.bl false))] []],
  .ret (.blt .any [.lc [2] (.name 2) (.any (.var 0)) (.yes) (.ofT (.cmp .NotEq (.var 2) (.tup [.lit (.int 0), .lit (.int 0)])))])]
def n4 : List Str := ["thing", "many", "pair", "one"]
def d4 : DefC := ⟨"are_strands", "are_strands", n4, [false, false], c4⟩
/-- is_hall -/
def c5 : List Cd := [
  .sif (.one [.no (.asB (.isI "tuple" (.var 0))), .cmp .NotEq (.blt .len [.var 0]) (.lit (.int 2))]) [.ret (.lit (.bl false))] [],
  .asg (.tup [1, 2]) (.var 0),
  .sif (.one [.no (.asB (.fn 3 [.var 1, .glo 2, .lit (.int 3)])), .no (.asB (.fn 3 [.var 2, .glo 3, .lit (.int 2)]))]) [.ret (.lit (.bl false))] [],
  .sif (.no (.asB (.blt .all [.lc [3, 4, 5] (.tup [3, 4, 5]) (.any (.var 1)) (.yes) (.ofT (.all [.asB (.fn 2 [.var 4, .lit (.int 1), .glo 4]), .asB (.fn 2 [.var 5, .lit (.int 1), .glo 5])]))]))) [.ret (.lit (.bl false))] [],
  .ret (.blt .all [.lc [3, 6] (.tup [3, 6]) (.any (.var 2)) (.yes) (.fn 4 [.var 6, .blt .len [.var 1]])])]
def n5 : List Str := ["thing", "cars", "ropes", "name", "long", "rub", "strands"]
def d5 : DefC := ⟨"is_hall", "is_hall", n5, [false], c5⟩
/-- _law_well -/
def c6 : List Cd := [
  .set 2 (.lit (.int 0)),
  .sif (.cmp .Lt (.var 1) (.blt .len [.var 0])) [.set 2 (.ix (.var 0) (.var 1))] [],
  .set 3 (.lst [.lit (.int 2147483647), .lit (.int 2147483629), .lit (.int 2147483587), .lit (.int 2147483579), .lit (.int 2147483563), .lit (.int 2147483549), .lit (.int 2147483543), .lit (.int 2147483497)]),
  .set 4 (.bin .Mod (.bin .Mult (.bin .Add (.bin .Mod (.var 2) (.lit (.int 2147483489))) (.lit (.int 1))) (.bin .Add (.lit (.int 48271)) (.bin .Mult (.lit (.int 2)) (.var 1)))) (.lit (.int 2147483489))),
  .set 4 (.bin .Add (.bin .Add (.bin .Mod (.bin .Mult (.var 4) (.var 4)) (.lit (.int 2147483477))) (.var 1)) (.lit (.int 1))),
  .sif (.cmp .GtE (.var 2) (.bin .Pow (.lit (.int 10)) (.lit (.int 18)))) [.ret (.lst [.var 2, .var 4, .ix (.var 3) (.bin .Mod (.var 1) (.lit (.int 8)))])] [],
  .ret (.lst [.lit (.int 0), .var 4, .ix (.var 3) (.bin .Mod (.var 1) (.lit (.int 8)))])]
def n6 : List Str := ["script", "k", "cell", "primes", "seed"]
def d6 : DefC := ⟨"_law_well", "_law_well", n6, [false, false], c6⟩
/-- _law_take -/
def c7 : List Cd := [
  .sif (.cmp .Gt (.ix (.var 0) (.lit (.int 0))) (.lit (.int 0))) [.set 2 (.bin .Mod (.ix (.var 0) (.lit (.int 0))) (.var 1)), .sub 0 (.lit (.int 0)) (.bin .FloorDiv (.ix (.var 0) (.lit (.int 0))) (.var 1)), .ret (.move 2)] [],
  .sub 0 (.lit (.int 1)) (.bin .Add (.bin .Mod (.bin .Mult (.ix (.var 0) (.lit (.int 1))) (.lit (.int 48271))) (.ix (.var 0) (.lit (.int 2)))) (.lit (.int 1))),
  .ret (.bin .Mod (.bin .FloorDiv (.bin .Mod (.bin .Mult (.ix (.var 0) (.lit (.int 1))) (.ix (.var 0) (.lit (.int 1)))) (.lit (.int 2147483423))) (.lit (.int 7))) (.var 1))]
def n7 : List Str := ["well", "many", "drew"]
def d7 : DefC := ⟨"_law_take", "_law_take", n7, [true, false], c7⟩
/-- _law_is_int -/
def c8 : List Cd := [
  .ret (.ofT (.all [.asB (.isI "int" (.var 0)), .no (.asB (.isI "bool" (.var 0))), .cmp .LtE (.var 1) (.var 0), .cmp .LtE (.var 0) (.var 2)]))]
def n8 : List Str := ["thing", "low", "high"]
def d8 : DefC := ⟨"_law_is_int", "_law_is_int", n8, [false, false, false], c8⟩
/-- _law_says -/
def c9 : List Cd := [
  .ret (.ofT (.all [.asB (.isI "bool" (.var 0)), .cmp .Eq (.var 0) (.var 1)]))]
def n9 : List Str := ["found", "due"]
def d9 : DefC := ⟨"_law_says", "_law_says", n9, [false, false], c9⟩
/-- _law_thing -/
def c10 : List Cd := [
  .set 2 (.fn 7 [.ref 0, .lit (.int 9)]),
  .sif (.one [.cmp .Lt (.var 2) (.lit (.int 6)), .cmp .Eq (.var 1) (.lit (.int 0))]) [.set 3 (.lst [.lit (.int 0), .neg (.lit (.int 1)), .lit (.int 1), .lit (.bl true), .lit (.bl false), .lit .non, .lit (.str ""), .lit (.str "a"), .lit (.str "ab"), .lit (.str "A"), .lit (.str "a b"), .lit (.str "abcdefghi"), .lit (.int 2), .lit (.int 3), .neg (.lit (.int 7)), .lit (.str "take"), .bin .Pow (.lit (.int 10)) (.lit (.int 11)), .lit (.int 8)]), .ret (.ix (.bin .Add (.var 3) (.lst [.tup [], .lst [], .tup [.lit (.int 0), .lit (.int 1)]])) (.fn 7 [.ref 0, .lit (.int 21)]))] [],
  .set 5 (.lc [4] (.name 4) (.rng (.fn 7 [.ref 0, .lit (.int 6)])) (.yes) (.fn 10 [.ref 0, .bin .Sub (.var 1) (.lit (.int 1))])),
  .ret (.ix (.lst [.var 5, .blt .tuple [.var 5], .blt .tuple [.var 5]]) (.bin .Sub (.var 2) (.lit (.int 6))))]
def n10 : List Str := ["well", "deep", "way", "some", "k", "parts"]
def d10 : DefC := ⟨"_law_thing", "_law_thing", n10, [true, false], c10⟩
/-- _law_otherwise -/
def c11 : List Cd := [
  .set 3 (.blt .list [.var 1]),
  .sif (.cmp .Eq (.var 3) (.lst [])) [.ret (.tup [.fn 10 [.ref 0, .lit (.int 1)]])] [],
  .set 4 (.fn 7 [.ref 0, .blt .len [.var 3]]),
  .sif (.all [.asB (.isI "tuple" (.ix (.var 3) (.var 4))), .cmp .Gt (.var 2) (.lit (.int 0)), .cmp .Gt (.fn 7 [.ref 0, .lit (.int 4)]) (.lit (.int 0))]) [.sub 3 (.var 4) (.fn 11 [.ref 0, .ix (.var 3) (.var 4), .bin .Sub (.var 2) (.lit (.int 1))]), .ret (.blt .tuple [.var 3])] [],
  .set 5 (.fn 7 [.ref 0, .lit (.int 9)]),
  .sif (.cmp .Eq (.var 5) (.lit (.int 0))) [.expr (.mth .pop 3 [.var 4])] [.sif (.cmp .Eq (.var 5) (.lit (.int 1))) [.expr (.mth .insert 3 [.var 4, .ix (.var 3) (.var 4)])] [.sif (.cmp .Eq (.var 5) (.lit (.int 2))) [.ssl 3 (.var 4) (.bin .Add (.var 4) (.lit (.int 2))) (.rev (.sl (.var 3) (some (.var 4)) (some (.bin .Add (.var 4) (.lit (.int 2))))))] [.sif (.cmp .Eq (.var 5) (.lit (.int 3))) [.sub 3 (.var 4) (.fn 10 [.ref 0, .lit (.int 2)])] [.sif (.one [.cmp .Eq (.var 5) (.lit (.int 4)), .cmp .Eq (.var 5) (.lit (.int 5))]) [.set 6 (.lst [.lit (.int 0), .lit (.int 1), .neg (.lit (.int 1)), .lit (.int 2), .lit (.int 8), .lit (.int 9), .lit (.int 200), .lit (.int 201), .lit (.int 400), .lit (.int 401), .lit .non, .lit (.bl true), .lit (.bl false), .lit (.str "a"), .tup [], .tup [.lit (.int 1), .lit (.int 1)], .tup [.lit (.int 2), .lit (.int 4)], .tup [.lit (.int 0), .lit (.int 1)], .lit (.int 7), .lit (.str "cut")]), .sub 3 (.var 4) (.ix (.var 6) (.fn 7 [.ref 0, .lit (.int 20)]))] [.sif (.all [.cmp .Eq (.var 5) (.lit (.int 6)), .asB (.isI "int" (.ix (.var 3) (.var 4))), .no (.asB (.isI "bool" (.ix (.var 3) (.var 4))))]) [.sub 3 (.var 4) (.bin .Add (.ix (.var 3) (.var 4)) (.ix (.lst [.lit (.int 1), .neg (.lit (.int 1)), .lit (.int 8), .neg (.lit (.int 12))]) (.fn 7 [.ref 0, .lit (.int 4)])))] [.sif (.all [.cmp .Eq (.var 5) (.lit (.int 7)), .asB (.isI "tuple" (.ix (.var 3) (.var 4)))]) [.sub 3 (.var 4) (.blt .list [.ix (.var 3) (.var 4)])] [.sif (.all [.cmp .Eq (.var 5) (.lit (.int 8)), .asB (.isI "str" (.ix (.var 3) (.var 4)))]) [.sub 3 (.var 4) (.bin .Add (.ix (.var 3) (.var 4)) (.ix (.lst [.lit (.str "a"), .lit (.str "A"), .lit (.str " "), .lit (.str "bbbbbbbb")]) (.fn 7 [.ref 0, .lit (.int 4)])))] [.ret (.move 3)]]]]]]]],
  .ret (.blt .tuple [.var 3])]
def n11 : List Str := ["well", "thing", "deep", "parts", "at", "way", "near"]
def d11 : DefC := ⟨"_law_otherwise", "_law_otherwise", n11, [true, false, false], c11⟩
/-- _law_hall -/
def c12 : List Cd := [
  .par [3, 4] [.lst [], .lst []],
  .sfor (.name 5) (.any (.sl (.lst [.lit (.str "a"), .lit (.str "bo"), .lit (.str "car")]) none (some (.bin .Add (.lit (.int 1)) (.fn 7 [.ref 0, .var 1]))))) [.set 6 (.bin .Add (.lit (.int 1)) (.fn 7 [.ref 0, .ix (.lst [.lit (.int 4), .lit (.int 12), .lit (.int 60)]) (.fn 7 [.ref 0, .lit (.int 3)])])), .expr (.mth .append 3 [.tup [.var 5, .var 6, .bin .Add (.lit (.int 1)) (.fn 7 [.ref 0, .ix (.lst [.lit (.int 3), .lit (.int 30)]) (.fn 7 [.ref 0, .lit (.int 2)])])]])],
  .set 7 (.lst [.tup [.lit (.int 0), .lit (.int 0)], .tup [.lit (.int 1), .lit (.int 0)], .tup [.lit (.int 0), .lit (.int 1)], .tup [.lit (.int 2), .lit (.int 0)], .tup [.lit (.int 1), .lit (.int 1)], .tup [.lit (.int 0), .lit (.int 2)], .tup [.lit (.int 1), .lit (.int 3)], .tup [.lit (.int 4), .lit (.int 0)], .tup [.lit (.int 2), .lit (.int 1)], .tup [.lit (.int 0), .lit (.int 0)]]),
  .sfor (.name 5) (.any (.sl (.lst [.lit (.str "r"), .lit (.str "sam"), .lit (.str "t")]) none (some (.bin .Add (.lit (.int 1)) (.fn 7 [.ref 0, .var 2]))))) [.set 9 (.lc [8] (.name 8) (.any (.var 3)) (.yes) (.ix (.var 7) (.fn 7 [.ref 0, .lit (.int 10)]))), .sif (.cmp .Eq (.lcO [10] (.name 10) 9 (.cmp .NotEq (.var 10) (.tup [.lit (.int 0), .lit (.int 0)])) (.var 10)) (.lst [])) [.sub 9 (.lit (.int 0)) (.tup [.lit (.int 1), .lit (.int 0)])] [], .expr (.mth .append 4 [.tup [.var 5, .blt .tuple [.var 9]]])],
  .ret (.tup [.blt .tuple [.var 3], .blt .tuple [.var 4]])]
def n12 : List Str := ["well", "cars", "ropes", "found", "lines", "name", "long", "some", "car", "strands", "pair"]
def d12 : DefC := ⟨"_law_hall", "_law_hall", n12, [true, false, false], c12⟩
/-- _law_is_name -/
def c13 : List Cd := [
  .sif (.one [.no (.asB (.isI "str" (.var 0))), .no (.chain .LtE .LtE (.lit (.int 1)) (.blt .len [.var 0]) (.lit (.int 8)))]) [.ret (.lit (.bl false))] [],
  .ret (.ofT (.cmp .Eq (.lc [1] (.name 1) (.any (.var 0)) (.cmp .NotIn (.var 1) (.lit (.str "abcdefghijklmnopqrstuvwxyz"))) (.var 1)) (.lst [])))]
def n13 : List Str := ["thing", "sign"]
def d13 : DefC := ⟨"_law_is_name", "_law_is_name", n13, [false], c13⟩
/-- _law_are_rows -/
def c14 : List Cd := [
  .sif (.one [.no (.asB (.isI "tuple" (.var 0))), .no (.chain .LtE .LtE (.lit (.int 1)) (.blt .len [.var 0]) (.lit (.int 3)))]) [.ret (.lit (.bl false))] [],
  .set 2 (.lst []),
  .sfor (.name 3) (.any (.var 0)) [.sif (.one [.no (.asB (.isI "tuple" (.var 3))), .cmp .NotEq (.blt .len [.var 3]) (.var 1), .no (.asB (.fn 13 [.ix (.var 3) (.lit (.int 0))]))]) [.ret (.lit (.bl false))] [], .expr (.mth .append 2 [.ix (.var 3) (.lit (.int 0))])],
  .ret (.ofT (.cmp .Eq (.var 2) (.sset (.var 2))))]
def n14 : List Str := ["thing", "parts", "names", "row"]
def d14 : DefC := ⟨"_law_are_rows", "_law_are_rows", n14, [false, false], c14⟩
/-- _law_is_hall -/
def c15 : List Cd := [
  .sif (.one [.no (.asB (.isI "tuple" (.var 0))), .cmp .NotEq (.blt .len [.var 0]) (.lit (.int 2))]) [.ret (.lit (.bl false))] [],
  .sif (.one [.no (.asB (.fn 14 [.ix (.var 0) (.lit (.int 0)), .lit (.int 3)])), .no (.asB (.fn 14 [.ix (.var 0) (.lit (.int 1)), .lit (.int 2)]))]) [.ret (.lit (.bl false))] [],
  .sfor (.tup [1, 2, 3]) (.any (.ix (.var 0) (.lit (.int 0)))) [.sif (.one [.no (.asB (.fn 8 [.var 2, .lit (.int 1), .lit (.int 60)])), .no (.asB (.fn 8 [.var 3, .lit (.int 1), .lit (.int 30)]))]) [.ret (.lit (.bl false))] []],
  .sfor (.tup [1, 4]) (.any (.ix (.var 0) (.lit (.int 1)))) [.sif (.one [.no (.asB (.isI "tuple" (.var 4))), .cmp .NotEq (.blt .len [.var 4]) (.blt .len [.ix (.var 0) (.lit (.int 0))])]) [.ret (.lit (.bl false))] [], .sfor (.name 5) (.any (.var 4)) [.sif (.one [.no (.asB (.isI "tuple" (.var 5))), .cmp .NotEq (.blt .len [.var 5]) (.lit (.int 2))]) [.ret (.lit (.bl false))] [], .sif (.cmp .NotEq (.lc [6] (.name 6) (.any (.var 5)) (.no (.asB (.fn 8 [.var 6, .lit (.int 0), .lit (.int 4)]))) (.var 6)) (.lst [])) [.ret (.lit (.bl false))] []], .sif (.cmp .Eq (.var 4) (.bin .Mult (.tup [.tup [.lit (.int 0), .lit (.int 0)]]) (.blt .len [.var 4]))) [.ret (.lit (.bl false))] []],
  .ret (.lit (.bl true))]
def n15 : List Str := ["thing", "name", "long", "rub", "strands", "pair", "one"]
def d15 : DefC := ⟨"_law_is_hall", "_law_is_hall", n15, [false], c15⟩
/-- law -/
def c16 : List Cd := [
  .sfor (.name 1) (.rng (.blt .max [.lit (.int 6), .blt .min [.lit (.int 50), .blt .len [.var 0]]])) [.set 2 (.fn 6 [.var 0, .var 1]), .set 3 (.fn 12 [.ref 2, .lit (.int 3), .lit (.int 3)]), .asg (.tup [4, 5]) (.var 3), .asg (.tup [6, 7, 8]) (.ix (.var 4) (.lit (.int 0))), .set 9 (.lst [.var 3, .tup [.var 4, .tup []], .tup [.tup [], .var 5], .tup [.rev (.var 4), .var 5], .tup [.var 4, .bin .Add (.var 5) (.sl (.var 5) (some (.neg (.lit (.int 1)))) none)], .blt .list [.var 3], .tup [.var 4]]), .sfor (.tup [10, 11]) (.any (.lst [.tup [.lit (.int 60), .lit (.int 30)], .tup [.lit (.int 61), .lit (.int 30)], .tup [.lit (.int 60), .lit (.int 31)], .tup [.lit (.int 0), .lit (.int 1)], .tup [.lit (.int 1), .lit (.int 0)], .tup [.lit (.int 1), .lit (.int 1)], .tup [.lit (.bl true), .lit (.int 1)]])) [.expr (.mth .append 9 [.tup [.bin .Add (.tup [.tup [.var 6, .var 10, .var 11]]) (.sl (.var 4) (some (.lit (.int 1))) none), .var 5]])], .sfor (.name 12) (.any (.lst [.tup [.lit (.int 4), .lit (.int 4)], .tup [.lit (.int 5), .lit (.int 0)], .tup [.lit (.int 0), .lit (.int 5)], .tup [.neg (.lit (.int 1)), .lit (.int 0)], .tup [.lit (.int 0), .lit (.bl true)]])) [.expr (.mth .append 9 [.tup [.var 4, .bin .Add (.tup [.tup [.ix (.ix (.var 5) (.lit (.int 0))) (.lit (.int 0)), .bin .Mult (.tup [.var 12]) (.blt .len [.var 4])]]) (.sl (.var 5) (some (.lit (.int 1))) none)]])], .set 13 (.bin .Add (.lit (.int 2)) (.fn 7 [.ref 2, .lit (.int 3)])), .set 15 (.blt .tuple [.lc [14] (.name 14) (.rng (.var 13)) (.yes) (.tup [.ix (.lit (.str "abcd")) (.var 14), .lit (.int 9), .lit (.int 1)])]), .expr (.mth .append 9 [.tup [.var 15, .tup [.tup [.lit (.str "r"), .bin .Add (.bin .Mult (.tup [.tup [.lit (.int 0), .lit (.int 0)]]) (.bin .Sub (.var 13) (.lit (.int 1)))) (.tup [.tup [.lit (.int 0), .fn 7 [.ref 2, .lit (.int 2)]]])]]]]), .expr (.mth .append 9 [.tup [.var 4, .blt .tuple [.lc [14] (.name 14) (.rng (.var 13)) (.yes) (.tup [.ix (.lit (.str "abcd")) (.var 14), .ix (.ix (.var 5) (.lit (.int 0))) (.lit (.int 1))])]]]), .set 9 (.bin .Add (.var 9) (.lst [.fn 11 [.ref 2, .var 3, .lit (.int 4)], .fn 11 [.ref 2, .var 3, .lit (.int 3)], .fn 10 [.ref 2, .lit (.int 3)]])), .sfor (.name 16) (.any (.var 9)) [.sif (.no (.asB (.fn 9 [.fn 5 [.var 16], .fn 15 [.var 16]]))) [.ret (.lit (.bl false))] []]],
  .ret (.lit (.bl true))]
def n16 : List Str := ["script", "k", "well", "good", "cars", "ropes", "name", "long", "rub", "some", "far", "tough", "pair", "many", "at", "wide", "thing"]
def d16 : DefC := ⟨"law", "law", n16, [false], c16⟩
def ds : List DefC := [d0, d1, d2, d3, d4, d5, d6, d7, d8, d9, d10, d11, d12, d13, d14, d15, d16]
theorem p0 : PreD tb "is_whole" (top 1) n0 ["thing"] [false] c0 := ⟨⟨rfl, rfl, rfl, by decide +kernel, rfl, by decide +kernel, by decide +kernel⟩, rfl, by decide +kernel, fun _ _ _ _ _ _ us hl => match us, hl with | [_], _ => rfl⟩
theorem p1 : PreD tb "is_name" (top 9) n1 ["thing"] [false] c1 := ⟨⟨rfl, rfl, rfl, by decide +kernel, rfl, by decide +kernel, by decide +kernel⟩, rfl, by decide +kernel, fun _ _ _ _ _ _ us hl => match us, hl with | [_], _ => rfl⟩
theorem p2 : PreD tb "is_from" (top 10) n2 ["thing", "low", "high"] [false, false, false] c2 := ⟨⟨rfl, rfl, rfl, by decide +kernel, rfl, by decide +kernel, by decide +kernel⟩, rfl, by decide +kernel, fun _ _ _ _ _ _ us hl => match us, hl with | [_, _, _], _ => rfl⟩
theorem p3 : PreD tb "are_rows" (top 11) n3 ["thing", "most", "parts"] [false, false, false] c3 := ⟨⟨rfl, rfl, rfl, by decide +kernel, rfl, by decide +kernel, by decide +kernel⟩, rfl, by decide +kernel, fun _ _ _ _ _ _ us hl => match us, hl with | [_, _, _], _ => rfl⟩
theorem p4 : PreD tb "are_strands" (top 12) n4 ["thing", "many"] [false, false] c4 := ⟨⟨rfl, rfl, rfl, by decide +kernel, rfl, by decide +kernel, by decide +kernel⟩, rfl, by decide +kernel, fun _ _ _ _ _ _ us hl => match us, hl with | [_, _], _ => rfl⟩
theorem p5 : PreD tb "is_hall" (top 13) n5 ["thing"] [false] c5 := ⟨⟨rfl, rfl, rfl, by decide +kernel, rfl, by decide +kernel, by decide +kernel⟩, rfl, by decide +kernel, fun _ _ _ _ _ _ us hl => match us, hl with | [_], _ => rfl⟩
theorem p6 : PreD tb "_law_well" (top 15) n6 ["script", "k"] [false, false] c6 := ⟨⟨rfl, rfl, rfl, by decide +kernel, rfl, by decide +kernel, by decide +kernel⟩, rfl, by decide +kernel, fun _ _ _ _ _ _ us hl => match us, hl with | [_, _], _ => rfl⟩
theorem p7 : PreD tb "_law_take" (top 16) n7 ["well", "many"] [true, false] c7 := ⟨⟨rfl, rfl, rfl, by decide +kernel, rfl, by decide +kernel, by decide +kernel⟩, rfl, by decide +kernel, fun _ _ _ _ _ _ us hl => match us, hl with | [_, _], _ => rfl⟩
theorem p8 : PreD tb "_law_is_int" (top 17) n8 ["thing", "low", "high"] [false, false, false] c8 := ⟨⟨rfl, rfl, rfl, by decide +kernel, rfl, by decide +kernel, by decide +kernel⟩, rfl, by decide +kernel, fun _ _ _ _ _ _ us hl => match us, hl with | [_, _, _], _ => rfl⟩
theorem p9 : PreD tb "_law_says" (top 18) n9 ["found", "due"] [false, false] c9 := ⟨⟨rfl, rfl, rfl, by decide +kernel, rfl, by decide +kernel, by decide +kernel⟩, rfl, by decide +kernel, fun _ _ _ _ _ _ us hl => match us, hl with | [_, _], _ => rfl⟩
theorem p10 : PreD tb "_law_thing" (top 19) n10 ["well", "deep"] [true, false] c10 := ⟨⟨rfl, rfl, rfl, by decide +kernel, rfl, by decide +kernel, by decide +kernel⟩, rfl, by decide +kernel, fun _ _ _ _ _ _ us hl => match us, hl with | [_, _], _ => rfl⟩
theorem p11 : PreD tb "_law_otherwise" (top 20) n11 ["well", "thing", "deep"] [true, false, false] c11 := ⟨⟨rfl, rfl, rfl, by decide +kernel, rfl, by decide +kernel, by decide +kernel⟩, rfl, by decide +kernel, fun _ _ _ _ _ _ us hl => match us, hl with | [_, _, _], _ => rfl⟩
theorem p12 : PreD tb "_law_hall" (top 21) n12 ["well", "cars", "ropes"] [true, false, false] c12 := ⟨⟨rfl, rfl, rfl, by decide +kernel, rfl, by decide +kernel, by decide +kernel⟩, rfl, by decide +kernel, fun _ _ _ _ _ _ us hl => match us, hl with | [_, _, _], _ => rfl⟩
theorem p13 : PreD tb "_law_is_name" (top 22) n13 ["thing"] [false] c13 := ⟨⟨rfl, rfl, rfl, by decide +kernel, rfl, by decide +kernel, by decide +kernel⟩, rfl, by decide +kernel, fun _ _ _ _ _ _ us hl => match us, hl with | [_], _ => rfl⟩
theorem p14 : PreD tb "_law_are_rows" (top 23) n14 ["thing", "parts"] [false, false] c14 := ⟨⟨rfl, rfl, rfl, by decide +kernel, rfl, by decide +kernel, by decide +kernel⟩, rfl, by decide +kernel, fun _ _ _ _ _ _ us hl => match us, hl with | [_, _], _ => rfl⟩
theorem p15 : PreD tb "_law_is_hall" (top 24) n15 ["thing"] [false] c15 := ⟨⟨rfl, rfl, rfl, by decide +kernel, rfl, by decide +kernel, by decide +kernel⟩, rfl, by decide +kernel, fun _ _ _ _ _ _ us hl => match us, hl with | [_], _ => rfl⟩
theorem p16 : PreD tb "law" (top 25) n16 ["script"] [false] c16 := ⟨⟨rfl, rfl, rfl, by decide +kernel, rfl, by decide +kernel, by decide +kernel⟩, rfl, by decide +kernel, fun _ _ _ _ _ _ us hl => match us, hl with | [_], _ => rfl⟩
theorem r0 {n : Nat} {os : List O} : calls tb ds (n + 1) 0 os = runDef 1 [false] (sSeq (rnSs tb [] (calls tb ds n) c0)) os := rfl
theorem r1 {n : Nat} {os : List O} : calls tb ds (n + 1) 1 os = runDef 2 [false] (sSeq (rnSs tb [] (calls tb ds n) c1)) os := rfl
theorem r2 {n : Nat} {os : List O} : calls tb ds (n + 1) 2 os = runDef 3 [false, false, false] (sSeq (rnSs tb [] (calls tb ds n) c2)) os := rfl
theorem r3 {n : Nat} {os : List O} : calls tb ds (n + 1) 3 os = runDef 5 [false, false, false] (sSeq (rnSs tb [] (calls tb ds n) c3)) os := rfl
theorem r4 {n : Nat} {os : List O} : calls tb ds (n + 1) 4 os = runDef 4 [false, false] (sSeq (rnSs tb [] (calls tb ds n) c4)) os := rfl
theorem r5 {n : Nat} {os : List O} : calls tb ds (n + 1) 5 os = runDef 7 [false] (sSeq (rnSs tb [] (calls tb ds n) c5)) os := rfl
theorem r6 {n : Nat} {os : List O} : calls tb ds (n + 1) 6 os = runDef 5 [false, false] (sSeq (rnSs tb [] (calls tb ds n) c6)) os := rfl
theorem r7 {n : Nat} {os : List O} : calls tb ds (n + 1) 7 os = runDef 3 [true, false] (sSeq (rnSs tb [0] (calls tb ds n) c7)) os := rfl
theorem r8 {n : Nat} {os : List O} : calls tb ds (n + 1) 8 os = runDef 3 [false, false, false] (sSeq (rnSs tb [] (calls tb ds n) c8)) os := rfl
theorem r9 {n : Nat} {os : List O} : calls tb ds (n + 1) 9 os = runDef 2 [false, false] (sSeq (rnSs tb [] (calls tb ds n) c9)) os := rfl
theorem r10 {n : Nat} {os : List O} : calls tb ds (n + 1) 10 os = runDef 6 [true, false] (sSeq (rnSs tb [0] (calls tb ds n) c10)) os := rfl
theorem r11 {n : Nat} {os : List O} : calls tb ds (n + 1) 11 os = runDef 7 [true, false, false] (sSeq (rnSs tb [0] (calls tb ds n) c11)) os := rfl
theorem r12 {n : Nat} {os : List O} : calls tb ds (n + 1) 12 os = runDef 11 [true, false, false] (sSeq (rnSs tb [0] (calls tb ds n) c12)) os := rfl
theorem r13 {n : Nat} {os : List O} : calls tb ds (n + 1) 13 os = runDef 2 [false] (sSeq (rnSs tb [] (calls tb ds n) c13)) os := rfl
theorem r14 {n : Nat} {os : List O} : calls tb ds (n + 1) 14 os = runDef 4 [false, false] (sSeq (rnSs tb [] (calls tb ds n) c14)) os := rfl
theorem r15 {n : Nat} {os : List O} : calls tb ds (n + 1) 15 os = runDef 7 [false] (sSeq (rnSs tb [] (calls tb ds n) c15)) os := rfl
theorem r16 {n : Nat} {os : List O} : calls tb ds (n + 1) 16 os = runDef 17 [false] (sSeq (rnSs tb [] (calls tb ds n) c16)) os := rfl
theorem gl0 : globOf tb 0 = xLit (.str "abcdefghijklmnopqrstuvwxyz") := rfl
theorem gl1 : globOf tb 1 = xLit (.int 4) := rfl
theorem gl2 : globOf tb 2 = xLit (.int 3) := rfl
theorem gl3 : globOf tb 3 = xLit (.int 3) := rfl
theorem gl4 : globOf tb 4 = xLit (.int 60) := rfl
theorem gl5 : globOf tb 5 = xLit (.int 30) := rfl
end LR

set_option Elab.async false
set_option linter.all false
set_option maxRecDepth 100000
set_option maxHeartbeats 4000000
namespace LR
open PySem PySem.Spec PyProof.Rows L2

/-! ### plain things -/
def pStr (b : Nat) (s : Str) : Bool := decide (s.length ≤ b) && PyData.strOk s
mutual
def Pl (b : Nat) : Nat → D → Bool
  | _, .non => true
  | _, .bl _ => true
  | _, .int _ => true
  | _, .str s => pStr b s
  | n + 1, .tup l => decide (l.length ≤ b) && Pls b n l
  | n + 1, .lst l => decide (l.length ≤ b) && Pls b n l
  | _, _ => false
def Pls (b : Nat) : Nat → List D → Bool
  | _, [] => true
  | n, d :: l => Pl b n d && Pls b n l
end
theorem pls_iff {b n : Nat} : ∀ {l : List D}, Pls b n l = true ↔ ∀ d ∈ l, Pl b n d = true
  | [] => by simp [Pls]
  | d :: l => by simp [Pls, pls_iff]
theorem pStr_mono {b c : Nat} {s : Str} (hb : b ≤ c) (h : pStr b s = true) : pStr c s = true := by
  unfold pStr at h ⊢
  rw [Bool.and_eq_true, decide_eq_true_eq] at h ⊢
  exact ⟨by omega, h.2⟩
mutual
theorem pl_mono {b c : Nat} (hb : b ≤ c) : ∀ {n m : Nat} {d : D}, n ≤ m → Pl b n d = true → Pl c m d = true
  | _, m, .non, _, _ => by cases m <;> rfl
  | _, m, .bl _, _, _ => by cases m <;> rfl
  | _, m, .int _, _, _ => by cases m <;> rfl
  | n, m, .str s, _, h => by
    cases n <;> cases m <;> exact pStr_mono hb h
  | n + 1, m + 1, .tup l, hm, h => by
    unfold Pl at h ⊢
    rw [Bool.and_eq_true, decide_eq_true_eq] at h ⊢
    exact ⟨by omega, pls_mono hb (Nat.le_of_succ_le_succ hm) h.2⟩
  | n + 1, m + 1, .lst l, hm, h => by
    unfold Pl at h ⊢
    rw [Bool.and_eq_true, decide_eq_true_eq] at h ⊢
    exact ⟨by omega, pls_mono hb (Nat.le_of_succ_le_succ hm) h.2⟩
  | n + 1, 0, .tup l, hm, h => by omega
  | n + 1, 0, .lst l, hm, h => by omega
  | 0, _, .tup l, _, h => by cases h
  | 0, _, .lst l, _, h => by cases h
  | 0, _, .scr _, _, h => by cases h
  | _ + 1, _, .scr _, _, h => by cases h
  | 0, _, .dK _ _, _, h => by cases h
  | _ + 1, _, .dK _ _, _, h => by cases h
theorem pls_mono {b c : Nat} (hb : b ≤ c) : ∀ {n m : Nat} {l : List D}, n ≤ m → Pls b n l = true → Pls c m l = true
  | n, m, [], _, _ => by unfold Pls; rfl
  | n, m, d :: l, hm, h => by
    unfold Pls at h ⊢
    rw [Bool.and_eq_true] at h ⊢
    exact ⟨pl_mono hb hm h.1, pls_mono hb hm h.2⟩
end
mutual
theorem pl_deep {b : Nat} (hb : b ≤ 60) : ∀ {n : Nat} {d : D}, Pl b n d = true → d.deep n = true
  | 0, .non, _ => rfl
  | _ + 1, .non, _ => rfl
  | 0, .bl _, _ => rfl
  | _ + 1, .bl _, _ => rfl
  | 0, .int _, _ => rfl
  | _ + 1, .int _, _ => rfl
  | 0, .str s, h => (Bool.and_eq_true_iff.mp h).2
  | _ + 1, .str s, h => (Bool.and_eq_true_iff.mp h).2
  | n + 1, .tup l, h => by
    unfold Pl at h
    rw [Bool.and_eq_true, decide_eq_true_eq] at h
    unfold D.deep
    rw [Bool.and_eq_true]
    exact ⟨decide_eq_true (by omega), pls_deep hb h.2⟩
  | n + 1, .lst l, h => by
    unfold Pl at h
    rw [Bool.and_eq_true, decide_eq_true_eq] at h
    unfold D.deep
    rw [Bool.and_eq_true]
    exact ⟨decide_eq_true (by omega), pls_deep hb h.2⟩
  | 0, .tup l, h => by cases h
  | 0, .lst l, h => by cases h
  | 0, .scr _, h => by cases h
  | _ + 1, .scr _, h => by cases h
  | 0, .dK _ _, h => by cases h
  | _ + 1, .dK _ _, h => by cases h
theorem pls_deep {b : Nat} (hb : b ≤ 60) : ∀ {n : Nat} {l : List D}, Pls b n l = true → D.deeps n l = true
  | n, [], _ => by unfold D.deeps; rfl
  | n, d :: l, h => by
    unfold Pls at h
    rw [Bool.and_eq_true] at h
    unfold D.deeps
    rw [Bool.and_eq_true]
    exact ⟨pl_deep hb h.1, pls_deep hb h.2⟩
end

/-! ### mirrors -/
def yInt (d : D) (lo hi : Int) : Bool := match d with
  | .int i => decide (lo ≤ i) && decide (i ≤ hi)
  | _ => false
def yWhole : D → Bool
  | .int _ => true
  | _ => false
def letters : List Nat := ("abcdefghijklmnopqrstuvwxyz" : Str).cps.toList
def yName : D → Bool
  | .str s => decide (1 ≤ s.length) && decide (s.length ≤ 8) && s.cps.toList.all fun c => decide (c ∈ letters)
  | _ => false
theorem isI_tup {n : Nat} {d : D} (h : Pl 60 n d = true) : isI "tuple" d = some (match d with | .tup _ => true | _ => false) := by
  cases d <;> first
    | rfl
    | (cases n <;> cases h)
theorem isI_int {n : Nat} {d : D} (h : Pl 60 n d = true) : isI "int" d = some (match d with | .int _ => true | .bl _ => true | _ => false) := by
  cases d <;> first
    | rfl
    | (cases n <;> cases h)
theorem isI_bool {n : Nat} {d : D} (h : Pl 60 n d = true) : isI "bool" d = some (match d with | .bl _ => true | _ => false) := by
  cases d <;> first
    | rfl
    | (cases n <;> cases h)
theorem isI_str {n : Nat} {d : D} (h : Pl 60 n d = true) : isI "str" d = some (match d with | .str _ => true | _ => false) := by
  cases d <;> first
    | rfl
    | (cases n <;> cases h)
theorem up1 {L n : Nat} (h : L + 1 ≤ n) : ∃ m, n = m + 1 ∧ L ≤ m := ⟨n - 1, by omega, by omega⟩
/-- is_whole -/
theorem whole_ok {n p : Nat} {d : D} (hn : 1 ≤ n) (h : Pl 60 p d = true) : calls tb ds n 0 [.frz d] = .ok (.frz (.bl (yWhole d))) [none] := by
  obtain ⟨m, rfl, _⟩ := up1 hn
  cases d <;> first
    | rfl
    | (cases p <;> cases h)
/-- is_from -/
theorem from_ok {n p : Nat} {d : D} {lo hi : Int} (hn : 2 ≤ n) (h : Pl 60 p d = true) : calls tb ds n 2 [.frz d, .frz (.int lo), .frz (.int hi)] = .ok (.frz (.bl (yInt d lo hi))) [none, none, none] := by
  obtain ⟨m, rfl, hm⟩ := up1 hn
  have w := whole_ok hm h
  cases d with
  | int i =>
    by_cases h1 : lo ≤ i
    · simp [r2, c2, startE, argOf, w, yWhole, yInt, dCmp, dLe, h1]
    · simp [r2, c2, startE, argOf, w, yWhole, yInt, dCmp, dLe, h1]
  | scr _ => cases p <;> cases h
  | dK _ _ => cases p <;> cases h
  | _ => simp [r2, c2, startE, argOf, w, yWhole, yInt, dCmp, dLe]
/-- _law_is_int -/
theorem lint_ok {n p : Nat} {d : D} {lo hi : Int} (hn : 1 ≤ n) (h : Pl 60 p d = true) : calls tb ds n 8 [.frz d, .frz (.int lo), .frz (.int hi)] = .ok (.frz (.bl (yInt d lo hi))) [none, none, none] := by
  obtain ⟨m, rfl, hm⟩ := up1 hn
  cases d with
  | int i =>
    by_cases h1 : lo ≤ i
    · simp [r8, c8, startE, argOf, isI, yInt, dCmp, dLe, h1]
    · simp [r8, c8, startE, argOf, isI, yInt, dCmp, dLe, h1]
  | scr _ => cases p <;> cases h
  | dK _ _ => cases p <;> cases h
  | _ => simp [r8, c8, startE, argOf, isI, yInt, dCmp, dLe]
/-- _law_says -/
theorem says_ok {n : Nat} {a b : Bool} (hn : 1 ≤ n) : calls tb ds n 9 [.frz (.bl a), .frz (.bl b)] = .ok (.frz (.bl (a == b))) [none, none] := by
  obtain ⟨m, rfl, hm⟩ := up1 hn
  cases a <;> cases b <;> rfl
theorem set0 {x y : Option O} {e : Env} : List.set (x :: e) 0 y = y :: e := rfl

/-! ### names -/
def inAlpha (d : D) : Bool := match d with
  | .str s => match s.cps.toList with
    | [c] => decide (c ∈ letters)
    | _ => false
  | _ => false
theorem letters_is : ("abcdefghijklmnopqrstuvwxyz" : Str).cps.toList = letters := rfl
theorem chrs_inAlpha {s : Str} : (chrs s).all inAlpha = s.cps.toList.all fun c => decide (c ∈ letters) := by
  unfold chrs
  rw [List.all_map]
  rfl
theorem bools_map {α : Type} (f : α → Bool) : ∀ l : List α, boolsOf (l.map fun a => D.bl (f a)) = some (l.map f)
  | [] => rfl
  | a :: l => by
    show (boolsOf (l.map fun a => D.bl (f a))).map (f a :: ·) = _
    rw [bools_map f l]
    rfl
/-- is_name -/
theorem name_ok {n p : Nat} {d : D} (hn : 1 ≤ n) (h : Pl 60 p d = true) : calls tb ds n 1 [.frz d] = .ok (.frz (.bl (yName d))) [none] := by
  obtain ⟨m, rfl, hm⟩ := up1 hn
  cases d with
  | scr _ => cases p <;> cases h
  | dK _ _ => cases p <;> cases h
  | str s =>
    have hs : pStr 60 s = true := by cases p <;> exact h
    have hsl : s.length ≤ 60 := of_decide_eq_true (Bool.and_eq_true_iff.mp hs).1
    have sm : small s.length = true := decide_eq_true (by omega)
    by_cases h1 : 1 ≤ (s.length : Int)
    · by_cases h2 : (s.length : Int) ≤ 8
      · obtain ⟨e', h3, h4⟩ := lc_map (vs := [1]) (tg := .name 1) (tt := bYes) (te := ofB (bCmp .In (rVar 1) (toR (xLit (.str "abcdefghijklmnopqrstuvwxyz"))))) (items := chrs s) (acc := []) (e := [some (.frz (.str s)), none])
          (fun e => e = [some (.frz (.str s)), none]) (fun _ => true) (fun d => .bl (inAlpha d)) (by
            unfold chrs
            simp only [List.length_nil, List.length_map, Array.length_toList]
            show 0 + s.length ≤ 100000
            omega) rfl (fun d hd e he => by
            subst he
            unfold chrs at hd
            obtain ⟨c, _, rfl⟩ := List.mem_map.mp hd
            refine ⟨[some (.frz (.str s)), some (.frz (.str ⟨#[c]⟩))], _, rfl, rfl, ?_⟩
            rw [if_pos rfl]
            refine ⟨[some (.frz (.str s)), some (.frz (.str ⟨#[c]⟩))], ?_, rfl⟩
            simp [dCmp, dIn, inAlpha, ← letters_is])
        subst h4
        rw [List.filter_eq_self.mpr (fun _ _ => rfl), List.nil_append] at h3
        have h2' : s.length ≤ 8 := by omega
        have h1' : 1 ≤ s.length := by omega
        have h6 : bAll [D.lst ((chrs s).map fun d => D.bl (inAlpha d))] = some (.frz (.bl ((chrs s).all inAlpha))) := by
          simp [bAll, itemsOf, bools_map]
        simp [r1, c1, startE, isI, bOf, bLen, sm, dCmp, dLe, h1, h2, opdOf, gl0, itemsOf, subL, aside, wipeE, h3, h6, yName, h1', h2']
        rw [chrs_inAlpha]
        simp
      · have h2' : ¬ s.length ≤ 8 := by omega
        simp [r1, c1, startE, isI, bOf, bLen, sm, dCmp, dLe, h1, h2, opdOf, gl0, yName, h2']
    · have h1' : ¬ 1 ≤ s.length := by omega
      simp [r1, c1, startE, isI, bOf, bLen, sm, dCmp, dLe, h1, opdOf, gl0, yName, h1']
  | _ => simp [r1, c1, startE, isI, yName]
end LR

set_option Elab.async false
set_option linter.all false
set_option maxRecDepth 100000
set_option maxHeartbeats 4000000
namespace LR
open PySem PySem.Spec PyProof.Rows L2
theorem dEq_int {a b : Int} : dEq (.int a) (.int b) = some (decide (a = b)) := rfl
/-! ### rows -/
def fst1 : D → D
  | .tup (x :: _) => x
  | _ => .non
def strOf : D → Str
  | .str s => s
  | _ => ""
def yRow (parts : Int) : D → Bool
  | .tup l => decide ((l.length : Int) = parts) && yName (fst1 (.tup l))
  | _ => false
def rise : List Str → Bool
  | a :: b :: l => ltS a b && rise (b :: l)
  | _ => true
def yRows (parts : Int) : D → Bool
  | .tup rows => decide (1 ≤ rows.length) && decide (rows.length ≤ 3) && rows.all (yRow parts) && rise (rows.map fun r => strOf (fst1 r))
  | _ => false
theorem yRow_shape {parts : Int} {d : D} (h : yRow parts d = true) : ∃ s l, d = .tup (.str s :: l) ∧ yName (.str s) = true ∧ ((l.length + 1 : Int) = parts) := by
  cases d with
  | tup l =>
    cases l with
    | nil => simp [yRow, fst1, yName] at h
    | cons x l =>
      simp [yRow, fst1] at h
      cases x with
      | str s => exact ⟨s, l, rfl, h.2, h.1⟩
      | _ => simp [yName] at h
  | _ => simp [yRow] at h
theorem ltCps_lt : ∀ a b : List Nat, ltCps a b = decide (a < b)
  | [], [] => by simp [ltCps]
  | [], _ :: _ => by simp [ltCps]
  | _ :: _, [] => by simp [ltCps]
  | x :: a, y :: b => by
    unfold ltCps
    rw [ltCps_lt a b]
    by_cases e : x = y
    · subst e
      simp
    · simp [e, List.cons_lt_cons_iff]
theorem pl_tup {b n : Nat} {l : List D} (h : Pl b n (.tup l) = true) : ∃ m, n = m + 1 ∧ l.length ≤ b ∧ ∀ d ∈ l, Pl b m d = true := by
  cases n with
  | zero => cases h
  | succ m =>
    unfold Pl at h
    rw [Bool.and_eq_true, decide_eq_true_eq, pls_iff] at h
    exact ⟨m, rfl, h⟩
theorem ix0 {x : D} {l : List D} : dIx (.tup (x :: l)) (.int 0) = some (.frz x) := by
  simp [dIx, L2.atI, L2.ixN]
theorem rising_ok {m : Nat} {parts : Int} : ∀ {rows : List D}, 1 ≤ rows.length → rows.length ≤ 3 → rows.all (yRow parts) = true →
    ∃ bs : List Bool, lcLoop [4] (.name 4) bYes (rnX tb [] (calls tb ds m) (.ofT (.cmp .Lt (.ix (.ix (.var 0) (.var 4)) (.lit (.int 0))) (.ix (.ix (.var 0) (.bin .Add (.var 4) (.lit (.int 1)))) (.lit (.int 0)))))) [] (upFrom 0 ((rows.length : Int) - 1).toNat) [some (.frz (.tup rows)), some (.frz (.int 3)), some (.frz (.int parts)), none, none] =
      .ok (bs.map D.bl) [some (.frz (.tup rows)), some (.frz (.int 3)), some (.frz (.int parts)), none, none] ∧ bs.all id = rise (rows.map fun r => strOf (fst1 r))
  | [a], _, _, _ => ⟨[], rfl, rfl⟩
  | [a, b], _, _, h7 => by
    obtain ⟨sa, la, rfl, ha, _⟩ := yRow_shape (List.all_eq_true.mp h7 a (by simp))
    obtain ⟨sb, lb, rfl, hb, _⟩ := yRow_shape (List.all_eq_true.mp h7 b (by simp))
    refine ⟨[ltS sa sb], ?_, by simp [rise, fst1, strOf]⟩
    simp [lcLoop, upFrom, small, Tg.put, putL, pinOf, put1, opdOf, dCmp, dLt, ltS, ltCps_lt, dIx, L2.atI, L2.ixN, dBin, dAdd, wipeE]
  | [a, b, c], _, _, h7 => by
    obtain ⟨sa, la, rfl, ha, _⟩ := yRow_shape (List.all_eq_true.mp h7 a (by simp))
    obtain ⟨sb, lb, rfl, hb, _⟩ := yRow_shape (List.all_eq_true.mp h7 b (by simp))
    obtain ⟨sc, lc, rfl, hc, _⟩ := yRow_shape (List.all_eq_true.mp h7 c (by simp))
    refine ⟨[ltS sa sb, ltS sb sc], ?_, by simp [rise, fst1, strOf]⟩
    simp [lcLoop, upFrom, small, Tg.put, putL, pinOf, put1, opdOf, dCmp, dLt, ltS, ltCps_lt, dIx, L2.atI, L2.ixN, dBin, dAdd, wipeE]
/-- are_rows -/
theorem rows_ok {n p : Nat} {d : D} {parts : Int} (hn : 2 ≤ n) (h : Pl 60 p d = true) (h1 : 1 ≤ parts) : calls tb ds n 3 [.frz d, .frz (.int 3), .frz (.int parts)] = .ok (.frz (.bl (yRows parts d))) [none, none, none] := by
  obtain ⟨m, rfl, hm⟩ := up1 hn
  cases d with
  | scr _ => cases p <;> cases h
  | dK _ _ => cases p <;> cases h
  | tup rows =>
    obtain ⟨p', rfl, hl, hp⟩ := pl_tup h
    by_cases h2 : 1 ≤ (rows.length : Int)
    · by_cases h3 : (rows.length : Int) ≤ 3
      · obtain ⟨e', h4, h5⟩ := lc_map (vs := [3]) (tg := .name 3) (tt := bYes) (te := rnX tb [] (calls tb ds m) (.ofT (.all [.asB (.isI "tuple" (.var 3)), .cmp .Eq (.blt .len [.var 3]) (.var 2), .asB (.fn 1 [.ix (.var 3) (.lit (.int 0))])]))) (items := rows) (acc := []) (e := [some (.frz (.tup rows)), some (.frz (.int 3)), some (.frz (.int parts)), none, none])
          (fun e => e = [some (.frz (.tup rows)), some (.frz (.int 3)), some (.frz (.int parts)), none, none]) (fun _ => true) (fun d => .bl (yRow parts d)) (by simp; omega) rfl (fun d hd e he => by
            subst he
            have hpd := hp d hd
            refine ⟨[some (.frz (.tup rows)), some (.frz (.int 3)), some (.frz (.int parts)), some (.frz d), none], _, rfl, rfl, ?_⟩
            rw [if_pos rfl]
            refine ⟨[some (.frz (.tup rows)), some (.frz (.int 3)), some (.frz (.int parts)), some (.frz d), none], ?_, rfl⟩
            cases d with
            | scr _ => cases p' <;> cases hpd
            | dK _ _ => cases p' <;> cases hpd
            | tup l =>
              by_cases hl : (l.length : Int) = parts
              · cases l with
                | nil => simp at hl; omega
                | cons x l =>
                  obtain ⟨p2, rfl, _, hp2⟩ := pl_tup hpd
                  have w := name_ok (n := m) (by omega) (hp2 x List.mem_cons_self)
                  simp at hl
                  simp [isI, opdOf, argOf, bOf, bLen, dCmp, dEq_int, hl, ix0, w, yRow, fst1]
              · simp [isI, opdOf, argOf, bOf, bLen, dCmp, dEq_int, hl, yRow]
            | _ => simp [isI, yRow])
        subst h5
        rw [List.filter_eq_self.mpr (fun _ _ => rfl), List.nil_append] at h4
        have h6 : bAll [D.lst (rows.map fun d => D.bl (yRow parts d))] = some (.frz (.bl (rows.all (yRow parts)))) := by
          simp [bAll, bools_map]
        have h2' : 1 ≤ rows.length := by omega
        have h3' : rows.length ≤ 3 := by omega
        simp [opdOf, argOf, bOf] at h4
        by_cases h7 : rows.all (yRow parts) = true
        · rw [h7] at h6
          obtain ⟨bs, h8, h9⟩ := rising_ok (m := m) (parts := parts) h2' h3' h7
          have h10 : bAll [D.lst (bs.map D.bl)] = some (.frz (.bl (bs.all id))) := by
            have := bools_map (fun b : Bool => b) bs
            simp at this
            simp [bAll, this]
          have sz : inSize ((rows.length : Int) - 1) = true := by simp [inSize]; omega
          simp [opdOf, argOf, bOf, dBin] at h8
          simp [r3, c3, startE, argOf, isI, bOf, bLen, dCmp, dLe, opdOf, itemsOf, subL, aside, wipeE, h2, h3, h4, h6, yRows, h7, dBin, dSub, sz, h8, h9, h10, h2', h3']
        · rw [Bool.not_eq_true] at h7
          rw [h7] at h6
          simp [r3, c3, startE, argOf, isI, bOf, bLen, dCmp, dLe, h2, h3, opdOf, itemsOf, subL, aside, wipeE, h4, h6, yRows, h7]
      · have h3' : ¬ rows.length ≤ 3 := by omega
        simp [r3, c3, startE, argOf, isI, bOf, bLen, dCmp, dLe, h2, h3, opdOf, yRows, h3']
    · have h2' : ¬ 1 ≤ rows.length := by omega
      simp [r3, c3, startE, argOf, isI, bOf, bLen, dCmp, dLe, h2, opdOf, yRows, h2']
  | _ => simp [r3, c3, startE, argOf, isI, yRows]
end LR

set_option Elab.async false
set_option linter.all false
set_option maxRecDepth 100000
set_option maxHeartbeats 4000000
namespace LR
open PySem PySem.Spec PyProof.Rows L2
theorem small_le {n : Nat} (h : n ≤ 100000) : small n = true := decide_eq_true h
theorem eqvs_nil : ∀ l : List D, D.eqvs l [] = l.isEmpty
  | [] => rfl
  | _ :: _ => rfl
theorem dEq_empty {l : List D} (h : l.length ≤ 60) (k : D.deeps 11 l = true) : dEq (.lst l) (.lst []) = some l.isEmpty := by
  unfold dEq
  have a : (D.lst l).deep 12 = true := by
    unfold D.deep
    rw [k, Bool.and_true]
    exact decide_eq_true (by omega)
  rw [a]
  show some (D.eqvs l []) = _
  rw [eqvs_nil]
theorem strOk_one {s : Str} {c : Nat} (h : PyData.strOk s = true) (hc : c ∈ s.cps.toList) : PyData.strOk ⟨#[c]⟩ = true := by
  unfold PyData.strOk at h ⊢
  have h' := Array.all_eq_true'.mp h c (Array.mem_toList_iff.mp hc)
  simpa using h'
theorem deeps_iff {n : Nat} : ∀ {l : List D}, D.deeps n l = true ↔ ∀ d ∈ l, D.deep n d = true
  | [] => by simp [D.deeps]
  | d :: l => by simp [D.deeps, deeps_iff]
/-- _law_is_name -/
theorem lname_ok {n p : Nat} {d : D} (hn : 1 ≤ n) (h : Pl 60 p d = true) : calls tb ds n 13 [.frz d] = .ok (.frz (.bl (yName d))) [none] := by
  obtain ⟨m, rfl, hm⟩ := up1 hn
  cases d with
  | scr _ => cases p <;> cases h
  | dK _ _ => cases p <;> cases h
  | str s =>
    have hs : pStr 60 s = true := by cases p <;> exact h
    have hsl : s.length ≤ 60 := of_decide_eq_true (Bool.and_eq_true_iff.mp hs).1
    have hok : PyData.strOk s = true := (Bool.and_eq_true_iff.mp hs).2
    have sm : small s.length = true := decide_eq_true (by omega)
    by_cases h1 : 1 ≤ (s.length : Int)
    · by_cases h2 : (s.length : Int) ≤ 8
      · have hcl : (chrs s).length = s.length := by
          unfold chrs
          simp only [List.length_map, Array.length_toList]
          rfl
        obtain ⟨e', h3, h4⟩ := lc_map (vs := [1]) (tg := .name 1) (tt := rnB tb [] (calls tb ds m) (.cmp .NotIn (.var 1) (.lit (.str "abcdefghijklmnopqrstuvwxyz")))) (te := rnX tb [] (calls tb ds m) (.var 1)) (items := chrs s) (acc := []) (e := [some (.frz (.str s)), none])
          (fun e => e = [some (.frz (.str s)), none]) (fun d => !inAlpha d) (fun d => d) (by simp; omega) rfl (fun d hd e he => by
            subst he
            unfold chrs at hd
            obtain ⟨c, _, rfl⟩ := List.mem_map.mp hd
            refine ⟨[some (.frz (.str s)), some (.frz (.str ⟨#[c]⟩))], [some (.frz (.str s)), some (.frz (.str ⟨#[c]⟩))], rfl, ?_, ?_⟩
            · simp [opdOf, dCmp, dNotIn, dIn, inAlpha, ← letters_is]
            · split
              · exact ⟨_, rfl, rfl⟩
              · rfl)
        subst h4
        rw [List.map_id', List.nil_append] at h3
        have h2' : s.length ≤ 8 := by omega
        have h1' : 1 ≤ s.length := by omega
        have h6 : dEq (.lst ((chrs s).filter fun d => !inAlpha d)) (.lst []) = some ((chrs s).filter fun d => !inAlpha d).isEmpty := dEq_empty (Nat.le_trans (List.length_filter_le _ _) (by omega)) (deeps_iff.mpr fun d hd => by
            obtain ⟨hd, _⟩ := List.mem_filter.mp hd
            unfold chrs at hd
            obtain ⟨c, hc, rfl⟩ := List.mem_map.mp hd
            exact strOk_one hok hc)
        have h7 : ((chrs s).filter fun d => !inAlpha d).isEmpty = (chrs s).all inAlpha := by
          induction chrs s with
          | nil => rfl
          | cons x l ih => cases hx : inAlpha x <;> simp [hx, ih]
        rw [h7] at h6
        simp [opdOf] at h3
        simp [r13, c13, startE, isI, bOf, bLen, sm, dCmp, dLe, h1, h2, opdOf, itemsOf, subL, aside, wipeE, h3, h6, yName, h1', h2', small_le]
        rw [chrs_inAlpha]
        simp
      · have h2' : ¬ s.length ≤ 8 := by omega
        simp [r13, c13, startE, isI, bOf, bLen, sm, dCmp, dLe, h1, h2, opdOf, yName, h2']
    · have h1' : ¬ 1 ≤ s.length := by omega
      simp [r13, c13, startE, isI, bOf, bLen, sm, dCmp, dLe, h1, opdOf, yName, h1']
  | _ => simp [r13, c13, startE, isI, yName]
/-! ### _law_are_rows -/
theorem lrows_loop {m p : Nat} {t : D} {parts : Int} (hm : 1 ≤ m) (hp1 : 1 ≤ parts) : ∀ {rows acc : List D} {x : Option O}, acc.length + rows.length ≤ 60 → (∀ d ∈ rows, Pl 60 p d = true) →
    ∃ e', loopS (.name 3) (sSeq (rnSs tb [] (calls tb ds m) [.sif (.one [.no (.asB (.isI "tuple" (.var 3))), .cmp .NotEq (.blt .len [.var 3]) (.var 1), .no (.asB (.fn 13 [.ix (.var 3) (.lit (.int 0))]))]) [.ret (.lit (.bl false))] [], .expr (.mth .append 2 [.ix (.var 3) (.lit (.int 0))])])) rows
      [some (.frz t), some (.frz (.int parts)), some (.lst acc), x] = (if rows.all (yRow parts) then .next [some (.frz t), some (.frz (.int parts)), some (.lst (acc ++ rows.map fst1)), e'] else .ret (.frz (.bl false)) [some (.frz t), some (.frz (.int parts)), some (.lst (acc ++ (rows.takeWhile (yRow parts)).map fst1)), e'])
  | [], acc, x, _, _ => ⟨x, by simp⟩
  | d :: rows, acc, x, hl, hp => by
    have hpd := hp d List.mem_cons_self
    have ha : small acc.length = true := decide_eq_true (by omega)
    by_cases hy : yRow parts d = true
    · obtain ⟨s, l, rfl, hs, hl2⟩ := yRow_shape hy
      obtain ⟨p2, rfl, _, hp2⟩ := pl_tup hpd
      have w := lname_ok (n := m) (by omega) (hp2 _ List.mem_cons_self)
      obtain ⟨e', h⟩ := lrows_loop (t := t) hm hp1 (rows := rows) (acc := acc ++ [.str s]) (x := some (.frz (.tup (.str s :: l)))) (by simp at hl ⊢; omega) fun x hx => hp x (List.mem_cons_of_mem _ hx)
      refine ⟨e', ?_⟩
      rw [hs] at w
      unfold loopS
      simp [opdOf, argOf, bOf] at h
      simp [Tg.put, put1, opdOf, argOf, isI, bOf, bLen, dCmp, dNe, dEq_int, hl2, ix0, w, isOwn, ownL, mRun, ha, h, hy, fst1]
    · rw [Bool.not_eq_true] at hy
      refine ⟨some (.frz d), ?_⟩
      unfold loopS
      cases d with
      | scr _ => cases p <;> cases hpd
      | dK _ _ => cases p <;> cases hpd
      | tup l =>
        by_cases hl : (l.length : Int) = parts
        · cases l with
          | nil => simp at hl; omega
          | cons x l =>
            obtain ⟨p2, rfl, _, hp2⟩ := pl_tup hpd
            have w := lname_ok (n := m) (by omega) (hp2 x List.mem_cons_self)
            simp at hl
            have hx : yName x = false := by simpa [yRow, fst1, hl] using hy
            rw [hx] at w
            simp [Tg.put, put1, opdOf, argOf, isI, bOf, bLen, dCmp, dNe, dEq_int, hl, ix0, w, hy]
        · simp [Tg.put, put1, opdOf, argOf, isI, bOf, bLen, dCmp, dNe, dEq_int, hl, hy]
      | _ => simp [Tg.put, put1, opdOf, argOf, isI, hy]
/-! ### rising texts -/
theorem rise_iff : ∀ {l : List Str}, rise l = true ↔ l.Pairwise fun a b => ltS a b = true
  | [] => by simp [rise]
  | [a] => by simp [rise]
  | a :: b :: l => by
    rw [rise, Bool.and_eq_true, rise_iff (l := b :: l), List.pairwise_cons (a := a)]
    constructor
    · rintro ⟨h1, h2⟩
      refine ⟨fun x hx => ?_, h2⟩
      rcases List.mem_cons.mp hx with rfl | hx
      · exact h1
      · exact ord_S.trn _ _ _ h1 ((List.pairwise_cons.mp h2).1 x hx)
    · rintro ⟨h1, h2⟩
      exact ⟨h1 b List.mem_cons_self, h2⟩
theorem rise_sort (l : List Str) : decide (l = sortK ltS l) = rise l := by
  rw [Bool.eq_iff_iff, decide_eq_true_iff, rise_iff]
  have k := sortK_ok ord_S (l := l) fun _ _ => trivial
  constructor
  · intro h
    rw [h]
    exact k.2
  · intro h
    exact up_unique ord_S h k.2 fun z => (k.1 z).symm
theorem eqvs_str : ∀ {l m : List Str}, D.eqvs (l.map .str) (m.map .str) = decide (l = m)
  | [], [] => rfl
  | [], _ :: _ => rfl
  | _ :: _, [] => rfl
  | a :: l, b :: m => by
    show (decide (a = b) && D.eqvs (l.map .str) (m.map .str)) = _
    rw [eqvs_str]
    by_cases h : a = b <;> by_cases k : l = m <;> simp [h, k]
theorem strsOf_map : ∀ l : List Str, strsOf (l.map .str) = some l
  | [] => rfl
  | a :: l => by
    show (strsOf (l.map .str)).map (a :: ·) = _
    rw [strsOf_map l]
    rfl
theorem insK_len {α : Type} {lt : α → α → Bool} {x : α} : ∀ {l : List α}, (insK lt x l).length ≤ l.length + 1
  | [] => by simp [insK]
  | y :: l => by
    have := insK_len (lt := lt) (x := x) (l := l)
    unfold insK
    repeat' split
    all_goals simp; try omega
theorem sortK_len {α : Type} {lt : α → α → Bool} : ∀ {l : List α}, (sortK lt l).length ≤ l.length
  | [] => by simp [sortK]
  | x :: l => by
    have := sortK_len (lt := lt) (l := l)
    have := insK_len (lt := lt) (x := x) (l := sortK lt l)
    simp [sortK]
    omega
end LR

set_option Elab.async false
set_option linter.all false
set_option maxRecDepth 100000
set_option maxHeartbeats 4000000
namespace LR
open PySem PySem.Spec PyProof.Rows L2
theorem firsts_str {parts : Int} : ∀ {rows : List D}, rows.all (yRow parts) = true → rows.map fst1 = (rows.map fun r => strOf (fst1 r)).map D.str
  | [], _ => rfl
  | d :: rows, h => by
    rw [List.all_cons, Bool.and_eq_true] at h
    obtain ⟨s, l, rfl, _, _⟩ := yRow_shape h.1
    simp only [List.map_cons]
    rw [firsts_str h.2]
    rfl
theorem pl_firsts {p : Nat} {parts : Int} {rows : List D} (hp : ∀ d ∈ rows, Pl 60 p d = true) (h : rows.all (yRow parts) = true) : ∀ s ∈ rows.map (fun r => strOf (fst1 r)), PyData.strOk s = true := by
  intro s hs
  obtain ⟨d, hd, rfl⟩ := List.mem_map.mp hs
  obtain ⟨s, l, rfl, _, _⟩ := yRow_shape (List.all_eq_true.mp h d hd)
  obtain ⟨p2, rfl, _, k⟩ := pl_tup (hp _ hd)
  have k := k _ List.mem_cons_self
  have hs : pStr 60 s = true := by cases p2 <;> exact k
  exact (Bool.and_eq_true_iff.mp hs).2
/-- _law_are_rows -/
theorem lrows_ok {n p : Nat} {d : D} {parts : Int} (hn : 2 ≤ n) (h : Pl 60 p d = true) (h1 : 1 ≤ parts) : calls tb ds n 14 [.frz d, .frz (.int parts)] = .ok (.frz (.bl (yRows parts d))) [none, none] := by
  obtain ⟨m, rfl, hm⟩ := up1 hn
  cases d with
  | scr _ => cases p <;> cases h
  | dK _ _ => cases p <;> cases h
  | tup rows =>
    obtain ⟨p', rfl, hl, hp⟩ := pl_tup h
    by_cases h2 : 1 ≤ (rows.length : Int)
    · by_cases h3 : (rows.length : Int) ≤ 3
      · have h2' : 1 ≤ rows.length := by omega
        have h3' : rows.length ≤ 3 := by omega
        obtain ⟨e', h4⟩ := lrows_loop (m := m) (t := .tup rows) (parts := parts) (rows := rows) (acc := []) (x := none) (by omega) h1 (by simp; omega) hp
        rw [List.nil_append] at h4
        by_cases h7 : rows.all (yRow parts) = true
        · rw [if_pos h7, firsts_str h7] at h4
          have hs := pl_firsts hp h7
          rcases hxs : rows.map (fun r => strOf (fst1 r)) with _ | ⟨x, xs⟩
          · rw [List.map_eq_nil_iff] at hxs
            subst hxs
            simp at h2'
          · have hlen : (x :: xs).length = rows.length := by rw [← hxs, List.length_map]
            rw [hxs] at h4 hs
            have h8 : dSet (.lst ((x :: xs).map D.str)) = some (.lst ((sortK ltS (x :: xs)).map D.str)) := by
              have a := strsOf_map (x :: xs)
              simp only [List.map_cons] at a ⊢
              simp only [dSet]
              rw [if_pos (by simp at hlen ⊢; omega), a]
              rfl
            have h9 : dEq (.lst ((x :: xs).map D.str)) (.lst ((sortK ltS (x :: xs)).map D.str)) = some (rise (x :: xs)) := by
              unfold dEq
              have a : (D.lst ((x :: xs).map D.str)).deep 12 = true := by
                unfold D.deep
                rw [deeps_iff.mpr fun d hd => ?_, Bool.and_true]
                · exact decide_eq_true (by rw [List.length_map]; omega)
                · obtain ⟨s, hs', rfl⟩ := List.mem_map.mp hd
                  exact hs s hs'
              have b : (D.lst ((sortK ltS (x :: xs)).map D.str)).deep 12 = true := by
                have := sortK_len (lt := ltS) (l := x :: xs)
                unfold D.deep
                rw [deeps_iff.mpr fun d hd => ?_, Bool.and_true]
                · exact decide_eq_true (by rw [List.length_map]; omega)
                · obtain ⟨s, hs', rfl⟩ := List.mem_map.mp hd
                  exact hs s (((sortK_ok ord_S (l := x :: xs) fun _ _ => trivial).1 s).mp hs')
              rw [a, b]
              show some (D.eqvs _ _) = _
              rw [eqvs_str, rise_sort]
            simp only [List.map_cons] at h4 h8 h9
            simp [opdOf, argOf, bOf] at h4
            simp [r14, c14, startE, argOf, isI, bOf, bLen, dCmp, dLe, opdOf, itemsOf, okP, put1, small_le, h2, h3, h4, h8, h9, yRows, h7, h2', h3', hxs]
        · rw [Bool.not_eq_true] at h7
          rw [h7] at h4
          simp [opdOf, argOf, bOf] at h4
          simp [r14, c14, startE, argOf, isI, bOf, bLen, dCmp, dLe, opdOf, itemsOf, okP, put1, small_le, h2, h3, h4, yRows, h7, h2', h3']
      · have h3' : ¬ rows.length ≤ 3 := by omega
        simp [r14, c14, startE, argOf, isI, bOf, bLen, dCmp, dLe, h2, h3, opdOf, yRows, h3']
    · have h2' : ¬ 1 ≤ rows.length := by omega
      simp [r14, c14, startE, argOf, isI, bOf, bLen, dCmp, dLe, h2, opdOf, yRows, h2']
  | _ => simp [r14, c14, startE, argOf, isI, yRows]
end LR

set_option Elab.async false
set_option linter.all false
set_option maxRecDepth 100000
set_option maxHeartbeats 4000000
namespace LR
open PySem PySem.Spec PyProof.Rows L2
/-! ### strands -/
def yPair : D → Bool
  | .tup [a, b] => yInt a 0 4 && yInt b 0 4
  | _ => false
def zz : D := .tup [.int 0, .int 0]
def yStr (many : Int) : D → Bool
  | .tup ps => decide ((ps.length : Int) = many) && ps.all yPair && ps.any fun p => !(p.eqv zz)
  | _ => false
theorem pair_body {m p : Nat} {t d : D} {many : Int} (hm : 2 ≤ m) (hd : Pl 60 p d = true) : ∃ e2, sSeq (rnSs tb [] (calls tb ds m) [.sif (.one [.no (.asB (.isI "tuple" (.var 2))), .cmp .NotEq (.blt .len [.var 2]) (.lit (.int 2)), .no (.asB (.blt .all [.lc [3] (.name 3) (.any (.var 2)) (.yes) (.fn 2 [.var 3, .lit (.int 0), .glo 1])]))]) [.ret (.lit (.bl false))] []])
   [some (.frz t), some (.frz (.int many)), some (.frz d), none] = (if yPair d then .next e2 else .ret (.frz (.bl false)) e2) ∧ e2 = [some (.frz t), some (.frz (.int many)), some (.frz d), none] := by
  refine ⟨_, ?_, rfl⟩
  cases d with
  | scr _ => cases p <;> cases hd
  | dK _ _ => cases p <;> cases hd
  | tup l =>
    obtain ⟨p2, rfl, _, hp⟩ := pl_tup hd
    match l, hp with
    | [], _ => simp [argOf, opdOf, isI, bOf, bLen, dCmp, dNe, dEq_int, yPair]
    | [a], _ => simp [argOf, opdOf, isI, bOf, bLen, dCmp, dNe, dEq_int, yPair]
    | a :: b :: c :: l, _ =>
      have : ¬ ((l.length : Int) + 1 + 1 + 1 = 2) := by omega
      simp [argOf, opdOf, isI, bOf, bLen, dCmp, dNe, dEq_int, yPair, this]
    | [a, b], hp =>
      have wa := from_ok (n := m) (lo := 0) (hi := 4) hm (hp a (by simp))
      have wb := from_ok (n := m) (lo := 0) (hi := 4) hm (hp b (by simp))
      simp [argOf, opdOf, isI, bOf, bLen, dCmp, dNe, dEq_int, yPair, gl1, itemsOf, subL, aside, wipeE, lcLoop, small_le, Tg.put, put1, wa, wb, bAll, boolsOf]
      cases yInt a 0 4 <;> cases yInt b 0 4 <;> simp
  | _ => simp [argOf, opdOf, isI, yPair]
theorem dNe_zz {p : Nat} {d : D} (hp : p ≤ 12) (hd : Pl 60 p d = true) : dNe d (.tup [.int 0, .int 0]) = some (!(d.eqv zz)) := by
  have a : d.deep 12 = true := pl_deep (Nat.le_refl _) (pl_mono (Nat.le_refl _) hp hd)
  unfold dNe dEq
  rw [a]
  rfl
/-- are_strands -/
theorem strands_ok {n p : Nat} {d : D} {many : Int} (hn : 3 ≤ n) (hp : p ≤ 12) (h : Pl 60 p d = true) : calls tb ds n 4 [.frz d, .frz (.int many)] = .ok (.frz (.bl (yStr many d))) [none, none] := by
  obtain ⟨m, rfl, hm⟩ := up1 hn
  cases d with
  | scr _ => cases p <;> cases h
  | dK _ _ => cases p <;> cases h
  | tup rows =>
    obtain ⟨p', rfl, hl, hp'⟩ := pl_tup h
    by_cases h2 : (rows.length : Int) = many
    · obtain ⟨e', h4, x, rfl⟩ := loop_all (tg := .name 2) (body := sSeq (rnSs tb [] (calls tb ds m) [.sif (.one [.no (.asB (.isI "tuple" (.var 2))), .cmp .NotEq (.blt .len [.var 2]) (.lit (.int 2)), .no (.asB (.blt .all [.lc [3] (.name 3) (.any (.var 2)) (.yes) (.fn 2 [.var 3, .lit (.int 0), .glo 1])]))]) [.ret (.lit (.bl false))] []])) (items := rows)
        (fun e => ∃ x, e = [some (.frz (.tup rows)), some (.frz (.int many)), x, none]) yPair (.frz (.bl false)) (e := [some (.frz (.tup rows)), some (.frz (.int many)), none, none]) ⟨_, rfl⟩ (fun d hd e ⟨x, he⟩ => by
          subst he
          obtain ⟨e2, h5, h6⟩ := pair_body (m := m) (t := .tup rows) (many := many) hm (hp' d hd)
          exact ⟨_, rfl, e2, h5, _, h6⟩)
      by_cases h7 : rows.all yPair = true
      · rw [if_pos h7] at h4
        simp [argOf, opdOf, bOf, gl1] at h4
        obtain ⟨e', h8, rfl⟩ := lc_map (vs := [2]) (tg := .name 2) (tt := bYes) (te := rnX tb [] (calls tb ds m) (.ofT (.cmp .NotEq (.var 2) (.tup [.lit (.int 0), .lit (.int 0)])))) (items := rows) (acc := []) (e := [some (.frz (.tup rows)), some (.frz (.int many)), none, none])
          (fun e => e = [some (.frz (.tup rows)), some (.frz (.int many)), none, none]) (fun _ => true) (fun d => .bl (!(d.eqv zz))) (by simp; omega) rfl (fun d hd e he => by
            subst he
            have w := dNe_zz (p := p') (by omega) (hp' d hd)
            refine ⟨[some (.frz (.tup rows)), some (.frz (.int many)), some (.frz d), none], _, rfl, rfl, ?_⟩
            rw [if_pos rfl]
            refine ⟨[some (.frz (.tup rows)), some (.frz (.int many)), some (.frz d), none], ?_, rfl⟩
            simp [opdOf, dCmp, small_le, w])
        rw [List.filter_eq_self.mpr (fun _ _ => rfl), List.nil_append] at h8
        have h9 : bAny [D.lst (rows.map fun d => D.bl (!(d.eqv zz)))] = some (.frz (.bl (rows.any fun d => !(d.eqv zz)))) := by
          simp [bAny, bools_map]
        simp [argOf, opdOf, bOf] at h8
        cases x with
        | none =>
          simp [r4, c4, startE, argOf, isI, bOf, bLen, dCmp, dNe, dEq_int, opdOf, itemsOf, okP, put1, h2, gl1, subL, aside, wipeE, h4, yStr, h7, h8, h9]
        | some x =>
          simp [r4, c4, startE, argOf, isI, bOf, bLen, dCmp, dNe, dEq_int, opdOf, itemsOf, okP, put1, h2, gl1, subL, aside, wipeE, h4, yStr, h7, h8, h9]
      · rw [if_neg h7] at h4
        rw [Bool.not_eq_true] at h7
        simp [argOf, opdOf, bOf, gl1] at h4
        simp [r4, c4, startE, argOf, isI, bOf, bLen, dCmp, dNe, dEq_int, opdOf, itemsOf, okP, put1, h2, gl1, h4, yStr, h7]
    · simp [r4, c4, startE, argOf, isI, bOf, bLen, dCmp, dNe, dEq_int, opdOf, yStr, h2]
  | _ => simp [r4, c4, startE, argOf, isI, yStr]
end LR

set_option Elab.async false
set_option linter.all false
set_option maxRecDepth 100000
set_option maxHeartbeats 4000000
namespace LR
open PySem PySem.Spec PyProof.Rows L2
/-! ### halls -/
def itemsT : D → List D
  | .tup l => l
  | _ => []
def yCar : D → Bool
  | .tup [_, long, rub] => yInt long 1 60 && yInt rub 1 30
  | _ => false
def yRope (many : Int) : D → Bool
  | .tup [_, strands] => yStr many strands
  | _ => false
def yHall : D → Bool
  | .tup [cars, ropes] => yRows 3 cars && yRows 2 ropes && (itemsT cars).all yCar && (itemsT ropes).all (yRope (itemsT cars).length)
  | _ => false
theorem row3 {d : D} (h : yRow 3 d = true) : ∃ a b c, d = .tup [a, b, c] := by
  obtain ⟨s, l, rfl, _, h⟩ := yRow_shape h
  match l, h with
  | [b, c], _ => exact ⟨_, _, _, rfl⟩
  | [], h => simp at h
  | [a], h => simp at h
  | a :: b :: c :: l, h => simp at h; omega
theorem row2 {d : D} (h : yRow 2 d = true) : ∃ a b, d = .tup [a, b] := by
  obtain ⟨s, l, rfl, _, h⟩ := yRow_shape h
  match l, h with
  | [b], _ => exact ⟨_, _, rfl⟩
  | [], h => simp at h
  | a :: b :: l, h => simp at h; omega
theorem yRows_shape {parts : Int} {d : D} (h : yRows parts d = true) : ∃ rows, d = .tup rows ∧ 1 ≤ rows.length ∧ rows.length ≤ 3 ∧ rows.all (yRow parts) = true := by
  cases d with
  | tup rows =>
    simp only [yRows, Bool.and_eq_true, decide_eq_true_eq] at h
    exact ⟨rows, rfl, h.1.1.1, h.1.1.2, h.1.2⟩
  | _ => cases h
/-- is_hall -/
theorem hall_ok {n p : Nat} {d : D} (hn : 4 ≤ n) (hp : p ≤ 12) (h : Pl 60 p d = true) : calls tb ds n 5 [.frz d] = .ok (.frz (.bl (yHall d))) [none] := by
  obtain ⟨m, rfl, hm⟩ := up1 hn
  cases d with
  | scr _ => cases p <;> cases h
  | dK _ _ => cases p <;> cases h
  | tup l =>
    obtain ⟨p', rfl, hl, hp'⟩ := pl_tup h
    match l, hp' with
    | [], _ => simp [r5, c5, startE, argOf, isI, bOf, bLen, dCmp, dNe, dEq_int, opdOf, yHall]
    | [a], _ => simp [r5, c5, startE, argOf, isI, bOf, bLen, dCmp, dNe, dEq_int, opdOf, yHall]
    | a :: b :: c :: l, _ =>
      have : ¬ ((l.length : Int) + 1 + 1 + 1 = 2) := by omega
      simp [r5, c5, startE, argOf, isI, bOf, bLen, dCmp, dNe, dEq_int, opdOf, yHall, this]
    | [cars, ropes], hp' =>
      have pc := hp' cars (by simp)
      have pr := hp' ropes (by simp)
      have w1 := rows_ok (n := m) (parts := 3) (by omega) pc (by omega)
      have w2 := rows_ok (n := m) (parts := 2) (by omega) pr (by omega)
      by_cases h1 : yRows 3 cars = true
      · by_cases h2 : yRows 2 ropes = true
        · obtain ⟨cs, rfl, a1, a2, a3⟩ := yRows_shape h1
          obtain ⟨rs, rfl, b1, b2, b3⟩ := yRows_shape h2
          obtain ⟨p2, rfl, _, qc⟩ := pl_tup pc
          obtain ⟨_, e, _, qr⟩ := pl_tup pr
          cases e
          obtain ⟨e', h8, rfl⟩ := lc_map (vs := [3, 4, 5]) (tg := .tup [3, 4, 5]) (tt := bYes) (te := rnX tb [] (calls tb ds m) (.ofT (.all [.asB (.fn 2 [.var 4, .lit (.int 1), .glo 4]), .asB (.fn 2 [.var 5, .lit (.int 1), .glo 5])]))) (items := cs) (acc := [])
            (e := [some (.frz (.tup [.tup cs, .tup rs])), some (.frz (.tup cs)), some (.frz (.tup rs)), none, none, none, none])
            (fun e => e = [some (.frz (.tup [.tup cs, .tup rs])), some (.frz (.tup cs)), some (.frz (.tup rs)), none, none, none, none]) (fun _ => true) (fun d => .bl (yCar d)) (by simp; omega) rfl (fun d hd e he => by
              subst he
              obtain ⟨x, y, z, rfl⟩ := row3 (List.all_eq_true.mp a3 d hd)
              obtain ⟨p3, rfl, _, q⟩ := pl_tup (qc _ hd)
              have u1 := from_ok (n := m) (lo := 1) (hi := 60) (by omega) (q y (by simp))
              have u2 := from_ok (n := m) (lo := 1) (hi := 30) (by omega) (q z (by simp))
              refine ⟨[some (.frz (.tup [.tup cs, .tup rs])), some (.frz (.tup cs)), some (.frz (.tup rs)), some (.frz x), some (.frz y), some (.frz z), none], _, rfl, rfl, ?_⟩
              rw [if_pos rfl]
              refine ⟨[some (.frz (.tup [.tup cs, .tup rs])), some (.frz (.tup cs)), some (.frz (.tup rs)), some (.frz x), some (.frz y), some (.frz z), none], ?_, rfl⟩
              cases hy : yInt y 1 60 <;> simp [argOf, opdOf, gl4, gl5, u1, u2, yCar, hy])
          obtain ⟨e', g8, rfl⟩ := lc_map (vs := [3, 6]) (tg := .tup [3, 6]) (tt := bYes) (te := rnX tb [] (calls tb ds m) (.fn 4 [.var 6, .blt .len [.var 1]])) (items := rs) (acc := [])
            (e := [some (.frz (.tup [.tup cs, .tup rs])), some (.frz (.tup cs)), some (.frz (.tup rs)), none, none, none, none])
            (fun e => e = [some (.frz (.tup [.tup cs, .tup rs])), some (.frz (.tup cs)), some (.frz (.tup rs)), none, none, none, none]) (fun _ => true) (fun d => .bl (yRope cs.length d)) (by simp; omega) rfl (fun d hd e he => by
              subst he
              obtain ⟨x, y, rfl⟩ := row2 (List.all_eq_true.mp b3 d hd)
              obtain ⟨p3, rfl, _, q⟩ := pl_tup (qr _ hd)
              have u1 := strands_ok (n := m) (many := cs.length) (by omega) (by omega) (q y (by simp))
              refine ⟨[some (.frz (.tup [.tup cs, .tup rs])), some (.frz (.tup cs)), some (.frz (.tup rs)), some (.frz x), none, none, some (.frz y)], _, rfl, rfl, ?_⟩
              rw [if_pos rfl]
              refine ⟨[some (.frz (.tup [.tup cs, .tup rs])), some (.frz (.tup cs)), some (.frz (.tup rs)), some (.frz x), none, none, some (.frz y)], ?_, rfl⟩
              simp [argOf, opdOf, bOf, bLen, u1, yRope])
          rw [List.filter_eq_self.mpr (fun _ _ => rfl), List.nil_append] at h8 g8
          have h9 : bAll [D.lst (cs.map fun d => D.bl (yCar d))] = some (.frz (.bl (cs.all yCar))) := by
            simp [bAll, bools_map]
          have g9 : bAll [D.lst (rs.map fun d => D.bl (yRope cs.length d))] = some (.frz (.bl (rs.all (yRope cs.length)))) := by
            simp [bAll, bools_map]
          simp [argOf, opdOf, bOf, gl4, gl5] at h8 g8
          by_cases h3 : cs.all yCar = true
          · simp [r5, c5, startE, argOf, isI, bOf, bLen, dCmp, dNe, dEq_int, opdOf, itemsOf, okP, Tg.put, putL, put1, gl2, gl3, gl4, gl5, subL, aside, wipeE, w1, w2, h1, h2, h8, h9, g8, g9, h3, yHall, itemsT]
          · rw [Bool.not_eq_true] at h3
            simp [r5, c5, startE, argOf, isI, bOf, bLen, dCmp, dNe, dEq_int, opdOf, itemsOf, okP, Tg.put, putL, put1, gl2, gl3, gl4, gl5, subL, aside, wipeE, w1, w2, h1, h2, h8, h9, g8, g9, h3, yHall, itemsT]
        · rw [Bool.not_eq_true] at h2
          simp [r5, c5, startE, argOf, isI, bOf, bLen, dCmp, dNe, dEq_int, opdOf, okP, Tg.put, putL, put1, gl2, gl3, w1, w2, h1, h2, yHall]
      · rw [Bool.not_eq_true] at h1
        simp [r5, c5, startE, argOf, isI, bOf, bLen, dCmp, dNe, dEq_int, opdOf, okP, Tg.put, putL, put1, gl2, gl3, w1, h1, yHall]
  | _ => simp [r5, c5, startE, argOf, isI, yHall]
end LR

set_option Elab.async false
set_option linter.all false
set_option maxRecDepth 100000
set_option maxHeartbeats 4000000
namespace LR
open PySem PySem.Spec PyProof.Rows L2
theorem ix1 {x y : D} {l : List D} : dIx (.tup (x :: y :: l)) (.int 1) = some (.frz y) := by
  have h : (1 : Int) < (l.length : Int) + 1 + 1 := by omega
  simp [dIx, L2.atI, L2.ixN, h]
theorem dNe_empty {p : Nat} {l : List D} (h : l.length ≤ 60) (hp : p ≤ 11) (k : ∀ d ∈ l, Pl 60 p d = true) : dNe (.lst l) (.lst []) = some (!l.isEmpty) := by
  unfold dNe
  rw [dEq_empty h (deeps_iff.mpr fun d hd => pl_deep (Nat.le_refl _) (pl_mono (Nat.le_refl _) hp (k d hd)))]
  rfl
/-- the inner loop's body -/
theorem lpair_body {m p : Nat} {t d : D} {s x1 x2 x3 : Option O} (hm : 1 ≤ m) (hp : p ≤ 11) (hd : Pl 60 p d = true) : ∃ e2, sSeq (rnSs tb [] (calls tb ds m) [.sif (.one [.no (.asB (.isI "tuple" (.var 5))), .cmp .NotEq (.blt .len [.var 5]) (.lit (.int 2))]) [.ret (.lit (.bl false))] [], .sif (.cmp .NotEq (.lc [6] (.name 6) (.any (.var 5)) (.no (.asB (.fn 8 [.var 6, .lit (.int 0), .lit (.int 4)]))) (.var 6)) (.lst [])) [.ret (.lit (.bl false))] []])
   [some (.frz t), x1, x2, x3, s, some (.frz d), none] = (if yPair d then .next e2 else .ret (.frz (.bl false)) e2) ∧ e2 = [some (.frz t), x1, x2, x3, s, some (.frz d), none] := by
  refine ⟨_, ?_, rfl⟩
  cases d with
  | scr _ => cases p <;> cases hd
  | dK _ _ => cases p <;> cases hd
  | tup l =>
    obtain ⟨p2, rfl, _, hp'⟩ := pl_tup hd
    match l, hp' with
    | [], _ => simp [argOf, opdOf, isI, bOf, bLen, dCmp, dNe, dEq_int, yPair]
    | [a], _ => simp [argOf, opdOf, isI, bOf, bLen, dCmp, dNe, dEq_int, yPair]
    | a :: b :: c :: l, _ =>
      have : ¬ ((l.length : Int) + 1 + 1 + 1 = 2) := by omega
      simp [argOf, opdOf, isI, bOf, bLen, dCmp, dNe, dEq_int, yPair, this]
    | [a, b], hp' =>
      have wa := lint_ok (n := m) (lo := 0) (hi := 4) hm (hp' a (by simp))
      have wb := lint_ok (n := m) (lo := 0) (hi := 4) hm (hp' b (by simp))
      have c0 := dNe_empty (p := p2) (l := []) (by simp) (by omega) (by simp)
      have c1 := dNe_empty (p := p2) (l := [a]) (by simp) (by omega) (fun x hx => hp' x (by simp at hx ⊢; exact .inl hx))
      have c2 := dNe_empty (p := p2) (l := [b]) (by simp) (by omega) (fun x hx => hp' x (by simp at hx ⊢; exact .inr hx))
      have c3 := dNe_empty (p := p2) (l := [a, b]) (by simp) (by omega) hp'
      have i2 : dNe (.int 2) (.int 2) = some false := rfl
      cases ya : yInt a 0 4 <;> cases yb : yInt b 0 4 <;> rw [ya] at wa <;> rw [yb] at wb <;>
        simp [argOf, opdOf, isI, bOf, bLen, dCmp, i2, yPair, itemsOf, subL, aside, wipeE, lcLoop, small_le, Tg.put, put1, wa, wb, ya, yb, c0, c1, c2, c3]
  | _ => simp [argOf, opdOf, isI, yPair]
theorem eqvs_rep : ∀ {l : List D}, D.eqvs l (List.replicate l.length [zz]).flatten = l.all fun d => d.eqv zz
  | [] => rfl
  | d :: l => by
    simp only [List.length_cons, List.replicate_succ, List.flatten_cons]
    show (D.eqv d zz && D.eqvs l (List.replicate l.length [zz]).flatten) = _
    rw [eqvs_rep]
    rfl
theorem dEq_rep {p : Nat} {l : List D} (hl : l.length ≤ 60) (hp : p ≤ 11) (k : ∀ d ∈ l, Pl 60 p d = true) : dEq (.tup l) (.tup (List.replicate l.length [zz]).flatten) = some (l.all fun d => d.eqv zz) := by
  have a : (D.tup l).deep 12 = true := by
    unfold D.deep
    rw [deeps_iff.mpr fun d hd => pl_deep (Nat.le_refl _) (pl_mono (Nat.le_refl _) hp (k d hd)), Bool.and_true]
    exact decide_eq_true (by omega)
  have b : (D.tup (List.replicate l.length [zz]).flatten).deep 12 = true := by
    unfold D.deep
    rw [deeps_iff.mpr fun d hd => ?_, Bool.and_true]
    · exact decide_eq_true (by simp; omega)
    · obtain ⟨x, hx, hd⟩ := List.mem_flatten.mp hd
      rw [List.eq_of_mem_replicate hx, List.mem_singleton] at hd
      subst hd
      rfl
  unfold dEq
  rw [a, b]
  show some (D.eqvs _ _) = _
  rw [eqvs_rep]
theorem any_not_all {l : List D} : (l.any fun p => !(p.eqv zz)) = !(l.all fun d => d.eqv zz) := by
  induction l with
  | nil => rfl
  | cons a l ih => rw [List.any_cons, List.all_cons, ih, Bool.not_and]
/-- the second loop's body -/
theorem lrope_body {m p : Nat} {cs rs : D} {d : D} {s x1 x2 x3 : Option O} {many : Nat} {cl : List D} (hc : cs = .tup cl) (hcl : cl.length = many) (hm1 : 1 ≤ many) (hm : 1 ≤ m) (hp : p ≤ 12) (hd : Pl 60 p d = true) : ∃ e2, sSeq (rnSs tb [] (calls tb ds m) [.sif (.one [.no (.asB (.isI "tuple" (.var 4))), .cmp .NotEq (.blt .len [.var 4]) (.blt .len [.ix (.var 0) (.lit (.int 0))])]) [.ret (.lit (.bl false))] [], .sfor (.name 5) (.any (.var 4)) [.sif (.one [.no (.asB (.isI "tuple" (.var 5))), .cmp .NotEq (.blt .len [.var 5]) (.lit (.int 2))]) [.ret (.lit (.bl false))] [], .sif (.cmp .NotEq (.lc [6] (.name 6) (.any (.var 5)) (.no (.asB (.fn 8 [.var 6, .lit (.int 0), .lit (.int 4)]))) (.var 6)) (.lst [])) [.ret (.lit (.bl false))] []], .sif (.cmp .Eq (.var 4) (.bin .Mult (.tup [.tup [.lit (.int 0), .lit (.int 0)]]) (.blt .len [.var 4]))) [.ret (.lit (.bl false))] []])
   [some (.frz (.tup [cs, rs])), x1, x2, x3, some (.frz d), s, none] = (if yStr many d then .next e2 else .ret (.frz (.bl false)) e2) ∧ ∃ s', e2 = [some (.frz (.tup [cs, rs])), x1, x2, x3, some (.frz d), s', none] := by
  cases d with
  | scr _ => cases p <;> cases hd
  | dK _ _ => cases p <;> cases hd
  | tup l =>
    obtain ⟨p2, rfl, hl, hp'⟩ := pl_tup hd
    by_cases h1 : l.length = many
    · obtain ⟨e', h4, x, rfl⟩ := loop_all (tg := .name 5) (body := sSeq (rnSs tb [] (calls tb ds m) [.sif (.one [.no (.asB (.isI "tuple" (.var 5))), .cmp .NotEq (.blt .len [.var 5]) (.lit (.int 2))]) [.ret (.lit (.bl false))] [], .sif (.cmp .NotEq (.lc [6] (.name 6) (.any (.var 5)) (.no (.asB (.fn 8 [.var 6, .lit (.int 0), .lit (.int 4)]))) (.var 6)) (.lst [])) [.ret (.lit (.bl false))] []])) (items := l)
        (fun e => ∃ x, e = [some (.frz (.tup [cs, rs])), x1, x2, x3, some (.frz (.tup l)), x, none]) yPair (.frz (.bl false)) (e := [some (.frz (.tup [cs, rs])), x1, x2, x3, some (.frz (.tup l)), s, none]) ⟨_, rfl⟩ (fun d hd e ⟨x, he⟩ => by
          subst he
          obtain ⟨e2, h5, h6⟩ := lpair_body (m := m) (t := .tup [cs, rs]) (x1 := x1) (x2 := x2) (x3 := x3) (s := some (.frz (.tup l))) hm (by omega) (hp' d hd)
          exact ⟨_, rfl, e2, h5, _, h6⟩)
      refine ⟨_, ?_, x, rfl⟩
      have q := dEq_rep (p := p2) (l := l) (by omega) (by omega) hp'
      rw [h1] at q
      unfold zz at q
      have hne : l ≠ [] := by
        intro h
        subst h
        simp at h1
        omega
      have hi : dNe (.int many) (.int many) = some false := by simp [dNe, dEq_int]
      have mu : dMul (.tup [.tup [.int 0, .int 0]]) (.int many) = some (.frz (.tup (List.replicate many [D.tup [.int 0, .int 0]]).flatten)) := by
        have : (1 : Int) ≤ many ∧ (many : Int) ≤ 1000 := by omega
        simp [dMul, this]
      have fl : (List.replicate many [D.tup [.int 0, .int 0]]).flatten = List.replicate many (D.tup [.int 0, .int 0]) := by simp
      rw [fl] at q mu
      by_cases h7 : l.all yPair = true
      · rw [if_pos h7] at h4
        simp [argOf, opdOf, bOf] at h4
        have z : yStr many (.tup l) = !(l.all fun d => d.eqv zz) := by
          show (decide ((l.length : Int) = many) && l.all yPair && l.any fun p => !(p.eqv zz)) = _
          rw [h7, any_not_all]
          simp [h1]
        rw [z]
        subst hc
        cases hz : l.all fun d => d.eqv zz
        · rw [show (l.all fun d => d.eqv (.tup [.int 0, .int 0])) = false from hz] at q
          simp [argOf, opdOf, isI, bOf, bLen, dCmp, dBin, hi, ix0, hcl, h1, itemsOf, okP, h4, small_le, mu, q]
        · rw [show (l.all fun d => d.eqv (.tup [.int 0, .int 0])) = true from hz] at q
          simp [argOf, opdOf, isI, bOf, bLen, dCmp, dBin, hi, ix0, hcl, h1, itemsOf, okP, h4, small_le, mu, q]
      · rw [if_neg h7] at h4
        simp [argOf, opdOf, bOf] at h4
        have z : yStr many (.tup l) = false := by
          show (decide ((l.length : Int) = many) && l.all yPair && l.any fun p => !(p.eqv zz)) = _
          rw [Bool.not_eq_true] at h7
          rw [h7]
          simp
        rw [z]
        subst hc
        simp [argOf, opdOf, isI, bOf, bLen, dCmp, dBin, hi, ix0, hcl, h1, itemsOf, okP, h4]
    · refine ⟨_, ?_, s, rfl⟩
      have hi : dNe (.int l.length) (.int many) = some true := by simp [dNe, dEq_int]; omega
      have z : yStr many (.tup l) = false := by
        have : ¬ (l.length : Int) = many := by omega
        unfold yStr
        simp [this]
      rw [z]
      subst hc
      simp [argOf, opdOf, isI, bOf, bLen, dCmp, dBin, hi, ix0, hcl]
  | _ =>
    refine ⟨_, ?_, s, rfl⟩
    simp [argOf, opdOf, isI, yStr]
/-- _law_is_hall -/
theorem lhall_ok {n p : Nat} {d : D} (hn : 4 ≤ n) (hp : p ≤ 12) (h : Pl 60 p d = true) : calls tb ds n 15 [.frz d] = .ok (.frz (.bl (yHall d))) [none] := by
  obtain ⟨m, rfl, hm⟩ := up1 hn
  cases d with
  | scr _ => cases p <;> cases h
  | dK _ _ => cases p <;> cases h
  | tup l =>
    obtain ⟨p', rfl, hl, hp'⟩ := pl_tup h
    match l, hp' with
    | [], _ => simp [r15, c15, startE, argOf, isI, bOf, bLen, dCmp, dNe, dEq_int, opdOf, yHall]
    | [a], _ => simp [r15, c15, startE, argOf, isI, bOf, bLen, dCmp, dNe, dEq_int, opdOf, yHall]
    | a :: b :: c :: l, _ =>
      have : ¬ ((l.length : Int) + 1 + 1 + 1 = 2) := by omega
      simp [r15, c15, startE, argOf, isI, bOf, bLen, dCmp, dNe, dEq_int, opdOf, yHall, this]
    | [cars, ropes], hp' =>
      have pc := hp' cars (by simp)
      have pr := hp' ropes (by simp)
      have w1 := lrows_ok (n := m) (parts := 3) (by omega) pc (by omega)
      have w2 := lrows_ok (n := m) (parts := 2) (by omega) pr (by omega)
      by_cases h1 : yRows 3 cars = true
      · by_cases h2 : yRows 2 ropes = true
        · obtain ⟨cs, rfl, a1, a2, a3⟩ := yRows_shape h1
          obtain ⟨rs, rfl, b1, b2, b3⟩ := yRows_shape h2
          obtain ⟨p2, rfl, _, qc⟩ := pl_tup pc
          obtain ⟨_, e, _, qr⟩ := pl_tup pr
          cases e
          obtain ⟨e', h8, hJ⟩ := loop_all (tg := .tup [1, 2, 3]) (body := sSeq (rnSs tb [] (calls tb ds m) [.sif (.one [.no (.asB (.fn 8 [.var 2, .lit (.int 1), .lit (.int 60)])), .no (.asB (.fn 8 [.var 3, .lit (.int 1), .lit (.int 30)]))]) [.ret (.lit (.bl false))] []])) (items := cs)
            (fun e => ∃ x1 x2 x3, e = [some (.frz (.tup [.tup cs, .tup rs])), x1, x2, x3, none, none, none]) yCar (.frz (.bl false))
            (e := [some (.frz (.tup [.tup cs, .tup rs])), none, none, none, none, none, none]) ⟨_, _, _, rfl⟩ (fun d hd e ⟨x1, x2, x3, he⟩ => by
              subst he
              obtain ⟨x, y, z, rfl⟩ := row3 (List.all_eq_true.mp a3 d hd)
              obtain ⟨p3, rfl, _, q⟩ := pl_tup (qc _ hd)
              have u1 := lint_ok (n := m) (lo := 1) (hi := 60) (by omega) (q y (by simp))
              have u2 := lint_ok (n := m) (lo := 1) (hi := 30) (by omega) (q z (by simp))
              refine ⟨[some (.frz (.tup [.tup cs, .tup rs])), some (.frz x), some (.frz y), some (.frz z), none, none, none], rfl, [some (.frz (.tup [.tup cs, .tup rs])), some (.frz x), some (.frz y), some (.frz z), none, none, none], ?_, _, _, _, rfl⟩
              cases hy : yInt y 1 60 <;> cases hz : yInt z 1 30 <;> rw [hy] at u1 <;> rw [hz] at u2 <;> simp [argOf, opdOf, u1, u2, yCar, hy, hz])
          by_cases h3 : cs.all yCar = true
          · rw [if_pos h3] at h8
            obtain ⟨y1, y2, y3, rfl⟩ := hJ
            obtain ⟨e', g8, hJ⟩ := loop_all (tg := .tup [1, 4]) (body := sSeq (rnSs tb [] (calls tb ds m) [.sif (.one [.no (.asB (.isI "tuple" (.var 4))), .cmp .NotEq (.blt .len [.var 4]) (.blt .len [.ix (.var 0) (.lit (.int 0))])]) [.ret (.lit (.bl false))] [], .sfor (.name 5) (.any (.var 4)) [.sif (.one [.no (.asB (.isI "tuple" (.var 5))), .cmp .NotEq (.blt .len [.var 5]) (.lit (.int 2))]) [.ret (.lit (.bl false))] [], .sif (.cmp .NotEq (.lc [6] (.name 6) (.any (.var 5)) (.no (.asB (.fn 8 [.var 6, .lit (.int 0), .lit (.int 4)]))) (.var 6)) (.lst [])) [.ret (.lit (.bl false))] []], .sif (.cmp .Eq (.var 4) (.bin .Mult (.tup [.tup [.lit (.int 0), .lit (.int 0)]]) (.blt .len [.var 4]))) [.ret (.lit (.bl false))] []])) (items := rs)
              (fun e => ∃ x1 x4 x5, e = [some (.frz (.tup [.tup cs, .tup rs])), x1, y2, y3, x4, x5, none]) (yRope cs.length) (.frz (.bl false))
              (e := [some (.frz (.tup [.tup cs, .tup rs])), y1, y2, y3, none, none, none]) ⟨_, _, _, rfl⟩ (fun d hd e ⟨x1, x4, x5, he⟩ => by
                subst he
                obtain ⟨x, y, rfl⟩ := row2 (List.all_eq_true.mp b3 d hd)
                obtain ⟨p3, rfl, _, q⟩ := pl_tup (qr _ hd)
                obtain ⟨e2, k1, s', rfl⟩ := lrope_body (m := m) (cs := .tup cs) (rs := .tup rs) (x1 := some (.frz x)) (x2 := y2) (x3 := y3) (s := x5) (many := cs.length) rfl rfl a1 (by omega) (by omega) (q y (by simp))
                exact ⟨_, rfl, _, k1, _, _, _, rfl⟩)
            obtain ⟨z1, z4, z5, rfl⟩ := hJ
            simp [argOf, opdOf, bOf] at h8
            by_cases h4 : rs.all (yRope cs.length) = true
            · rw [if_pos h4] at g8
              simp [argOf, opdOf, bOf, dBin] at g8
              simp [r15, c15, startE, argOf, isI, bOf, bLen, dCmp, dNe, dEq_int, opdOf, dBin, itemsOf, okP, ix0, ix1, w1, w2, h1, h2, h3, h4, h8, g8, yHall, itemsT]
            · rw [if_neg h4] at g8
              rw [Bool.not_eq_true] at h4
              simp [argOf, opdOf, bOf, dBin] at g8
              simp [r15, c15, startE, argOf, isI, bOf, bLen, dCmp, dNe, dEq_int, opdOf, dBin, itemsOf, okP, ix0, ix1, w1, w2, h1, h2, h3, h4, h8, g8, yHall, itemsT]
          · rw [if_neg h3] at h8
            rw [Bool.not_eq_true] at h3
            obtain ⟨y1, y2, y3, rfl⟩ := hJ
            simp [argOf, opdOf, bOf] at h8
            simp [r15, c15, startE, argOf, isI, bOf, bLen, dCmp, dNe, dEq_int, opdOf, dBin, itemsOf, okP, ix0, ix1, w1, w2, h1, h2, h3, h8, yHall, itemsT]
        · rw [Bool.not_eq_true] at h2
          rw [h1] at w1
          rw [h2] at w2
          simp [r15, c15, startE, argOf, isI, bOf, bLen, dCmp, dNe, dEq_int, opdOf, ix0, ix1, w1, w2, h1, h2, yHall]
      · rw [Bool.not_eq_true] at h1
        rw [h1] at w1
        simp [r15, c15, startE, argOf, isI, bOf, bLen, dCmp, dNe, dEq_int, opdOf, ix0, ix1, w1, h1, yHall]
  | _ => simp [r15, c15, startE, argOf, isI, yHall]
end LR

set_option Elab.async false
set_option linter.all false
set_option maxRecDepth 100000
set_option maxHeartbeats 4000000
namespace LR
open PySem PySem.Spec PyProof.Rows L2
/-! ### the well -/
def WO (a b p : Int) : Prop := 0 ≤ b ∧ b < 2 ^ 33 ∧ 1 ≤ p ∧ p < 2 ^ 32
theorem log2_lt_of {n k : Nat} (h : n < 2 ^ (k + 1)) : n.log2 ≤ k := by
  by_cases z : n = 0
  · subst z; simp
  · exact Nat.le_of_lt_succ ((Nat.log2_lt z).mpr h)
theorem cm_small {i j : Int} (hi : i.natAbs < 2 ^ 64) (hj : j.natAbs < 2 ^ 64) : CM i j := by
  have a := log2_lt_of (k := 63) hi
  have b := log2_lt_of (k := 63) hj
  unfold CM
  omega
theorem cf_small {i : Int} (hi : i.natAbs < 2 ^ 64) (h : i ≠ 0) : CF i := by
  have a := log2_lt_of (k := 63) hi
  exact ⟨h, by omega⟩
/-- _law_take -/
theorem draw_ok {n : Nat} {a b p many : Int} (hn : 1 ≤ n) (w : WO a b p) (h0 : 1 ≤ many) (h1 : many ≤ 1000) : ∃ r a' b', calls tb ds n 7 [.lst [.int a, .int b, .int p], .frz (.int many)] = .ok (.frz (.int r)) [some (.lst [.int a', .int b', .int p]), none] ∧ 0 ≤ r ∧ r < many ∧ WO a' b' p := by
  obtain ⟨m, rfl, _⟩ := up1 hn
  have hm0 : many ≠ 0 := by omega
  have hcf : CF many := cf_small (by omega) hm0
  by_cases h : 0 < a
  · refine ⟨a.fmod many, a.fdiv many, b, ?_, Int.fmod_nonneg (by omega) (by omega), Int.fmod_lt_of_pos _ (by omega), w⟩
    simp [r7, c7, startE, opdOf, h, hcf, hm0, dCmp, dGt, dIx, L2.atI, L2.ixN, dBin, dMod, dDiv, okP, put1, setD, pinOf]
  · obtain ⟨b0, b1, p0, p1⟩ := w
    have e1 : CM b 48271 := cm_small (by omega) (by decide)
    have hp0 : p ≠ 0 := by omega
    have g0 : 0 ≤ (b * 48271).fmod p := Int.fmod_nonneg (by omega) (by omega)
    have g1 : (b * 48271).fmod p < p := Int.fmod_lt_of_pos _ (by omega)
    have e2 : CM ((b * 48271).fmod p + 1) ((b * 48271).fmod p + 1) := cm_small (by omega) (by omega)
    have e3 : CF 7 := cf_small (by decide) (by decide)
    refine ⟨((((b * 48271).fmod p + 1) * ((b * 48271).fmod p + 1)).fmod 2147483423 |>.fdiv 7).fmod many, a, (b * 48271).fmod p + 1, ?_, Int.fmod_nonneg ?_ (by omega), Int.fmod_lt_of_pos _ (by omega), by omega, by omega, p0, p1⟩
    · simp [r7, c7, startE, opdOf, h, hcf, hm0, dCmp, dGt, dIx, L2.atI, L2.ixN, dBin, dMod, dDiv, dMul, dAdd, okP, put1, setD, pinOf, e1, e2, e3, hp0]
    · exact Int.fdiv_nonneg (Int.fmod_nonneg (Int.mul_nonneg (by omega) (by omega)) (by omega)) (by omega)
theorem ix_mem {ds : List D} {r : Int} (h0 : 0 ≤ r) (h1 : r < ds.length) : ∃ x ∈ ds, dIx (.lst ds) (.int r) = some (.frz x) := by
  obtain ⟨k, rfl⟩ := Int.eq_ofNat_of_zero_le h0
  have hk : k < ds.length := by omega
  refine ⟨ds[k], List.getElem_mem hk, ?_⟩
  simp [dIx, L2.atI, L2.ixN, hk]
def things : List D := [.int 0, .int (-1), .int 1, .bl true, .bl false, .non, .str "", .str "a", .str "ab", .str "A", .str "a b", .str "abcdefghi", .int 2, .int 3, .int (-7), .str "take", .int 100000000000, .int 8, .tup [], .lst [], .tup [.int 0, .int 1]]
theorem things_pl : ∀ x ∈ things, Pl 9 1 x = true := by decide +kernel
/-- _law_thing -/
theorem thing_ok : ∀ {deep n : Nat} {a b p : Int}, deep + 2 ≤ n → deep ≤ 8 → WO a b p → ∃ d a' b', calls tb ds n 10 [.lst [.int a, .int b, .int p], .frz (.int deep)] = .ok (.frz d) [some (.lst [.int a', .int b', .int p]), none] ∧ Pl 9 (deep + 1) d = true ∧ WO a' b' p
  | deep, n, a, b, p, hn, hd, w => by
    obtain ⟨m, rfl, hm⟩ := up1 (L := deep + 1) hn
    obtain ⟨way, a1, b1, h1, h2, h3, w1⟩ := draw_ok (n := m) (many := 9) (by omega) w (by omega) (by omega)
    by_cases h4 : way < 6 ∨ (deep : Int) = 0
    · obtain ⟨r, a2, b2, h5, h6, h7, w2⟩ := draw_ok (n := m) (many := 21) (by omega) w1 (by omega) (by omega)
      obtain ⟨x, hx, h8⟩ := ix_mem (ds := things) h6 (by simp [things]; omega)
      refine ⟨x, a2, b2, ?_, pl_mono (Nat.le_refl _) (by omega) (things_pl x hx), w2⟩
      unfold things at h8
      rcases h4 with h4 | h4
      · simp [r10, c10, startE, argOf, opdOf, h1, h4, h5, h8, dCmp, dLt, dNeg, dBin, dPow, dAdd, okP, put1, pinOf, small]
      · by_cases h9 : way < 6
        · simp [r10, c10, startE, argOf, opdOf, h1, h9, h4, h5, h8, dCmp, dLt, dNeg, dBin, dPow, dAdd, okP, put1, pinOf, small]
        · simp [r10, c10, startE, argOf, opdOf, h1, h9, h4, h5, h8, dCmp, dLt, dEq, D.deep, D.eqv, dNeg, dBin, dPow, dAdd, okP, put1, pinOf, small]
    · have h4' : ¬ way < 6 := fun h => h4 (.inl h)
      have hd0 : ¬ (deep : Int) = 0 := fun h => h4 (.inr h)
      cases deep with
      | zero => exact absurd rfl hd0
      | succ dp =>
      obtain ⟨dd, hdd⟩ : ∃ dd : Int, dd = ((dp + 1 : Nat) : Int) := ⟨_, rfl⟩
      have ed : dd - 1 = dp := by omega
      rw [← hdd] at hd0 ⊢
      obtain ⟨cnt, a2, b2, h5, h6, h7, w2⟩ := draw_ok (n := m) (many := 6) (by omega) w1 (by omega) (by omega)
      obtain ⟨l, e', h8, ⟨a3, b3, rfl, w3⟩, h9, h10⟩ := lc_some (vs := [4]) (tg := .name 4) (tt := bYes) (te := rnX tb [0] (calls tb ds m) (.fn 10 [.ref 0, .bin .Sub (.var 1) (.lit (.int 1))])) (items := upFrom 0 cnt.toNat) (acc := []) (e := [some (.lst [.int a2, .int b2, .int p]), some (.frz (.int dd)), some (.frz (.int way)), none, none, none])
        (fun e => ∃ a b, e = [some (.lst [.int a, .int b, .int p]), some (.frz (.int dd)), some (.frz (.int way)), none, none, none] ∧ WO a b p) (fun d => Pl 9 (dp + 1) d = true) (by rw [upFrom_len]; simp; omega) ⟨_, _, rfl, w2⟩ (by simp) (fun d hd e ⟨a, b, he, w⟩ => by
          subst he
          obtain ⟨y, a', b', k1, k2, k3⟩ := thing_ok (deep := dp) (n := m) (by omega) (by omega) w
          refine ⟨[some (.lst [.int a, .int b, .int p]), some (.frz (.int dd)), some (.frz (.int way)), none, some (.frz d), none], _, [some (.lst [.int a', .int b', .int p]), some (.frz (.int dd)), some (.frz (.int way)), none, some (.frz d), none], y, rfl, rfl, ?_, k2, _, _, rfl, k3⟩
          simp only [v_fn, q_toV]
          simp [argOf, opdOf, dBin, dSub, k1, ed])
      rw [upFrom_len] at h9
      have hl : small l.length = true := small_le (by simp at h9; omega)
      have h10' : Pls 9 (dp + 1) l = true := pls_iff.mpr h10
      have hll : l.length ≤ 9 := by simp at h9; omega
      have sz : inSize cnt = true := by simp [inSize]; omega
      simp [argOf, opdOf, dBin] at h8
      rcases (by omega : way = 6 ∨ way = 7 ∨ way = 8) with rfl | rfl | rfl
      · refine ⟨.lst l, a3, b3, ?_, by unfold Pl; simp [hll, h10'], w3⟩
        simp [r10, c10, startE, argOf, opdOf, h1, hd0, h5, h8, bOf, bTuple, dCmp, dLt, dEq_int, dBin, dSub, okP, put1, pinOf, small_le, sz, subL, aside, wipeE, dIx, L2.atI, L2.ixN]
        done
      · refine ⟨.tup l, a3, b3, ?_, by unfold Pl; simp [hll, h10'], w3⟩
        simp [r10, c10, startE, argOf, opdOf, h1, hd0, h5, h8, bOf, bTuple, dCmp, dLt, dEq_int, dBin, dSub, okP, put1, pinOf, small_le, sz, subL, aside, wipeE, dIx, L2.atI, L2.ixN]
        done
      · refine ⟨.tup l, a3, b3, ?_, by unfold Pl; simp [hll, h10'], w3⟩
        simp [r10, c10, startE, argOf, opdOf, h1, hd0, h5, h8, bOf, bTuple, dCmp, dLt, dEq_int, dBin, dSub, okP, put1, pinOf, small_le, sz, subL, aside, wipeE, dIx, L2.atI, L2.ixN]
        done
termination_by deep => deep
end LR
set_option Elab.async false
set_option linter.all false
set_option maxRecDepth 100000
set_option maxHeartbeats 4000000
namespace LR
open PySem PySem.Spec PyProof.Rows L2
def rest11 : List Cd := c11.drop 4
theorem c11_split : c11 = .set 3 (.blt .list [.var 1]) :: .sif (.cmp .Eq (.var 3) (.lst [])) [.ret (.tup [.fn 10 [.ref 0, .lit (.int 1)]])] [] :: .set 4 (.fn 7 [.ref 0, .blt .len [.var 3]]) :: .sif (.all [.asB (.isI "tuple" (.ix (.var 3) (.var 4))), .cmp .Gt (.var 2) (.lit (.int 0)), .cmp .Gt (.fn 7 [.ref 0, .lit (.int 4)]) (.lit (.int 0))]) [.sub 3 (.var 4) (.fn 11 [.ref 0, .ix (.var 3) (.var 4), .bin .Sub (.var 2) (.lit (.int 1))]), .ret (.blt .tuple [.var 3])] []:: rest11 := rfl
theorem ixN_ok {n : Nat} {r : Int} (h0 : 0 ≤ r) (h1 : r < n) : L2.ixN n r = some r.toNat := by
  simp [L2.ixN, h0, h1]
theorem strOk_app {s t : Str} (h : PyData.strOk s = true) (k : PyData.strOk t = true) : PyData.strOk (s ++ t) = true := by
  unfold PyData.strOk at h k ⊢
  show (s.cps ++ t.cps).all _ = true
  rw [Array.all_append, h, k]
  rfl
theorem pl_int {b n : Nat} {i : Int} : Pl b n (.int i) = true := by cases n <;> rfl
def near : List D := [.int 0, .int 1, .int (-1), .int 2, .int 8, .int 9, .int 200, .int 201, .int 400, .int 401, .non, .bl true, .bl false, .str "a", .tup [], .tup [.int 1, .int 1], .tup [.int 2, .int 4], .tup [.int 0, .int 1], .int 7, .str "cut"]
theorem near_pl : ∀ x ∈ near, Pl 9 1 x = true := by decide +kernel
def adds : List D := [.int 1, .int (-1), .int 8, .int (-12)]
def glue : List D := [.str "a", .str "A", .str " ", .str "bbbbbbbb"]
theorem mem_set' {l : List D} {k : Nat} {x y : D} {P : D → Prop} (h : ∀ d ∈ l, P d) (hx : P x) (hy : y ∈ l.set k x) : P y := by
  rcases List.mem_or_eq_of_mem_set hy with h1 | h1
  · exact h y h1
  · rw [h1]; exact hx
/-- the turns of _law_otherwise -/
theorem rest_ok {m q : Nat} {a b p r deep : Int} {l : List D} (hm : 4 ≤ m) (w : WO a b p) (hq : q ≤ 7) (hl : l.length ≤ 20) (hp : ∀ d ∈ l, Pl 20 q d = true) (h0 : 0 ≤ r) (h1 : r < l.length) :
    ∃ o d a' b' e', sSeq (rnSs tb [0] (calls tb ds m) rest11) [some (.lst [.int a, .int b, .int p]), some (.frz (.tup l)), some (.frz (.int deep)), some (.lst l), some (.frz (.int r)), none, none] = .ret o (some (.lst [.int a', .int b', .int p]) :: e') ∧ outsOf [false, false] e' = [none, none] ∧ o.val = some d ∧ Pl 40 (q + 5) d = true ∧ WO a' b' p := by
  obtain ⟨way, a1, b1, h2, h3, h4, w1⟩ := draw_ok (n := m) (many := 9) (by omega) w (by omega) (by omega)
  obtain ⟨x, hx, h5⟩ := ix_mem (ds := l) h0 h1
  have h6 := ixN_ok (n := l.length) h0 h1
  have big : ∀ d ∈ l, Pl 40 (q + 4) d = true := fun d hd => pl_mono (by omega) (by omega) (hp d hd)
  have T : ∀ L : List D, L.length ≤ 40 → (∀ d ∈ L, Pl 40 (q + 4) d = true) → Pl 40 (q + 5) (.tup L) = true := fun L h k => by
    unfold Pl
    rw [pls_iff.mpr k, Bool.and_true]
    exact decide_eq_true h
  have Tl : ∀ L : List D, L.length ≤ 40 → (∀ d ∈ L, Pl 40 (q + 4) d = true) → Pl 40 (q + 5) (.lst L) = true := fun L h k => by
    unfold Pl
    rw [pls_iff.mpr k, Bool.and_true]
    exact decide_eq_true h
  have hr : r.toNat < l.length := by omega
  have sm : small l.length = true := small_le (by omega)
  rcases (by omega : way = 0 ∨ way = 1 ∨ way = 2 ∨ way = 3 ∨ way = 4 ∨ way = 5 ∨ way = 6 ∨ way = 7 ∨ way = 8) with rfl | rfl | rfl | rfl | rfl | rfl | rfl | rfl | rfl
  · -- pop
    have h7 : mRun .pop l [.int r] = some (l.eraseIdx r.toNat, l[r.toNat]) := by
      have c : -100000 ≤ r ∧ r < 100000 := by omega
      simp only [mRun]
      rw [if_pos c]
      have c2 : ¬ r < 0 := by omega
      simp [seqIndex?, c2, h0, h1, hr]
    refine ⟨.frz (.tup (l.eraseIdx r.toNat)), _, a1, b1, [some (.frz (.tup l)), some (.frz (.int deep)), some (.lst (l.eraseIdx r.toNat)), some (.frz (.int r)), some (.frz (.int 0)), none], ?_, ?_, rfl, T _ (Nat.le_trans (List.length_eraseIdx_le _ _) (by omega)) fun d hd => big d (List.mem_of_mem_eraseIdx hd), w1⟩
    · simp [rest11, c11, argOf, opdOf, bOf, bTuple, dCmp, dEq_int, okP, put1, pinOf, h2, h5, h7, isOwn, ownL]
      done
    · rfl
  · -- insert
    have h7 : mRun .insert l [.int r, x] = some (l.take r.toNat ++ [x] ++ l.drop r.toNat, .non) := by
      have c : small l.length = true ∧ 0 ≤ r ∧ r < 100000 := ⟨sm, by omega, by omega⟩
      simp only [mRun]
      rw [if_pos c]
    rw [List.append_assoc] at h7
    rw [List.singleton_append] at h7
    refine ⟨.frz (.tup (l.take r.toNat ++ x :: l.drop r.toNat)), _, a1, b1, [some (.frz (.tup l)), some (.frz (.int deep)), some (.lst (l.take r.toNat ++ x :: l.drop r.toNat)), some (.frz (.int r)), some (.frz (.int 1)), none], ?_, ?_, rfl, T _ (by simp; omega) fun d hd => by
      rcases List.mem_append.mp hd with h | h
      · exact big d (List.mem_of_mem_take h)
      · rcases List.mem_cons.mp h with rfl | h
        · exact big d hx
        · exact big d (List.mem_of_mem_drop h), w1⟩
    · simp [rest11, c11, argOf, opdOf, bOf, bTuple, dCmp, dEq_int, okP, put1, pinOf, isOwn, ownL, h2, h5, h7]
      done
    · rfl
  · -- turn about
    have h7 : 0 ≤ r ∧ r ≤ r + 2 ∧ r ≤ l.length ∧ small (l.length + (cut l (some r) (some (r + 2))).length) = true := ⟨h0, by omega, by omega, small_le (by unfold cut; simp; omega)⟩
    have h8 : ∀ d ∈ cut l (some r) (some (r + 2)), d ∈ l := fun d hd => by
      unfold cut at hd
      exact List.mem_of_mem_drop (List.mem_of_mem_take hd)
    have h9 : (cut l (some r) (some (r + 2))).length ≤ 20 := by unfold cut; simp; omega
    generalize hcs : cut l (some r) (some (r + 2)) = cs at h7 h8 h9
    refine ⟨.frz (.tup (l.take r.toNat ++ (cs.reverse ++ l.drop (r + 2).toNat))), _, a1, b1, [some (.frz (.tup l)), some (.frz (.int deep)), some (.lst (l.take r.toNat ++ (cs.reverse ++ l.drop (r + 2).toNat))), some (.frz (.int r)), some (.frz (.int 2)), none], ?_, ?_, rfl, T _ (by simp; omega) fun d hd => by
      rcases List.mem_append.mp hd with h | h
      · exact big d (List.mem_of_mem_take h)
      · rcases List.mem_append.mp h with h | h
        · exact big d (h8 d (List.mem_reverse.mp h))
        · exact big d (List.mem_of_mem_drop h), w1⟩
    · simp [rest11, c11, argOf, opdOf, bOf, bTuple, dCmp, dEq_int, okP, put1, pinOf, isOwn, ownL, h2, h5, sSsl, dSl, dRev, dBin, dAdd, hcs, h7]
      done
    · rfl
  · -- any thing
    obtain ⟨y, a2, b2, g1, g2, w2⟩ := thing_ok (deep := 2) (n := m) (by omega) (by omega) w1
    simp at g1
    refine ⟨.frz (.tup (l.set r.toNat y)), _, a2, b2, [some (.frz (.tup l)), some (.frz (.int deep)), some (.lst (l.set r.toNat y)), some (.frz (.int r)), some (.frz (.int 3)), none], ?_, ?_, rfl, T _ (by rw [List.length_set]; omega) fun d hd => mem_set' big (pl_mono (by omega) (by omega) g2) hd, w2⟩
    · simp [rest11, c11, argOf, opdOf, bOf, bTuple, dCmp, dEq_int, okP, put1, pinOf, isOwn, ownL, h2, h5, g1, setD, h6]
      done
    · rfl
  · -- near 4
    obtain ⟨i, a2, b2, g1, g2, g3, w2⟩ := draw_ok (n := m) (many := 20) (by omega) w1 (by omega) (by omega)
    obtain ⟨y, hy, g4⟩ := ix_mem (ds := near) g2 (by simp [near]; omega)
    have g5 := near_pl y hy
    unfold near at g4
    refine ⟨.frz (.tup (l.set r.toNat y)), _, a2, b2, [some (.frz (.tup l)), some (.frz (.int deep)), some (.lst (l.set r.toNat y)), some (.frz (.int r)), some (.frz (.int 4)), some (.lst near)], ?_, ?_, rfl, T _ (by rw [List.length_set]; omega) fun d hd => mem_set' big (pl_mono (by omega) (by omega) g5) hd, w2⟩
    · simp [rest11, c11, argOf, opdOf, bOf, bTuple, dCmp, dEq_int, okP, put1, pinOf, isOwn, ownL, h2, h5, near, g1, g4, setD, h6, dNeg, small_le]
      done
    · rfl
  · -- near 5
    obtain ⟨i, a2, b2, g1, g2, g3, w2⟩ := draw_ok (n := m) (many := 20) (by omega) w1 (by omega) (by omega)
    obtain ⟨y, hy, g4⟩ := ix_mem (ds := near) g2 (by simp [near]; omega)
    have g5 := near_pl y hy
    unfold near at g4
    refine ⟨.frz (.tup (l.set r.toNat y)), _, a2, b2, [some (.frz (.tup l)), some (.frz (.int deep)), some (.lst (l.set r.toNat y)), some (.frz (.int r)), some (.frz (.int 5)), some (.lst near)], ?_, ?_, rfl, T _ (by rw [List.length_set]; omega) fun d hd => mem_set' big (pl_mono (by omega) (by omega) g5) hd, w2⟩
    · simp [rest11, c11, argOf, opdOf, bOf, bTuple, dCmp, dEq_int, okP, put1, pinOf, isOwn, ownL, h2, h5, near, g1, g4, setD, h6, dNeg, small_le]
      done
    · rfl
  · -- a whole number
    have hx2 := hp x hx
    cases x with
    | scr _ => cases q <;> cases hx2
    | dK _ _ => cases q <;> cases hx2
    | int v =>
      obtain ⟨i, a2, b2, g1, g2, g3, w2⟩ := draw_ok (n := m) (many := 4) (by omega) w1 (by omega) (by omega)
      obtain ⟨y, hy, g4⟩ := ix_mem (ds := adds) g2 (by simp [adds]; omega)
      obtain ⟨z, rfl⟩ : ∃ z, y = .int z := by
        simp [adds] at hy
        rcases hy with rfl | rfl | rfl | rfl <;> exact ⟨_, rfl⟩
      unfold adds at g4
      refine ⟨.frz (.tup (l.set r.toNat (.int (v + z)))), _, a2, b2, [some (.frz (.tup l)), some (.frz (.int deep)), some (.lst (l.set r.toNat (.int (v + z)))), some (.frz (.int r)), some (.frz (.int 6)), none], ?_, ?_, rfl, T _ (by rw [List.length_set]; omega) fun d hd => mem_set' big pl_int hd, w2⟩
      · simp [rest11, c11, argOf, opdOf, bOf, bTuple, dCmp, dEq_int, okP, put1, pinOf, isOwn, ownL, h2, h5, g1, g4, setD, h6, dNeg, small_le, isI, dBin, dAdd]
        done
      · rfl
    | _ =>
      refine ⟨.lst l, _, a1, b1, [some (.frz (.tup l)), some (.frz (.int deep)), none, some (.frz (.int r)), some (.frz (.int 6)), none], ?_, ?_, rfl, Tl _ (by omega) big, w1⟩
      · simp [rest11, c11, argOf, opdOf, bOf, bTuple, dCmp, dEq_int, okP, put1, pinOf, isOwn, ownL, h2, h5, isI]
        done
      · rfl
  · -- a list
    have hx2 := hp x hx
    cases x with
    | scr _ => cases q <;> cases hx2
    | dK _ _ => cases q <;> cases hx2
    | tup v =>
      obtain ⟨q', rfl, v1, v2⟩ := pl_tup hx2
      refine ⟨.frz (.tup (l.set r.toNat (.lst v))), _, a1, b1, [some (.frz (.tup l)), some (.frz (.int deep)), some (.lst (l.set r.toNat (.lst v))), some (.frz (.int r)), some (.frz (.int 7)), none], ?_, ?_, rfl, T _ (by rw [List.length_set]; omega) fun d hd => mem_set' big (by
        unfold Pl
        rw [pls_iff.mpr fun d hd => pl_mono (by omega) (by omega) (v2 d hd), Bool.and_true]
        exact decide_eq_true (by omega)) hd, w1⟩
      · simp [rest11, c11, argOf, opdOf, bOf, bTuple, dCmp, dEq_int, okP, put1, pinOf, isOwn, ownL, h2, h5, setD, h6, isI, bList]
        done
      · rfl
    | _ =>
      refine ⟨.lst l, _, a1, b1, [some (.frz (.tup l)), some (.frz (.int deep)), none, some (.frz (.int r)), some (.frz (.int 7)), none], ?_, ?_, rfl, Tl _ (by omega) big, w1⟩
      · simp [rest11, c11, argOf, opdOf, bOf, bTuple, dCmp, dEq_int, okP, put1, pinOf, isOwn, ownL, h2, h5, isI]
        done
      · rfl
  · -- a text
    have hx2 := hp x hx
    cases x with
    | scr _ => cases q <;> cases hx2
    | dK _ _ => cases q <;> cases hx2
    | str v =>
      obtain ⟨i, a2, b2, g1, g2, g3, w2⟩ := draw_ok (n := m) (many := 4) (by omega) w1 (by omega) (by omega)
      obtain ⟨y, hy, g4⟩ := ix_mem (ds := glue) g2 (by simp [glue]; omega)
      obtain ⟨z, rfl, z1, z2⟩ : ∃ z, y = .str z ∧ z.length ≤ 8 ∧ PyData.strOk z = true := by
        simp [glue] at hy
        rcases hy with rfl | rfl | rfl | rfl <;> exact ⟨_, rfl, by decide +kernel, by decide +kernel⟩
      unfold glue at g4
      have v1 : v.length ≤ 20 ∧ PyData.strOk v = true := by
        have : pStr 20 v = true := by cases q <;> exact hx2
        unfold pStr at this
        simpa using this
      have v3 : (v ++ z).length = v.length + z.length := by
        show (v.cps ++ z.cps).size = _
        rw [Array.size_append]
        rfl
      have sz : small (v.length + z.length) = true := small_le (by omega)
      have v4 : Pl 40 (q + 4) (.str (v ++ z)) = true := by
        unfold Pl pStr
        rw [strOk_app v1.2 z2, Bool.and_true]
        exact decide_eq_true (by omega)
      refine ⟨.frz (.tup (l.set r.toNat (.str (v ++ z)))), _, a2, b2, [some (.frz (.tup l)), some (.frz (.int deep)), some (.lst (l.set r.toNat (.str (v ++ z)))), some (.frz (.int r)), some (.frz (.int 8)), none], ?_, ?_, rfl, T _ (by rw [List.length_set]; omega) fun d hd => mem_set' big v4 hd, w2⟩
      · simp [rest11, c11, argOf, opdOf, bOf, bTuple, dCmp, dEq_int, okP, put1, pinOf, isOwn, ownL, h2, h5, g1, g4, setD, h6, small_le, isI, dBin, dAdd, sz]
        done
      · rfl
    | _ =>
      refine ⟨.lst l, _, a1, b1, [some (.frz (.tup l)), some (.frz (.int deep)), none, some (.frz (.int r)), some (.frz (.int 8)), none], ?_, ?_, rfl, Tl _ (by omega) big, w1⟩
      · simp [rest11, c11, argOf, opdOf, bOf, bTuple, dCmp, dEq_int, okP, put1, pinOf, isOwn, ownL, h2, h5, isI]
        done
      · rfl
theorem pl_mk {b n : Nat} {l : List D} (h : l.length ≤ b) (k : ∀ d ∈ l, Pl b n d = true) : Pl b (n + 1) (.tup l) = true := by
  unfold Pl
  rw [pls_iff.mpr k, Bool.and_true]
  exact decide_eq_true h
/-- _law_otherwise -/
theorem other_ok : ∀ {deep n q : Nat} {a b p : Int} {l : List D}, deep + 6 ≤ n → deep ≤ 8 → q ≤ 7 → WO a b p → Pl 20 (q + 1) (.tup l) = true →
    ∃ o d a' b', calls tb ds n 11 [.lst [.int a, .int b, .int p], .frz (.tup l), .frz (.int deep)] = .ok o [some (.lst [.int a', .int b', .int p]), none, none] ∧ o.val = some d ∧ Pl 40 (q + 5) d = true ∧ WO a' b' p
  | deep, n, q, a, b, p, l, hn, hd, hq, w, h => by
    obtain ⟨m, rfl, hm⟩ := up1 (L := deep + 5) hn
    obtain ⟨_, e, hl, hp⟩ := pl_tup h
    cases e
    have e0 : dEq (.lst l) (.lst []) = some l.isEmpty := dEq_empty (by omega) (deeps_iff.mpr fun d hd => pl_deep (b := 20) (by omega) (pl_mono (Nat.le_refl _) (by omega) (hp d hd)))
    by_cases hne : l = []
    · subst hne
      obtain ⟨y, a2, b2, g1, g2, w2⟩ := thing_ok (deep := 1) (n := m) (by omega) (by omega) w
      simp at g1
      have e1 : dEq (.lst []) (.lst []) = some true := e0
      refine ⟨.frz (.tup [y]), _, a2, b2, ?_, rfl, ?_, w2⟩
      · simp [r11, c11_split, startE, argOf, opdOf, bOf, bList, dCmp, okP, put1, pinOf, small_le, e1, g1]
      · exact pl_mk (n := q + 4) (by simp) fun d hd => by
          rw [List.mem_singleton] at hd
          subst hd
          exact pl_mono (n := 2) (by omega) (by omega) g2
    · have e1 : l.isEmpty = false := by
        cases l with
        | nil => exact absurd rfl hne
        | cons _ _ => rfl
      rw [e1] at e0
      have hlen : 1 ≤ l.length := by
        cases l with
        | nil => exact absurd rfl hne
        | cons _ _ => simp
      obtain ⟨r, a1, b1, h1, h2, h3, w1⟩ := draw_ok (n := m) (many := l.length) (by omega) w (by omega) (by omega)
      obtain ⟨x, hx, h5⟩ := ix_mem (ds := l) h2 h3
      have h6 := ixN_ok (n := l.length) h2 h3
      have hpx := hp x hx
      by_cases ht : ∃ v, x = .tup v
      · obtain ⟨v, rfl⟩ := ht
        have hi : isI "tuple" (.tup v) = some true := rfl
        by_cases hd0 : 0 < (deep : Int)
        · obtain ⟨c, a2, b2, k1, k2, k3, w2⟩ := draw_ok (n := m) (many := 4) (by omega) w1 (by omega) (by omega)
          by_cases hc : 0 < c
          · cases deep with
            | zero => simp at hd0
            | succ dp =>
            obtain ⟨q', rfl, hv, hpv⟩ := pl_tup hpx
            obtain ⟨o, d, a3, b3, g1, g2, g3, w3⟩ := other_ok (deep := dp) (n := m) (q := q') (l := v) (by omega) (by omega) (by omega) w2 hpx
            obtain ⟨dd, hdd⟩ : ∃ dd : Int, dd = ((dp + 1 : Nat) : Int) := ⟨_, rfl⟩
            have ed : dd - 1 = dp := by omega
            rw [← hdd] at hd0 ⊢
            refine ⟨.frz (.tup (l.set r.toNat d)), _, a3, b3, ?_, rfl, ?_, w3⟩
            · simp [r11, c11_split, startE, argOf, opdOf, bOf, bLen, bList, bTuple, dCmp, dGt, dBin, dSub, okP, put1, pinOf, small_le, e0, h1, h5, hi, hd0, k1, hc, ed, g1, g2, setD, h6]
            · exact pl_mk (n := q' + 1 + 4) (by rw [List.length_set]; omega) fun y hy => mem_set' (P := fun d => Pl 40 (q' + 5) d = true) (fun d hd => pl_mono (by omega) (by omega) (hp d hd)) g3 hy
          · obtain ⟨o, d, a3, b3, e', f1, f2, f3, f4, w3⟩ := rest_ok (m := m) (q := q) (deep := deep) (l := l) (by omega) w2 (by omega) hl hp h2 h3
            refine ⟨o, d, a3, b3, ?_, f3, f4, w3⟩
            have hd0' : 0 < deep := by omega
            simp [r11, c11_split, startE, argOf, opdOf, bOf, bLen, bList, bTuple, dCmp, dGt, dBin, dSub, okP, put1, pinOf, small_le, e0, h1, h5, hi, hd0', k1, hc, f1, f2]
        · obtain ⟨o, d, a3, b3, e', f1, f2, f3, f4, w3⟩ := rest_ok (m := m) (q := q) (deep := deep) (l := l) (by omega) w1 (by omega) hl hp h2 h3
          refine ⟨o, d, a3, b3, ?_, f3, f4, w3⟩
          have hd0' : deep = 0 := by omega
          subst hd0'
          simp at f1
          simp [r11, c11_split, startE, argOf, opdOf, bOf, bLen, bList, bTuple, dCmp, dGt, dBin, dSub, okP, put1, pinOf, small_le, e0, h1, h5, hi, f1, f2]
      · obtain ⟨o, d, a3, b3, e', f1, f2, f3, f4, w3⟩ := rest_ok (m := m) (q := q) (deep := deep) (l := l) (by omega) w1 (by omega) hl hp h2 h3
        refine ⟨o, d, a3, b3, ?_, f3, f4, w3⟩
        have hi' : isI "tuple" x = some false := by
          cases x <;> first
            | rfl
            | exact absurd ⟨_, rfl⟩ ht
            | (cases q <;> cases hpx)
        simp [r11, c11_split, startE, argOf, opdOf, bOf, bLen, bList, bTuple, dCmp, dGt, dBin, dSub, okP, put1, pinOf, small_le, e0, h1, h5, hi', f1, f2]
termination_by deep => deep
end LR

set_option Elab.async false
set_option linter.all false
set_option maxRecDepth 100000
set_option maxHeartbeats 4000000
namespace LR
open PySem PySem.Spec PyProof.Rows L2
theorem loop_cnt {tg : Tg} {body : SM} {N : Nat} (J : Nat → Env → Prop) : ∀ {items : List D} {k : Nat} {e : Env}, k + items.length ≤ N → J k e →
    (∀ d ∈ items, ∀ k e, k < N → J k e → ∃ e1, tg.put d e = some e1 ∧ ∃ e2, body e1 = .next e2 ∧ J (k + 1) e2) → ∃ e', loopS tg body items e = .next e' ∧ J (k + items.length) e'
  | [], k, e, _, h, _ => ⟨e, rfl, h⟩
  | d :: ds, k, e, hl, h, s => by
    rw [List.length_cons] at hl
    obtain ⟨e1, h1, e2, h2, h3⟩ := s d List.mem_cons_self k e (by omega) h
    obtain ⟨e', h4, h5⟩ := loop_cnt J (k := k + 1) (by omega) h3 fun x hx => s x (List.mem_cons_of_mem _ hx)
    refine ⟨e', ?_, by rw [List.length_cons, show k + (ds.length + 1) = k + 1 + ds.length by omega]; exact h5⟩
    unfold loopS
    rw [h1]
    dsimp only
    rw [h2]
    exact h4
def CarOk (c : D) : Prop := ∃ s x y, c = .tup [.str s, .int x, .int y] ∧ pStr 9 s = true
def RopeOk (many : Nat) (c : D) : Prop := ∃ s ps, c = .tup [.str s, .tup ps] ∧ pStr 9 s = true ∧ ps.length = many ∧ ∀ q ∈ ps, Pl 9 1 q = true
theorem cut3 {x y z : D} {r : Int} (h0 : 0 ≤ r) (h1 : r < 3) : ∃ items, cut [x, y, z] none (some (1 + r)) = items ∧ 1 ≤ items.length ∧ items.length ≤ 3 ∧ ∀ d ∈ items, d ∈ [x, y, z] := by
  rcases (by omega : r = 0 ∨ r = 1 ∨ r = 2) with rfl | rfl | rfl
  · exact ⟨[x], rfl, by simp, by simp, by simp⟩
  · exact ⟨[x, y], rfl, by simp, by simp, by simp⟩
  · exact ⟨[x, y, z], rfl, by simp, by simp, by simp⟩
def wl (a b p : Int) : O := .lst [.int a, .int b, .int p]
def J1 (p : Int) (k : Nat) (e : Env) : Prop := ∃ a b acc x5 x6, e = [some (.lst [.int a, .int b, .int p]), some (.frz (.int 3)), some (.frz (.int 3)), some (.lst acc), some (.lst []), x5, x6, none, none, none, none] ∧ WO a b p ∧ acc.length = k ∧ ∀ c ∈ acc, CarOk c
theorem car_body {m : Nat} {p : Int} {d : D} {k : Nat} {e : Env} (hm : 1 ≤ m) (hd : d ∈ [D.str "a", D.str "bo", D.str "car"]) (hk : k < 3) (h : J1 p k e) :
    ∃ e1, (Tg.name 5).put d e = some e1 ∧ ∃ e2, sSeq (rnSs tb [0] (calls tb ds m) [.set 6 (.bin .Add (.lit (.int 1)) (.fn 7 [.ref 0, .ix (.lst [.lit (.int 4), .lit (.int 12), .lit (.int 60)]) (.fn 7 [.ref 0, .lit (.int 3)])])), .expr (.mth .append 3 [.tup [.var 5, .var 6, .bin .Add (.lit (.int 1)) (.fn 7 [.ref 0, .ix (.lst [.lit (.int 3), .lit (.int 30)]) (.fn 7 [.ref 0, .lit (.int 2)])])]])]) e1 = .next e2 ∧ J1 p (k + 1) e2 := by
  obtain ⟨a, b, acc, x5, x6, rfl, w, hl, hc⟩ := h
  obtain ⟨s, rfl, hs⟩ : ∃ s, d = .str s ∧ pStr 9 s = true := by
    simp at hd
    rcases hd with rfl | rfl | rfl <;> exact ⟨_, rfl, by decide +kernel⟩
  obtain ⟨r1, a1, b1, g1, g2, g3, w1⟩ := draw_ok (n := m) (many := 3) hm w (by omega) (by omega)
  obtain ⟨v, hv, g4⟩ := ix_mem (ds := [.int 4, .int 12, .int 60]) g2 (by simp; omega)
  obtain ⟨v, rfl, v1, v2⟩ : ∃ z, v = .int z ∧ 1 ≤ z ∧ z ≤ 60 := by
    simp at hv
    rcases hv with rfl | rfl | rfl <;> exact ⟨_, rfl, by omega, by omega⟩
  obtain ⟨r2, a2, b2, f1, f2, f3, w2⟩ := draw_ok (n := m) (many := v) hm w1 (by omega) (by omega)
  obtain ⟨r3, a3, b3, k1, k2, k3, w3⟩ := draw_ok (n := m) (many := 2) hm w2 (by omega) (by omega)
  obtain ⟨u, hu, k4⟩ := ix_mem (ds := [.int 3, .int 30]) k2 (by simp; omega)
  obtain ⟨u, rfl, u1, u2⟩ : ∃ z, u = .int z ∧ 1 ≤ z ∧ z ≤ 60 := by
    simp at hu
    rcases hu with rfl | rfl <;> exact ⟨_, rfl, by omega, by omega⟩
  obtain ⟨r4, a4, b4, l1, l2, l3, w4⟩ := draw_ok (n := m) (many := u) hm w3 (by omega) (by omega)
  have sm : small acc.length = true := small_le (by omega)
  refine ⟨_, rfl, [some (.lst [.int a4, .int b4, .int p]), some (.frz (.int 3)), some (.frz (.int 3)), some (.lst (acc ++ [.tup [.str s, .int (1 + r2), .int (1 + r4)]])), some (.lst []), some (.frz (.str s)), some (.frz (.int (1 + r2))), none, none, none, none], ?_, a4, b4, _, _, _, rfl, w4, by simp [hl], fun c hc' => ?_⟩
  · simp [argOf, opdOf, dBin, dAdd, okP, put1, pinOf, small_le, g1, g4, f1, k1, k4, l1, isOwn, ownL, mRun, sm]
  · rcases List.mem_append.mp hc' with h | h
    · exact hc c h
    · rw [List.mem_singleton.mp h]
      exact ⟨_, _, _, rfl, hs⟩
def somes : List D := [.tup [.int 0, .int 0], .tup [.int 1, .int 0], .tup [.int 0, .int 1], .tup [.int 2, .int 0], .tup [.int 1, .int 1], .tup [.int 0, .int 2], .tup [.int 1, .int 3], .tup [.int 4, .int 0], .tup [.int 2, .int 1], .tup [.int 0, .int 0]]
theorem somes_pl : ∀ x ∈ somes, Pl 9 1 x = true := by decide +kernel
def J2 (p : Int) (cs : List D) (k : Nat) (e : Env) : Prop := ∃ a b acc o3 x5 x6 x9, e = [some (.lst [.int a, .int b, .int p]), some (.frz (.int 3)), some (.frz (.int 3)), some o3, some (.lst acc), x5, x6, some (.lst somes), none, x9, none] ∧ (o3 = .lst cs ∨ o3 = .frz (.lst cs)) ∧ WO a b p ∧ acc.length = k ∧ ∀ c ∈ acc, RopeOk cs.length c
theorem rope_body {m : Nat} {p : Int} {d : D} {cs : List D} {k : Nat} {e : Env} (hm : 1 ≤ m) (hcs : 1 ≤ cs.length) (hcs3 : cs.length ≤ 3) (hd : d ∈ [D.str "r", D.str "sam", D.str "t"]) (hk : k < 3) (h : J2 p cs k e) :
    ∃ e1, (Tg.name 5).put d e = some e1 ∧ ∃ e2, sSeq (rnSs tb [0] (calls tb ds m) [.set 9 (.lc [8] (.name 8) (.any (.var 3)) (.yes) (.ix (.var 7) (.fn 7 [.ref 0, .lit (.int 10)]))), .sif (.cmp .Eq (.lcO [10] (.name 10) 9 (.cmp .NotEq (.var 10) (.tup [.lit (.int 0), .lit (.int 0)])) (.var 10)) (.lst [])) [.sub 9 (.lit (.int 0)) (.tup [.lit (.int 1), .lit (.int 0)])] [], .expr (.mth .append 4 [.tup [.var 5, .blt .tuple [.var 9]]])]) e1 = .next e2 ∧ J2 p cs (k + 1) e2 := by
  obtain ⟨a, b, acc, o3, x5, x6, x9, rfl, ho, w, hl, hc⟩ := h
  obtain ⟨s, rfl, hs⟩ : ∃ s, d = .str s ∧ pStr 9 s = true := by
    simp at hd
    rcases hd with rfl | rfl | rfl <;> exact ⟨_, rfl, by decide +kernel⟩
  obtain ⟨l, e', h8, ⟨a3, b3, rfl, w3⟩, h9, h10⟩ := lc_some (vs := [8]) (tg := .name 8) (tt := bYes) (te := rnX tb [0] (calls tb ds m) (.ix (.var 7) (.fn 7 [.ref 0, .lit (.int 10)]))) (items := cs) (acc := []) (e := [some (.lst [.int a, .int b, .int p]), some (.frz (.int 3)), some (.frz (.int 3)), some (.frz (.lst cs)), some (.lst acc), some (.frz (.str s)), x6, some (.lst somes), none, x9, none])
    (fun e => ∃ a b, e = [some (.lst [.int a, .int b, .int p]), some (.frz (.int 3)), some (.frz (.int 3)), some (.frz (.lst cs)), some (.lst acc), some (.frz (.str s)), x6, some (.lst somes), none, x9, none] ∧ WO a b p) (fun d => Pl 9 1 d = true) (by simp; omega) ⟨_, _, rfl, w⟩ (by simp) (fun d hd e ⟨a, b, he, w⟩ => by
      subst he
      obtain ⟨r, a', b', k1, k2, k3, w'⟩ := draw_ok (n := m) (many := 10) hm w (by omega) (by omega)
      obtain ⟨y, hy, k4⟩ := ix_mem (ds := somes) k2 (by simp [somes]; omega)
      refine ⟨_, _, [some (.lst [.int a', .int b', .int p]), some (.frz (.int 3)), some (.frz (.int 3)), some (.frz (.lst cs)), some (.lst acc), some (.frz (.str s)), x6, some (.lst somes), some (.frz d), x9, none], y, rfl, rfl, ?_, somes_pl y hy, _, _, rfl, w'⟩
      simp [argOf, opdOf, k1, k4])
  rw [List.length_nil, Nat.zero_add] at h9
  simp [argOf, opdOf] at h8
  have hz : ∀ d ∈ l, dNe d (.tup [.int 0, .int 0]) = some (!(d.eqv zz)) := fun d hd => dNe_zz (p := 1) (by omega) (pl_mono (by omega) (Nat.le_refl _) (h10 d hd))
  obtain ⟨e', f8, rfl⟩ := lc_map (vs := [10]) (tg := .name 10) (tt := rnB tb [0] (calls tb ds m) (.cmp .NotEq (.var 10) (.tup [.lit (.int 0), .lit (.int 0)]))) (te := rnX tb [0] (calls tb ds m) (.var 10)) (items := l) (acc := []) (e := [some (.lst [.int a3, .int b3, .int p]), some (.frz (.int 3)), some (.frz (.int 3)), some (.frz (.lst cs)), some (.lst acc), some (.frz (.str s)), x6, some (.lst somes), none, none, none])
    (fun e => e = [some (.lst [.int a3, .int b3, .int p]), some (.frz (.int 3)), some (.frz (.int 3)), some (.frz (.lst cs)), some (.lst acc), some (.frz (.str s)), x6, some (.lst somes), none, none, none]) (fun d => !(d.eqv zz)) (fun d => d) (by simp; omega) rfl (fun d hd e he => by
      subst he
      refine ⟨[some (.lst [.int a3, .int b3, .int p]), some (.frz (.int 3)), some (.frz (.int 3)), some (.frz (.lst cs)), some (.lst acc), some (.frz (.str s)), x6, some (.lst somes), none, none, some (.frz d)], [some (.lst [.int a3, .int b3, .int p]), some (.frz (.int 3)), some (.frz (.int 3)), some (.frz (.lst cs)), some (.lst acc), some (.frz (.str s)), x6, some (.lst somes), none, none, some (.frz d)], rfl, ?_, ?_⟩
      · simp [opdOf, dCmp, small_le, hz d hd]
      · split
        · exact ⟨_, rfl, rfl⟩
        · rfl)
  rw [List.map_id', List.nil_append] at f8
  simp [argOf, opdOf] at f8
  have hem : dEq (.lst (l.filter fun d => !(d.eqv zz))) (.lst []) = some (l.filter fun d => !(d.eqv zz)).isEmpty := dEq_empty (Nat.le_trans (List.length_filter_le _ _) (by omega)) (deeps_iff.mpr fun d hd => pl_deep (b := 9) (by omega) (pl_mono (Nat.le_refl _) (by omega) (h10 d (List.mem_filter.mp hd).1)))
  have sm : small acc.length = true := small_le (by omega)
  have i0 := ixN_ok (n := l.length) (r := 0) (by omega) (by omega)
  cases hb : (l.filter fun d => !(d.eqv zz)).isEmpty with
  | true =>
    rw [hb] at hem
    refine ⟨_, rfl, [some (.lst [.int a3, .int b3, .int p]), some (.frz (.int 3)), some (.frz (.int 3)), some (.frz (.lst cs)), some (.lst (acc ++ [.tup [.str s, .tup (l.set 0 (.tup [.int 1, .int 0]))]])), some (.frz (.str s)), x6, some (.lst somes), none, some (.lst (l.set 0 (.tup [.int 1, .int 0]))), none], ?_, _, _, _, _, _, _, _, rfl, .inr rfl, w3, by simp [hl], fun c hc' => ?_⟩
    · rcases ho with rfl | rfl <;> cases x9 <;> simp [argOf, opdOf, bOf, bTuple, dCmp, dBin, dAdd, okP, put1, pinOf, small_le, isOwn, ownL, mRun, sm, subL, aside, wipeE, itemsOf, h8, f8, hem, setD, i0]
    · rcases List.mem_append.mp hc' with h | h
      · exact hc c h
      · rw [List.mem_singleton.mp h]
        exact ⟨_, _, rfl, hs, by rw [List.length_set]; exact h9, fun q hq => mem_set' (P := fun d => Pl 9 1 d = true) h10 rfl hq⟩
  | false =>
    rw [hb] at hem
    refine ⟨_, rfl, [some (.lst [.int a3, .int b3, .int p]), some (.frz (.int 3)), some (.frz (.int 3)), some (.frz (.lst cs)), some (.lst (acc ++ [.tup [.str s, .tup l]])), some (.frz (.str s)), x6, some (.lst somes), none, some (.lst l), none], ?_, _, _, _, _, _, _, _, rfl, .inr rfl, w3, by simp [hl], fun c hc' => ?_⟩
    · rcases ho with rfl | rfl <;> cases x9 <;> simp [argOf, opdOf, bOf, bTuple, dCmp, dBin, dAdd, okP, put1, pinOf, small_le, isOwn, ownL, mRun, sm, subL, aside, wipeE, itemsOf, h8, f8, hem, setD, i0]
    · rcases List.mem_append.mp hc' with h | h
      · exact hc c h
      · rw [List.mem_singleton.mp h]
        exact ⟨_, _, rfl, hs, h9, h10⟩
end LR

set_option Elab.async false
set_option linter.all false
set_option maxRecDepth 100000
set_option maxHeartbeats 4000000
namespace LR
open PySem PySem.Spec PyProof.Rows L2
def codeOf (x : Cd) : List Cd := match x with
  | .sfor _ _ b => b
  | _ => []
/-- _law_hall -/
theorem mkhall_ok {n : Nat} {a b p : Int} (hn : 2 ≤ n) (w : WO a b p) : ∃ cs rs a' b', calls tb ds n 12 [.lst [.int a, .int b, .int p], .frz (.int 3), .frz (.int 3)] = .ok (.frz (.tup [.tup cs, .tup rs])) [some (.lst [.int a', .int b', .int p]), none, none] ∧
    WO a' b' p ∧ 1 ≤ cs.length ∧ cs.length ≤ 3 ∧ 1 ≤ rs.length ∧ rs.length ≤ 3 ∧ (∀ c ∈ cs, CarOk c) ∧ ∀ c ∈ rs, RopeOk cs.length c := by
  obtain ⟨m, rfl, hm⟩ := up1 hn
  obtain ⟨r1, a1, b1, g1, g2, g3, w1⟩ := draw_ok (n := m) (many := 3) hm w (by omega) (by omega)
  obtain ⟨it1, hc1, n1, n2, n3⟩ := cut3 (x := .str "a") (y := .str "bo") (z := .str "car") g2 g3
  obtain ⟨e', h1, a2, b2, cs, x5, x6, rfl, w2, hl, hcs⟩ := loop_cnt (N := 3) (J1 p) (items := it1) (k := 0) (e := [some (.lst [.int a1, .int b1, .int p]), some (.frz (.int 3)), some (.frz (.int 3)), some (.lst []), some (.lst []), none, none, none, none, none, none]) (by omega) ⟨_, _, _, _, _, rfl, w1, rfl, by simp⟩ (fun d hd k e hk h => car_body (m := m) (by omega) (n3 d hd) hk h)
  rw [Nat.zero_add] at hl
  obtain ⟨r3, a3, b3, f1, f2, f3, w3⟩ := draw_ok (n := m) (many := 3) hm w2 (by omega) (by omega)
  obtain ⟨it2, hc2, m1, m2, m3⟩ := cut3 (x := .str "r") (y := .str "sam") (z := .str "t") f2 f3
  obtain ⟨e', h2, a4, b4, rs, o3, y5, y6, y9, rfl, ho, w4, hl2, hrs⟩ := loop_cnt (N := 3) (J2 p cs) (items := it2) (k := 0) (e := [some (.lst [.int a3, .int b3, .int p]), some (.frz (.int 3)), some (.frz (.int 3)), some (.lst cs), some (.lst []), x5, x6, some (.lst somes), none, none, none]) (by omega) ⟨_, _, _, _, _, _, _, rfl, .inl rfl, w3, rfl, by simp⟩ (fun d hd k e hk h => rope_body (m := m) (by omega) (by omega) (by omega) (m3 d hd) hk h)
  rw [Nat.zero_add] at hl2
  refine ⟨cs, rs, a4, b4, ?_, w4, by omega, by omega, by omega, by omega, hcs, hrs⟩
  simp [argOf, opdOf, bOf, dBin] at h1 h2
  unfold somes at h2
  rcases ho with rfl | rfl <;> simp [r12, c12, startE, argOf, opdOf, bOf, bTuple, dCmp, dBin, dAdd, dSl, okP, put1, putO, pinOf, small_le, itemsOf, g1, hc1, h1, f1, hc2, h2]
/-- _law_well -/
theorem well_ok {n : Nat} {ns : List Int} {k : Int} (hn : 1 ≤ n) (h0 : 0 ≤ k) (h1 : k < 50) : ∃ a b p, calls tb ds n 6 [.frz (.scr ns), .frz (.int k)] = .ok (.lst [.int a, .int b, .int p]) [none, none] ∧ WO a b p := by
  obtain ⟨m, rfl, hm⟩ := up1 hn
  obtain ⟨c, hc⟩ : ∃ c : Int, (if k < (ns.length : Int) then (L2.atI ns k) else some 0) = some c := by
    by_cases h : k < (ns.length : Int)
    · rw [if_pos h]
      unfold L2.atI
      rw [ixN_ok h0 h]
      have : k.toNat < ns.length := by omega
      exact ⟨ns[k.toNat], by simp [this]⟩
    · rw [if_neg h]
      exact ⟨0, rfl⟩
  have q0 : 0 ≤ c.fmod 2147483489 := Int.fmod_nonneg_of_pos _ (by omega)
  have q1 : c.fmod 2147483489 < 2147483489 := Int.fmod_lt_of_pos _ (by omega)
  have e1 : CM (c.fmod 2147483489 + 1) (48271 + 2 * k) := cm_small (by omega) (by omega)
  have e0 : CM 2 k := cm_small (by omega) (by omega)
  have s0 : 0 ≤ ((c.fmod 2147483489 + 1) * (48271 + 2 * k)).fmod 2147483489 := Int.fmod_nonneg_of_pos _ (by omega)
  have s1 : ((c.fmod 2147483489 + 1) * (48271 + 2 * k)).fmod 2147483489 < 2147483489 := Int.fmod_lt_of_pos _ (by omega)
  generalize hS : ((c.fmod 2147483489 + 1) * (48271 + 2 * k)).fmod 2147483489 = S1 at s0 s1
  have e2 : CM S1 S1 := cm_small (by omega) (by omega)
  have t0 : 0 ≤ (S1 * S1).fmod 2147483477 := Int.fmod_nonneg_of_pos _ (by omega)
  have t1 : (S1 * S1).fmod 2147483477 < 2147483477 := Int.fmod_lt_of_pos _ (by omega)
  have k0 : 0 ≤ k.fmod 8 := Int.fmod_nonneg_of_pos _ (by omega)
  have k1 : k.fmod 8 < 8 := Int.fmod_lt_of_pos _ (by omega)
  obtain ⟨x, hx, h5⟩ := ix_mem (ds := [.int 2147483647, .int 2147483629, .int 2147483587, .int 2147483579, .int 2147483563, .int 2147483549, .int 2147483543, .int 2147483497]) k0 (by simp; omega)
  obtain ⟨pr, rfl, p1, p2⟩ : ∃ z, x = .int z ∧ 1 ≤ z ∧ z < 2 ^ 32 := by
    simp at hx
    rcases hx with rfl | rfl | rfl | rfl | rfl | rfl | rfl | rfl <;> exact ⟨_, rfl, by omega, by omega⟩
  refine ⟨if 10 ^ 18 ≤ c then c else 0, (S1 * S1).fmod 2147483477 + k + 1, pr, ?_, by omega, by omega, p1, p2⟩
  by_cases h : k < (ns.length : Int)
  · rw [if_pos h] at hc
    have hix : dIx (.scr ns) (.int k) = some (.frz (.int c)) := by simp [dIx, hc]
    by_cases hb : (1000000000000000000 : Int) ≤ c <;> simp [r6, c6, startE, argOf, opdOf, bOf, bLen, dCmp, dLt, dGe, dBin, dAdd, dMul, dMod, dPow, okP, put1, pinOf, small_le, h, hix, e0, e1, hS, e2, h5, hb]
  · rw [if_neg h] at hc
    cases hc
    by_cases hb : (1000000000000000000 : Int) ≤ 0
    · omega
    · simp at e1 hS
      simp [r6, c6, startE, argOf, opdOf, bOf, bLen, dCmp, dLt, dGe, dBin, dAdd, dMul, dMod, dPow, okP, put1, pinOf, small_le, h, e0, e1, hS, e2, h5]
end LR

set_option Elab.async false
set_option linter.all false
set_option maxRecDepth 100000
set_option maxHeartbeats 4000000
namespace LR
open PySem PySem.Spec PyProof.Rows L2
theorem rnSs_app {t : Tb} {P : List Nat} {ev : Nat → List O → CRes} : ∀ {l m : List Cd}, rnSs t P ev (l ++ m) = rnSs t P ev l ++ rnSs t P ev m
  | [], m => by simp
  | x :: l, m => by simp [rnSs_app]
theorem sSeq_app : ∀ {l m : List SM} {e e1 : Env}, sSeq l e = .next e1 → sSeq (l ++ m) e = sSeq m e1
  | [], m, e, e1, h => by
    cases h
    rfl
  | x :: l, m, e, e1, h => by
    rw [List.cons_append, q_seq1]
    rw [q_seq1] at h
    cases hx : x e with
    | next e2 =>
      rw [hx] at h
      exact sSeq_app (l := l) h
    | _ =>
      rw [hx] at h
      cases h
theorem run_app {t : Tb} {P : List Nat} {ev : Nat → List O → CRes} {l m : List Cd} {e e1 : Env} (h : sSeq (rnSs t P ev l) e = .next e1) : sSeq (rnSs t P ev (l ++ m)) e = sSeq (rnSs t P ev m) e1 := by
  rw [rnSs_app]
  exact sSeq_app h
def bd : List Cd := codeOf (c16.headD .pass)
theorem bd_is : c16 = [.sfor (.name 1) (.rng (.blt .max [.lit (.int 6), .blt .min [.lit (.int 50), .blt .len [.var 0]]])) bd, .ret (.lit (.bl true))] := rfl
def bd1 : List Cd := bd.take 5
def bd2 : List Cd := (bd.drop 5).take 1
def bd3 : List Cd := (bd.drop 6).take 1
def bd4 : List Cd := (bd.drop 7).take 2
def bd5 : List Cd := (bd.drop 9).take 2
def bd6 : List Cd := (bd.drop 11).take 1
def bd7 : List Cd := bd.drop 12
theorem bd_split : bd = bd1 ++ (bd2 ++ (bd3 ++ (bd4 ++ (bd5 ++ (bd6 ++ bd7))))) := rfl
/-- the hall that was made -/
structure Hall (cs rs : List D) : Prop where
  c1 : 1 ≤ cs.length
  c3 : cs.length ≤ 3
  r1 : 1 ≤ rs.length
  r3 : rs.length ≤ 3
  hc : ∀ c ∈ cs, CarOk c
  hr : ∀ c ∈ rs, RopeOk cs.length c
theorem pl_strN {s : Str} {n : Nat} (h : pStr 9 s = true) : Pl 9 n (.str s) = true := by cases n <;> exact h
theorem car_pl {c : D} (h : CarOk c) : Pl 9 1 c = true := by
  obtain ⟨s, x, y, rfl, hs⟩ := h
  refine pl_mk (n := 0) (by simp) fun d hd => ?_
  simp at hd
  rcases hd with rfl | rfl | rfl
  · exact pl_strN hs
  · rfl
  · rfl
theorem rope_pl {c : D} {many : Nat} (hm : many ≤ 3) (h : RopeOk many c) : Pl 9 3 c = true := by
  obtain ⟨s, ps, rfl, hs, hl, hp⟩ := h
  refine pl_mk (n := 2) (by simp) fun d hd => ?_
  simp at hd
  rcases hd with rfl | rfl
  · exact pl_strN hs
  · exact pl_mk (n := 1) (by omega) hp
theorem lst_mk {b n : Nat} {l : List D} (h : l.length ≤ b) (k : ∀ d ∈ l, Pl b n d = true) : Pl b (n + 1) (.lst l) = true := by
  unfold Pl
  rw [pls_iff.mpr k, Bool.and_true]
  exact decide_eq_true h
theorem tup1 {b n : Nat} {x : D} (hb : 3 ≤ b) (hx : Pl b n x = true) : Pl b (n + 1) (.tup [x]) = true := pl_mk (by simp; omega) fun d hd => by
  simp at hd
  subst hd
  exact hx
theorem tup2 {b n : Nat} {x y : D} (hb : 3 ≤ b) (hx : Pl b n x = true) (hy : Pl b n y = true) : Pl b (n + 1) (.tup [x, y]) = true := pl_mk (by simp; omega) fun d hd => by
  simp at hd
  rcases hd with rfl | rfl
  · exact hx
  · exact hy
theorem tup3 {b n : Nat} {x y z : D} (hb : 3 ≤ b) (hx : Pl b n x = true) (hy : Pl b n y = true) (hz : Pl b n z = true) : Pl b (n + 1) (.tup [x, y, z]) = true := pl_mk (by simp; omega) fun d hd => by
  simp at hd
  rcases hd with rfl | rfl | rfl
  · exact hx
  · exact hy
  · exact hz
theorem Hall.cp {cs rs : List D} (h : Hall cs rs) : Pl 20 3 (.tup cs) = true := pl_mk (by have := h.c3; omega) fun d hd => pl_mono (by omega) (by omega) (car_pl (h.hc d hd))
theorem Hall.rp {cs rs : List D} (h : Hall cs rs) : Pl 20 4 (.tup rs) = true := pl_mk (by have := h.r3; omega) fun d hd => pl_mono (by omega) (by omega) (rope_pl h.c3 (h.hr d hd))
theorem Hall.gp {cs rs : List D} (h : Hall cs rs) : Pl 20 5 (.tup [.tup cs, .tup rs]) = true := tup2 (by omega) (pl_mono (by omega) (by omega) h.cp) h.rp
def AP (L : List D) : Prop := ∀ d ∈ L, Pl 60 12 d = true
theorem AP.add {L : List D} {d : D} (h : AP L) (hd : Pl 60 12 d = true) : AP (L ++ [d]) := fun x hx => by
  rcases List.mem_append.mp hx with z | z
  · exact h x z
  · rw [List.mem_singleton.mp z]
    exact hd
/-- the loop's names: the well's numbers, the hall, the list of things, the rest -/
def E16 (ns : List Int) (k : D) (a b p : Int) (cs rs : List D) (y6 y7 y8 : D) (L : List D) (z10 z11 z12 z13 z15 z16 : Option O) : Env :=
  [some (.frz (.scr ns)), some (.frz k), some (.lst [.int a, .int b, .int p]), some (.frz (.tup [.tup cs, .tup rs])), some (.frz (.tup cs)), some (.frz (.tup rs)), some (.frz y6), some (.frz y7), some (.frz y8), some (.lst L), z10, z11, z12, z13, none, z15, z16]
theorem cut_sub {l : List D} {lo hi : Option Int} : ∀ d ∈ cut l lo hi, d ∈ l := fun d hd => by
  unfold cut at hd
  exact List.mem_of_mem_drop (List.mem_of_mem_take hd)
theorem cut_len {l : List D} {lo hi : Option Int} : (cut l lo hi).length ≤ l.length := by
  unfold cut
  simp
  omega
theorem part1 {m : Nat} {ns : List Int} {k : Int} {x2 x3 x4 x5 x6 x7 x8 x9 z10 z11 z12 z13 z15 z16 : Option O} (hm : 2 ≤ m) (h0 : 0 ≤ k) (h1 : k < 50) :
    ∃ a b p cs rs y6 y7 y8 L, sSeq (rnSs tb [] (calls tb ds m) bd1) [some (.frz (.scr ns)), some (.frz (.int k)), x2, x3, x4, x5, x6, x7, x8, x9, z10, z11, z12, z13, none, z15, z16] = .next (E16 ns (.int k) a b p cs rs y6 y7 y8 L z10 z11 z12 z13 z15 z16) ∧
      WO a b p ∧ Hall cs rs ∧ Pl 9 0 y6 = true ∧ L.length = 7 ∧ AP L := by
  obtain ⟨a, b, p, g1, w1⟩ := well_ok (n := m) (ns := ns) (by omega) h0 h1
  obtain ⟨cs, rs, a2, b2, g2, w2, c1, c3, r1, r3, hc, hr⟩ := mkhall_ok (n := m) (by omega) w1
  have H : Hall cs rs := ⟨c1, c3, r1, r3, hc, hr⟩
  obtain ⟨c0, cs', rfl⟩ : ∃ c0 cs', cs = c0 :: cs' := by
    cases cs with
    | nil => simp at c1
    | cons x l => exact ⟨_, _, rfl⟩
  obtain ⟨s, x, y, rfl, hs⟩ := hc _ List.mem_cons_self
  have q1 : dIx (.tup (D.tup [.str s, .int x, .int y] :: cs')) (.int 0) = some (.frz (.tup [.str s, .int x, .int y])) := ix0
  generalize hcs : D.tup [.str s, .int x, .int y] :: cs' = cs at *
  have sm1 : small (rs.length + (cut rs (some (-1)) none).length) = true := small_le (by have := cut_len (l := rs) (lo := some (-1)) (hi := none); omega)
  refine ⟨a2, b2, p, cs, rs, .str s, .int x, .int y, [.tup [.tup cs, .tup rs], .tup [.tup cs, .tup []], .tup [.tup [], .tup rs], .tup [.tup cs.reverse, .tup rs], .tup [.tup cs, .tup (rs ++ cut rs (some (-1)) none)], .lst [.tup cs, .tup rs], .tup [.tup cs]], ?_, w2, H, pl_strN hs, rfl, ?_⟩
  · simp [bd1, bd, c16, codeOf, argOf, opdOf, bOf, bList, dBin, dAdd, dNeg, dSl, dRev, okP, put1, putL, Tg.put, pinOf, small_le, E16, g1, g2, q1, sm1]
  · have e1 : Pl 60 5 (.tup cs) = true := pl_mono (by omega) (by omega) H.cp
    have e2 : Pl 60 5 (.tup rs) = true := pl_mono (by omega) (by omega) H.rp
    have e3 : Pl 60 5 (.tup []) = true := rfl
    have e4 : Pl 60 5 (.tup cs.reverse) = true := pl_mk (n := 4) (by simp; omega) fun d hd => pl_mono (by omega) (by omega) (car_pl (H.hc d (List.mem_reverse.mp hd)))
    have e5 : Pl 60 5 (.tup (rs ++ cut rs (some (-1)) none)) = true := pl_mk (n := 4) (by have := cut_len (l := rs) (lo := some (-1)) (hi := none); simp; omega) fun d hd => by
      have hd : d ∈ rs := by
        rcases List.mem_append.mp hd with h | h
        · exact h
        · exact cut_sub d h
      exact pl_mono (by omega) (by omega) (rope_pl H.c3 (H.hr d hd))
    intro d hd
    simp at hd
    rcases hd with rfl | rfl | rfl | rfl | rfl | rfl | rfl
    · exact pl_mono (n := 6) (by omega) (by omega) (tup2 (b := 60) (by omega) e1 e2)
    · exact pl_mono (n := 6) (by omega) (by omega) (tup2 (b := 60) (by omega) e1 e3)
    · exact pl_mono (n := 6) (by omega) (by omega) (tup2 (b := 60) (by omega) e3 e2)
    · exact pl_mono (n := 6) (by omega) (by omega) (tup2 (b := 60) (by omega) e4 e2)
    · exact pl_mono (n := 6) (by omega) (by omega) (tup2 (b := 60) (by omega) e1 e5)
    · refine pl_mono (n := 6) (by omega) (by omega) (lst_mk (b := 60) (n := 5) (by simp) fun d hd => ?_)
      simp at hd
      rcases hd with rfl | rfl
      · exact e1
      · exact e2
    · exact pl_mono (n := 6) (by omega) (by omega) (tup1 (b := 60) (by omega) e1)
end LR

set_option Elab.async false
set_option linter.all false
set_option maxRecDepth 100000
set_option maxHeartbeats 4000000
namespace LR
open PySem PySem.Spec PyProof.Rows L2
theorem cars_pl {cs rs : List D} (H : Hall cs rs) {x : D} (hx : Pl 9 1 x = true) : Pl 60 5 (.tup (x :: cut cs (some 1) none)) = true := pl_mk (n := 4) (by have := cut_len (l := cs) (lo := some 1) (hi := none); have := H.c3; simp; omega) fun d hd => by
  rcases List.mem_cons.mp hd with rfl | h
  · exact pl_mono (by omega) (by omega) hx
  · exact pl_mono (by omega) (by omega) (car_pl (H.hc d (cut_sub d h)))
theorem ropes_pl {cs rs : List D} (H : Hall cs rs) {x : D} (hx : Pl 9 3 x = true) : Pl 60 5 (.tup (x :: cut rs (some 1) none)) = true := pl_mk (n := 4) (by have := cut_len (l := rs) (lo := some 1) (hi := none); have := H.r3; simp; omega) fun d hd => by
  rcases List.mem_cons.mp hd with rfl | h
  · exact pl_mono (by omega) (by omega) hx
  · exact pl_mono (by omega) (by omega) (rope_pl H.c3 (H.hr d (cut_sub d h)))
theorem part2 {m : Nat} {ns : List Int} {k : D} {a b p : Int} {cs rs : List D} {y6 y7 y8 : D} {L : List D} {z10 z11 z12 z13 z15 z16 : Option O} (H : Hall cs rs) (h6 : Pl 9 0 y6 = true) (hL : L.length = 7) (hA : AP L) :
    ∃ L' z10' z11', sSeq (rnSs tb [] (calls tb ds m) bd2) (E16 ns k a b p cs rs y6 y7 y8 L z10 z11 z12 z13 z15 z16) = .next (E16 ns k a b p cs rs y6 y7 y8 L' z10' z11' z12 z13 z15 z16) ∧ L'.length = 14 ∧ AP L' := by
  obtain ⟨e', h1, L', z10', z11', rfl, h2, h3⟩ := loop_cnt (N := 14) (fun k' e => ∃ L' z10' z11', e = E16 ns k a b p cs rs y6 y7 y8 L' z10' z11' z12 z13 z15 z16 ∧ L'.length = k' ∧ AP L')
    (tg := .tup [10, 11]) (body := sSeq (rnSs tb [] (calls tb ds m) [.expr (.mth .append 9 [.tup [.bin .Add (.tup [.tup [.var 6, .var 10, .var 11]]) (.sl (.var 4) (some (.lit (.int 1))) none), .var 5]])])) (k := 7)
    (items := [.tup [.int 60, .int 30], .tup [.int 61, .int 30], .tup [.int 60, .int 31], .tup [.int 0, .int 1], .tup [.int 1, .int 0], .tup [.int 1, .int 1], .tup [.bl true, .int 1]]) (e := E16 ns k a b p cs rs y6 y7 y8 L z10 z11 z12 z13 z15 z16) (by simp) ⟨_, _, _, rfl, hL, hA⟩ (fun d hd k' e hk ⟨L', z10', z11', he, hl, ha⟩ => by
      subst he
      obtain ⟨u, v, rfl, hu, hv⟩ : ∃ u v, d = .tup [u, v] ∧ Pl 9 0 u = true ∧ Pl 9 0 v = true := by
        simp at hd
        rcases hd with rfl | rfl | rfl | rfl | rfl | rfl | rfl <;> exact ⟨_, _, rfl, rfl, rfl⟩
      have sm : small L'.length = true := small_le (by omega)
      have sm2 : small ((cut cs (some 1) none).length + 1) = true := small_le (by have := cut_len (l := cs) (lo := some 1) (hi := none); have := H.c3; omega)
      have sm3 : small (1 + (cut cs (some 1) none).length) = true := small_le (by have := cut_len (l := cs) (lo := some 1) (hi := none); have := H.c3; omega)
      refine ⟨_, rfl, E16 ns k a b p cs rs y6 y7 y8 (L' ++ [.tup [.tup (.tup [y6, u, v] :: cut cs (some 1) none), .tup rs]]) (some (.frz u)) (some (.frz v)) z12 z13 z15 z16, ?_, _, _, _, rfl, by simp [hl], ha.add ?_⟩
      · simp [E16, argOf, opdOf, dBin, dAdd, dSl, small_le, isOwn, ownL, mRun, sm, sm2, sm3]
      · exact pl_mono (n := 6) (by omega) (by omega) (tup2 (b := 60) (by omega) (cars_pl H (tup3 (n := 0) (by omega) h6 hu hv)) (pl_mono (by omega) (by omega) H.rp)))
  refine ⟨L', z10', z11', ?_, h2, h3⟩
  simp [argOf, opdOf, dBin] at h1
  simp [bd2, bd, c16, codeOf, argOf, opdOf, dBin, dNeg, itemsOf, okP, small_le, h1]
theorem part3 {m : Nat} {ns : List Int} {k : D} {a b p : Int} {cs rs : List D} {y6 y7 y8 : D} {L : List D} {z10 z11 z12 z13 z15 z16 : Option O} (H : Hall cs rs) (hL : L.length = 14) (hA : AP L) :
    ∃ L' z12', sSeq (rnSs tb [] (calls tb ds m) bd3) (E16 ns k a b p cs rs y6 y7 y8 L z10 z11 z12 z13 z15 z16) = .next (E16 ns k a b p cs rs y6 y7 y8 L' z10 z11 z12' z13 z15 z16) ∧ L'.length = 19 ∧ AP L' := by
  obtain ⟨e', h1, L', z12', rfl, h2, h3⟩ := loop_cnt (N := 19) (fun k' e => ∃ L' z12', e = E16 ns k a b p cs rs y6 y7 y8 L' z10 z11 z12' z13 z15 z16 ∧ L'.length = k' ∧ AP L')
    (tg := .name 12) (body := sSeq (rnSs tb [] (calls tb ds m) [.expr (.mth .append 9 [.tup [.var 4, .bin .Add (.tup [.tup [.ix (.ix (.var 5) (.lit (.int 0))) (.lit (.int 0)), .bin .Mult (.tup [.var 12]) (.blt .len [.var 4])]]) (.sl (.var 5) (some (.lit (.int 1))) none)]])])) (k := 14)
    (items := [.tup [.int 4, .int 4], .tup [.int 5, .int 0], .tup [.int 0, .int 5], .tup [.int (-1), .int 0], .tup [.int 0, .bl true]]) (e := E16 ns k a b p cs rs y6 y7 y8 L z10 z11 z12 z13 z15 z16) (by simp) ⟨_, _, rfl, hL, hA⟩ (fun d hd k' e hk ⟨L', z12', he, hl, ha⟩ => by
      subst he
      have hdp : Pl 9 1 d = true := by
        simp at hd
        rcases hd with rfl | rfl | rfl | rfl | rfl <;> rfl
      obtain ⟨r0, rs', hrs⟩ : ∃ r0 rs', rs = r0 :: rs' := by
        have := H.r1
        cases rs with
        | nil => simp at this
        | cons x l => exact ⟨_, _, rfl⟩
      obtain ⟨s, ps, hr0, hs, _⟩ := H.hr r0 (by rw [hrs]; exact List.mem_cons_self)
      have q1 : dIx (.tup rs) (.int 0) = some (.frz (.tup [.str s, .tup ps])) := by rw [hrs, hr0]; exact ix0
      have sm : small L'.length = true := small_le (by omega)
      have sm3 : small (1 + (cut rs (some 1) none).length) = true := small_le (by have := cut_len (l := rs) (lo := some 1) (hi := none); have := H.r3; omega)
      have mu : dMul (.tup [d]) (.int cs.length) = some (.frz (.tup (List.replicate cs.length d))) := by
        have : (1 : Int) ≤ cs.length ∧ (cs.length : Int) ≤ 1000 := by have := H.c1; have := H.c3; omega
        simp [dMul, this]
      refine ⟨_, rfl, E16 ns k a b p cs rs y6 y7 y8 (L' ++ [.tup [.tup cs, .tup (.tup [.str s, .tup (List.replicate cs.length d)] :: cut rs (some 1) none)]]) z10 z11 (some (.frz d)) z13 z15 z16, ?_, _, _, rfl, by simp [hl], ha.add ?_⟩
      · simp [E16, argOf, opdOf, bOf, bLen, dBin, dAdd, dSl, small_le, isOwn, ownL, mRun, sm, sm3, q1, ix0, mu]
      · refine pl_mono (n := 6) (by omega) (by omega) (tup2 (b := 60) (by omega) (pl_mono (by omega) (by omega) H.cp) (ropes_pl H (tup2 (n := 2) (by omega) (pl_strN hs) (pl_mk (n := 1) (by have := H.c3; simp; omega) fun x hx => ?_))))
        rw [List.eq_of_mem_replicate hx]
        exact hdp)
  refine ⟨L', z12', ?_, h2, h3⟩
  simp [argOf, opdOf, bOf, dBin] at h1
  simp [bd3, bd, c16, codeOf, argOf, opdOf, bOf, dBin, dNeg, itemsOf, okP, small_le, h1]
theorem abcd_ix {i : Int} (h0 : 0 ≤ i) (h1 : i < 4) : ∃ s, dIx (.str "abcd") (.int i) = some (.frz (.str s)) ∧ pStr 9 s = true := by
  rcases (by omega : i = 0 ∨ i = 1 ∨ i = 2 ∨ i = 3) with rfl | rfl | rfl | rfl
  · exact ⟨_, rfl, by decide +kernel⟩
  · exact ⟨_, rfl, by decide +kernel⟩
  · exact ⟨_, rfl, by decide +kernel⟩
  · exact ⟨_, rfl, by decide +kernel⟩
theorem upFrom_mem : ∀ {n : Nat} {lo : Int} {d : D}, d ∈ upFrom lo n → ∃ i, d = .int i ∧ lo ≤ i ∧ i < lo + n
  | 0, _, _, h => by cases h
  | n + 1, lo, d, h => by
    unfold upFrom at h
    rcases List.mem_cons.mp h with rfl | h
    · exact ⟨_, rfl, by omega, by omega⟩
    · obtain ⟨i, rfl, h1, h2⟩ := upFrom_mem h
      exact ⟨i, rfl, by omega, by omega⟩
end LR

set_option Elab.async false
set_option linter.all false
set_option maxRecDepth 100000
set_option maxHeartbeats 4000000
namespace LR
open PySem PySem.Spec PyProof.Rows L2
theorem part4 {m : Nat} {ns : List Int} {k : D} {a b p : Int} {cs rs : List D} {y6 y7 y8 : D} {L : List D} {z10 z11 z12 z13 z15 z16 : Option O} (hm : 1 ≤ m) (w : WO a b p) :
    ∃ a' b' many wd, sSeq (rnSs tb [] (calls tb ds m) bd4) (E16 ns k a b p cs rs y6 y7 y8 L z10 z11 z12 z13 z15 z16) = .next (E16 ns k a' b' p cs rs y6 y7 y8 L z10 z11 z12 (some (.frz (.int many))) (some (.frz (.tup wd))) z16) ∧ WO a' b' p ∧ 2 ≤ many ∧ many ≤ 4 ∧ Pl 60 5 (.tup wd) = true := by
  obtain ⟨r, a1, b1, g1, g2, g3, w1⟩ := draw_ok (n := m) (many := 3) hm w (by omega) (by omega)
  obtain ⟨l, e', h8, rfl, h9, h10⟩ := lc_some (vs := [14]) (tg := .name 14) (tt := bYes) (te := rnX tb [] (calls tb ds m) (.tup [.ix (.lit (.str "abcd")) (.var 14), .lit (.int 9), .lit (.int 1)])) (items := upFrom 0 (2 + r).toNat) (acc := []) (e := E16 ns k a1 b1 p cs rs y6 y7 y8 L z10 z11 z12 (some (.frz (.int (2 + r)))) z15 z16)
    (fun e => e = E16 ns k a1 b1 p cs rs y6 y7 y8 L z10 z11 z12 (some (.frz (.int (2 + r)))) z15 z16) (fun d => Pl 9 1 d = true) (by rw [upFrom_len]; simp; omega) rfl (by simp) (fun d hd e he => by
      subst he
      obtain ⟨i, rfl, i0, i1⟩ := upFrom_mem hd
      obtain ⟨s, q1, q2⟩ := abcd_ix (i := i) (by omega) (by omega)
      refine ⟨_, _, [some (.frz (.scr ns)), some (.frz k), some (.lst [.int a1, .int b1, .int p]), some (.frz (.tup [.tup cs, .tup rs])), some (.frz (.tup cs)), some (.frz (.tup rs)), some (.frz y6), some (.frz y7), some (.frz y8), some (.lst L), z10, z11, z12, some (.frz (.int (2 + r))), some (.frz (.int i)), z15, z16], .tup [.str s, .int 9, .int 1], rfl, rfl, ?_, tup3 (n := 0) (by omega) (pl_strN q2) rfl rfl, rfl⟩
      simp [E16, argOf, opdOf, small_le, q1])
  rw [upFrom_len] at h9
  simp at h9
  have sz : inSize (2 + r) = true := by simp [inSize]; omega
  refine ⟨a1, b1, 2 + r, l, ?_, w1, by omega, by omega, pl_mono (n := 2) (by omega) (by omega) (pl_mk (n := 1) (b := 9) (by omega) h10)⟩
  simp [E16, argOf, opdOf] at h8
  simp [bd4, bd, c16, codeOf, E16, argOf, opdOf, bOf, bTuple, dBin, dAdd, itemsOf, okP, put1, small_le, g1, sz, subL, aside, wipeE, h8]
theorem part5 {m : Nat} {ns : List Int} {k : D} {a b p : Int} {cs rs : List D} {y6 y7 y8 : D} {L : List D} {z10 z11 z12 z16 : Option O} {many : Int} {wd : List D} (H : Hall cs rs) (hm : 1 ≤ m) (w : WO a b p) (m2 : 2 ≤ many) (m4 : many ≤ 4) (hw : Pl 60 5 (.tup wd) = true) (hL : L.length = 19) (hA : AP L) :
    ∃ a' b' L', sSeq (rnSs tb [] (calls tb ds m) bd5) (E16 ns k a b p cs rs y6 y7 y8 L z10 z11 z12 (some (.frz (.int many))) (some (.frz (.tup wd))) z16) = .next (E16 ns k a' b' p cs rs y6 y7 y8 L' z10 z11 z12 (some (.frz (.int many))) (some (.frz (.tup wd))) z16) ∧ WO a' b' p ∧ L'.length = 21 ∧ AP L' := by
  obtain ⟨r, a1, b1, g1, g2, g3, w1⟩ := draw_ok (n := m) (many := 2) hm w (by omega) (by omega)
  obtain ⟨wn, hwn⟩ : ∃ wn, wn = (many - 1).toNat := ⟨_, rfl⟩
  have mu : dMul (.tup [.tup [.int 0, .int 0]]) (.int (many - 1)) = some (.frz (.tup (List.replicate wn (.tup [.int 0, .int 0])))) := by
    have : (1 : Int) ≤ many - 1 ∧ many - 1 ≤ 1000 := by omega
    rw [hwn]
    simp [dMul, this]
  have rp : List.length (List.replicate wn (D.tup [.int 0, .int 0]) ++ [D.tup [.int 0, .int r]]) ≤ 9 := by simp; omega
  have sm0 : small (wn + 1) = true := small_le (by omega)
  have sm : small L.length = true := small_le (by omega)
  have sm2 : small (L.length + 1) = true := small_le (by omega)
  have P1 : Pl 60 12 (.tup [.tup wd, .tup [.tup [.str "r", .tup (List.replicate wn (.tup [.int 0, .int 0]) ++ [.tup [.int 0, .int r]])]]]) = true := by
    refine pl_mono (n := 6) (b := 60) (by omega) (by omega) (tup2 (by omega) hw (pl_mono (n := 4) (b := 9) (by omega) (by omega) (tup1 (n := 3) (by omega) (tup2 (n := 2) (by omega) (pl_strN (by decide +kernel)) (pl_mk (n := 1) rp fun d hd => ?_)))))
    rcases List.mem_append.mp hd with h | h
    · rw [List.eq_of_mem_replicate h]
      rfl
    · rw [List.mem_singleton.mp h]
      rfl
  generalize hT1 : D.tup [.tup wd, .tup [.tup [.str "r", .tup (List.replicate wn (.tup [.int 0, .int 0]) ++ [.tup [.int 0, .int r]])]]] = T1 at P1
  obtain ⟨r0, rs', hrs⟩ : ∃ r0 rs', rs = r0 :: rs' := by
    have := H.r1
    cases rs with
    | nil => simp at this
    | cons x l => exact ⟨_, _, rfl⟩
  obtain ⟨s, ps, hr0, hs, hpl, hps⟩ := H.hr r0 (by rw [hrs]; exact List.mem_cons_self)
  have q1 : dIx (.tup rs) (.int 0) = some (.frz (.tup [.str s, .tup ps])) := by rw [hrs, hr0]; exact ix0
  have pp : Pl 9 2 (.tup ps) = true := pl_mk (n := 1) (by have := H.c3; omega) hps
  obtain ⟨l, e', h8, rfl, h9, h10⟩ := lc_some (vs := [14]) (tg := .name 14) (tt := bYes) (te := rnX tb [] (calls tb ds m) (.tup [.ix (.lit (.str "abcd")) (.var 14), .ix (.ix (.var 5) (.lit (.int 0))) (.lit (.int 1))])) (items := upFrom 0 many.toNat) (acc := []) (e := E16 ns k a1 b1 p cs rs y6 y7 y8 (L ++ [T1]) z10 z11 z12 (some (.frz (.int many))) (some (.frz (.tup wd))) z16)
    (fun e => e = E16 ns k a1 b1 p cs rs y6 y7 y8 (L ++ [T1]) z10 z11 z12 (some (.frz (.int many))) (some (.frz (.tup wd))) z16) (fun d => Pl 9 3 d = true) (by rw [upFrom_len]; simp; omega) rfl (by simp) (fun d hd e he => by
      subst he
      obtain ⟨i, rfl, i0, i1⟩ := upFrom_mem hd
      obtain ⟨s', q2, q3⟩ := abcd_ix (i := i) (by omega) (by omega)
      refine ⟨_, _, [some (.frz (.scr ns)), some (.frz k), some (.lst [.int a1, .int b1, .int p]), some (.frz (.tup [.tup cs, .tup rs])), some (.frz (.tup cs)), some (.frz (.tup rs)), some (.frz y6), some (.frz y7), some (.frz y8), some (.lst (L ++ [T1])), z10, z11, z12, some (.frz (.int many)), some (.frz (.int i)), some (.frz (.tup wd)), z16], .tup [.str s', .tup ps], rfl, rfl, ?_, tup2 (n := 2) (by omega) (pl_strN q3) pp, rfl⟩
      simp [E16, argOf, opdOf, small_le, q1, q2, ix1])
  rw [upFrom_len] at h9
  simp at h9
  have sz : inSize many = true := by simp [inSize]; omega
  have P2 : Pl 60 12 (.tup [.tup cs, .tup l]) = true := pl_mono (n := 6) (b := 60) (by omega) (by omega) (tup2 (by omega) (pl_mono (by omega) (by omega) H.cp) (pl_mono (n := 4) (by omega) (by omega) (pl_mk (n := 3) (b := 9) (by omega) h10)))
  refine ⟨a1, b1, (L ++ [T1]) ++ [.tup [.tup cs, .tup l]], ?_, w1, by simp [hL], (hA.add P1).add P2⟩
  simp [E16, argOf, opdOf] at h8
  simp [bd5, bd, c16, codeOf, E16, argOf, opdOf, bOf, bTuple, dBin, dAdd, dSub, itemsOf, okP, put1, small_le, g1, mu, sm0, sm, sm2, sz, subL, aside, wipeE, isOwn, ownL, mRun, hT1, h8]
theorem part6 {m : Nat} {ns : List Int} {k : D} {a b p : Int} {cs rs : List D} {y6 y7 y8 : D} {L : List D} {z10 z11 z12 z13 z15 z16 : Option O} (H : Hall cs rs) (hm : 10 ≤ m) (w : WO a b p) (hL : L.length = 21) (hA : AP L) :
    ∃ a' b' L', sSeq (rnSs tb [] (calls tb ds m) bd6) (E16 ns k a b p cs rs y6 y7 y8 L z10 z11 z12 z13 z15 z16) = .next (E16 ns k a' b' p cs rs y6 y7 y8 L' z10 z11 z12 z13 z15 z16) ∧ L'.length = 24 ∧ AP L' := by
  obtain ⟨o1, d1, a1, b1, g1, f1, p1, w1⟩ := other_ok (deep := 4) (n := m) (q := 4) (by omega) (by omega) (by omega) w H.gp
  obtain ⟨o2, d2, a2, b2, g2, f2, p2, w2⟩ := other_ok (deep := 3) (n := m) (q := 4) (by omega) (by omega) (by omega) w1 H.gp
  obtain ⟨d3, a3, b3, g3, p3, w3⟩ := thing_ok (deep := 3) (n := m) (by omega) (by omega) w2
  have sm : small (L.length + 3) = true := small_le (by omega)
  simp at g1 g2 g3
  refine ⟨a3, b3, L ++ [d1, d2, d3], ?_, by simp [hL], fun d hd => ?_⟩
  · simp [bd6, bd, c16, codeOf, E16, argOf, opdOf, dBin, dAdd, okP, put1, small_le, g1, f1, g2, f2, g3, sm]
  · rcases List.mem_append.mp hd with h | h
    · exact hA d h
    · simp at h
      rcases h with rfl | rfl | rfl
      · exact pl_mono (n := 9) (b := 40) (by omega) (by omega) p1
      · exact pl_mono (n := 9) (b := 40) (by omega) (by omega) p2
      · exact pl_mono (n := 4) (b := 9) (by omega) (by omega) p3
theorem part7 {m : Nat} {ns : List Int} {k : D} {a b p : Int} {cs rs : List D} {y6 y7 y8 : D} {L : List D} {z10 z11 z12 z13 z15 z16 : Option O} (hm : 4 ≤ m) (hA : AP L) :
    ∃ z16', sSeq (rnSs tb [] (calls tb ds m) bd7) (E16 ns k a b p cs rs y6 y7 y8 L z10 z11 z12 z13 z15 z16) = .next [some (.frz (.scr ns)), some (.frz k), some (.lst [.int a, .int b, .int p]), some (.frz (.tup [.tup cs, .tup rs])), some (.frz (.tup cs)), some (.frz (.tup rs)), some (.frz y6), some (.frz y7), some (.frz y8), some (.frz (.lst L)), z10, z11, z12, z13, none, z15, z16'] := by
  obtain ⟨e', h1, z16', rfl⟩ := loop_inv (tg := .name 16) (body := sSeq (rnSs tb [] (calls tb ds m) [.sif (.no (.asB (.fn 9 [.fn 5 [.var 16], .fn 15 [.var 16]]))) [.ret (.lit (.bl false))] []])) (items := L)
    (fun e => ∃ z, e = [some (.frz (.scr ns)), some (.frz k), some (.lst [.int a, .int b, .int p]), some (.frz (.tup [.tup cs, .tup rs])), some (.frz (.tup cs)), some (.frz (.tup rs)), some (.frz y6), some (.frz y7), some (.frz y8), some (.frz (.lst L)), z10, z11, z12, z13, none, z15, z])
    (e := [some (.frz (.scr ns)), some (.frz k), some (.lst [.int a, .int b, .int p]), some (.frz (.tup [.tup cs, .tup rs])), some (.frz (.tup cs)), some (.frz (.tup rs)), some (.frz y6), some (.frz y7), some (.frz y8), some (.frz (.lst L)), z10, z11, z12, z13, none, z15, z16]) ⟨_, rfl⟩ (fun d hd e ⟨z, he⟩ => by
      subst he
      have u1 := hall_ok (n := m) hm (by omega) (hA d hd)
      have u2 := lhall_ok (n := m) hm (by omega) (hA d hd)
      have u3 := says_ok (n := m) (a := yHall d) (b := yHall d) (by omega)
      simp at u3
      refine ⟨_, rfl, [some (.frz (.scr ns)), some (.frz k), some (.lst [.int a, .int b, .int p]), some (.frz (.tup [.tup cs, .tup rs])), some (.frz (.tup cs)), some (.frz (.tup rs)), some (.frz y6), some (.frz y7), some (.frz y8), some (.frz (.lst L)), z10, z11, z12, z13, none, z15, some (.frz d)], ?_, _, rfl⟩
      simp [argOf, opdOf, u1, u2, u3])
  refine ⟨z16', ?_⟩
  simp [argOf, opdOf] at h1
  simp [bd7, bd, c16, codeOf, E16, argOf, opdOf, itemsOf, okP, h1]
theorem law_holds : ∀ ns : List Int, ns.length ≤ 63 → (∀ z ∈ ns, Builtin.Int.intBits z ≤ 1048576) → ∃ outs, runDef n16.length [false] (sSeq (rnSs tb [] (calls tb ds 20) c16)) [.frz (.scr ns)] = .ok (.frz (.bl true)) outs := by
  intro ns hl _
  obtain ⟨M, hM, hM50, hM0⟩ : ∃ M : Int, bMin [.int 50, .int ns.length] = some (.frz (.int M)) ∧ M ≤ 50 ∧ 0 ≤ M := ⟨_, rfl, by split <;> omega, by split <;> omega⟩
  obtain ⟨N, hN, hN50, hN0⟩ : ∃ N : Int, bMax [.int 6, .int M] = some (.frz (.int N)) ∧ N ≤ 50 ∧ 0 ≤ N := ⟨_, rfl, by split <;> omega, by split <;> omega⟩
  obtain ⟨e', h1, hJ⟩ := loop_inv (tg := .name 1) (body := sSeq (rnSs tb [] (calls tb ds 20) bd)) (items := upFrom 0 N.toNat)
    (fun e => ∃ x1 x2 x3 x4 x5 x6 x7 x8 x9 z10 z11 z12 z13 z15 z16 : Option O, e = [some (.frz (.scr ns)), x1, x2, x3, x4, x5, x6, x7, x8, x9, z10, z11, z12, z13, none, z15, z16])
    (e := [some (.frz (.scr ns)), none, none, none, none, none, none, none, none, none, none, none, none, none, none, none, none]) ⟨_, _, _, _, _, _, _, _, _, _, _, _, _, _, _, rfl⟩ (fun d hd e ⟨x1, x2, x3, x4, x5, x6, x7, x8, x9, z10, z11, z12, z13, z15, z16, he⟩ => by
      subst he
      obtain ⟨i, rfl, i0, i1⟩ := upFrom_mem hd
      obtain ⟨a, b, p, cs, rs, y6, y7, y8, L, q1, w1, H, h6, hL1, hA1⟩ := part1 (m := 20) (ns := ns) (k := i) (x2 := x2) (x3 := x3) (x4 := x4) (x5 := x5) (x6 := x6) (x7 := x7) (x8 := x8) (x9 := x9) (z10 := z10) (z11 := z11) (z12 := z12) (z13 := z13) (z15 := z15) (z16 := z16) (by omega) i0 (by omega)
      obtain ⟨L2', u10, u11, q2, hL2, hA2⟩ := part2 (m := 20) (ns := ns) (k := .int i) (a := a) (b := b) (p := p) (y7 := y7) (y8 := y8) (z10 := z10) (z11 := z11) (z12 := z12) (z13 := z13) (z15 := z15) (z16 := z16) H h6 hL1 hA1
      obtain ⟨L3, u12, q3, hL3, hA3⟩ := part3 (m := 20) (ns := ns) (k := .int i) (a := a) (b := b) (p := p) (y6 := y6) (y7 := y7) (y8 := y8) (z10 := u10) (z11 := u11) (z12 := z12) (z13 := z13) (z15 := z15) (z16 := z16) H hL2 hA2
      obtain ⟨a4, b4, many, wd, q4, w4, m2, m4, hwd⟩ := part4 (m := 20) (ns := ns) (k := .int i) (cs := cs) (rs := rs) (y6 := y6) (y7 := y7) (y8 := y8) (L := L3) (z10 := u10) (z11 := u11) (z12 := u12) (z13 := z13) (z15 := z15) (z16 := z16) (by omega) w1
      obtain ⟨a5, b5, L5, q5, w5, hL5, hA5⟩ := part5 (m := 20) (ns := ns) (k := .int i) (y6 := y6) (y7 := y7) (y8 := y8) (z10 := u10) (z11 := u11) (z12 := u12) (z16 := z16) H (by omega) w4 m2 m4 hwd hL3 hA3
      obtain ⟨a6, b6, L6, q6, hL6, hA6⟩ := part6 (m := 20) (ns := ns) (k := .int i) (y6 := y6) (y7 := y7) (y8 := y8) (z10 := u10) (z11 := u11) (z12 := u12) (z13 := some (.frz (.int many))) (z15 := some (.frz (.tup wd))) (z16 := z16) H (by omega) w5 hL5 hA5
      obtain ⟨u16, q7⟩ := part7 (m := 20) (ns := ns) (k := .int i) (a := a6) (b := b6) (p := p) (cs := cs) (rs := rs) (y6 := y6) (y7 := y7) (y8 := y8) (z10 := u10) (z11 := u11) (z12 := u12) (z13 := some (.frz (.int many))) (z15 := some (.frz (.tup wd))) (z16 := z16) (by omega) hA6
      have q8 := run_app (m := bd2 ++ (bd3 ++ (bd4 ++ (bd5 ++ (bd6 ++ bd7))))) q1
      rw [run_app q2, run_app q3, run_app q4, run_app q5, run_app q6, q7, ← bd_split] at q8
      exact ⟨_, rfl, _, q8, _, _, _, _, _, _, _, _, _, _, _, _, _, _, _, rfl⟩)
  obtain ⟨x1, x2, x3, x4, x5, x6, x7, x8, x9, z10, z11, z12, z13, z15, z16, rfl⟩ := hJ
  refine ⟨[none], ?_⟩
  rw [bd_is]
  have sz : inSize N = true := by simp [inSize]; omega
  have sl : small ns.length = true := small_le (by omega)
  simp [n16, startE, argOf, opdOf, bOf, bLen, hM, hN, sz, okP, h1]
end LR

set_option Elab.async false
set_option linter.all false
set_option maxRecDepth 100000
set_option maxHeartbeats 4000000
namespace LR
open PySem PySem.Spec PyProof.Rows L2
section
variable {P : Program} {w : World} {K : PySem.W.Frag} {mg : Str → Option Value} {h : Heap} {base : Heap}
theorem mod_of (cl : Str → Value) (H : DefsAll tb K mg tb.fns ds) (g : ∀ p ∈ tb.gl, GlOk K mg p) (b : ∀ x ∈ tb.nob, mg x = none) (e : ∀ x ∈ tb.exs, ∀ (X : Cx), X.K = K → X.mg = mg → ∀ (m : Str) (j : Nat) (p p2 pos : Pos), Gl X x → (x == ("__debug__" : Str)) = false → PMk X (.Call (.Name x p) [.Constant (.str m) j p2] [] pos) fun _ H Q => Q (cl x) none H) : ModH tb ds cl K mg :=
  ⟨(defsAll_get H).1, fun i e d he hd => (defsAll_get H).2 i e d he hd, g, b, e⟩
end
theorem fin_of {l : PySem.W.OpenLaw} {w : World} {K : PySem.W.Frag} {h : Heap} {mg : Str → Option Value} {fa : Addr} (KX : K.In h) (G : h.Ns mainGlobals mg) (hfa : mg "law" = some (.ref fa))
    {f0 : Addr} {oc0 kV0 dc0 pm0 cd0 ct0 : Value} {od0 an0 : Option Addr} {sl0 : Array (Option Value)}
    (a0 : PySem.W.nsIn K mainGlobals "is_whole" = some (some (.ref f0))) (l0 : K.lookup f0 = some ⟨oc0, od0, .func (PySem.W.fnOf "is_whole" "is_whole" (defArgs (top 1)) (defBody (top 1)) (defScope (top 1)) .none kV0 dc0 pm0 an0 cd0 ct0), sl0⟩) (c0 : PySem.W.codeIn K cd0 "is_whole" = true) (k0 : PySem.W.keepIn K (.ref f0) = true)
    {f1 : Addr} {oc1 kV1 dc1 pm1 cd1 ct1 : Value} {od1 an1 : Option Addr} {sl1 : Array (Option Value)}
    (a1 : PySem.W.nsIn K mainGlobals "is_name" = some (some (.ref f1))) (l1 : K.lookup f1 = some ⟨oc1, od1, .func (PySem.W.fnOf "is_name" "is_name" (defArgs (top 9)) (defBody (top 9)) (defScope (top 9)) .none kV1 dc1 pm1 an1 cd1 ct1), sl1⟩) (c1 : PySem.W.codeIn K cd1 "is_name" = true) (k1 : PySem.W.keepIn K (.ref f1) = true)
    {f2 : Addr} {oc2 kV2 dc2 pm2 cd2 ct2 : Value} {od2 an2 : Option Addr} {sl2 : Array (Option Value)}
    (a2 : PySem.W.nsIn K mainGlobals "is_from" = some (some (.ref f2))) (l2 : K.lookup f2 = some ⟨oc2, od2, .func (PySem.W.fnOf "is_from" "is_from" (defArgs (top 10)) (defBody (top 10)) (defScope (top 10)) .none kV2 dc2 pm2 an2 cd2 ct2), sl2⟩) (c2 : PySem.W.codeIn K cd2 "is_from" = true) (k2 : PySem.W.keepIn K (.ref f2) = true)
    {f3 : Addr} {oc3 kV3 dc3 pm3 cd3 ct3 : Value} {od3 an3 : Option Addr} {sl3 : Array (Option Value)}
    (a3 : PySem.W.nsIn K mainGlobals "are_rows" = some (some (.ref f3))) (l3 : K.lookup f3 = some ⟨oc3, od3, .func (PySem.W.fnOf "are_rows" "are_rows" (defArgs (top 11)) (defBody (top 11)) (defScope (top 11)) .none kV3 dc3 pm3 an3 cd3 ct3), sl3⟩) (c3 : PySem.W.codeIn K cd3 "are_rows" = true) (k3 : PySem.W.keepIn K (.ref f3) = true)
    {f4 : Addr} {oc4 kV4 dc4 pm4 cd4 ct4 : Value} {od4 an4 : Option Addr} {sl4 : Array (Option Value)}
    (a4 : PySem.W.nsIn K mainGlobals "are_strands" = some (some (.ref f4))) (l4 : K.lookup f4 = some ⟨oc4, od4, .func (PySem.W.fnOf "are_strands" "are_strands" (defArgs (top 12)) (defBody (top 12)) (defScope (top 12)) .none kV4 dc4 pm4 an4 cd4 ct4), sl4⟩) (c4 : PySem.W.codeIn K cd4 "are_strands" = true) (k4 : PySem.W.keepIn K (.ref f4) = true)
    {f5 : Addr} {oc5 kV5 dc5 pm5 cd5 ct5 : Value} {od5 an5 : Option Addr} {sl5 : Array (Option Value)}
    (a5 : PySem.W.nsIn K mainGlobals "is_hall" = some (some (.ref f5))) (l5 : K.lookup f5 = some ⟨oc5, od5, .func (PySem.W.fnOf "is_hall" "is_hall" (defArgs (top 13)) (defBody (top 13)) (defScope (top 13)) .none kV5 dc5 pm5 an5 cd5 ct5), sl5⟩) (c5 : PySem.W.codeIn K cd5 "is_hall" = true) (k5 : PySem.W.keepIn K (.ref f5) = true)
    {f6 : Addr} {oc6 kV6 dc6 pm6 cd6 ct6 : Value} {od6 an6 : Option Addr} {sl6 : Array (Option Value)}
    (a6 : PySem.W.nsIn K mainGlobals "_law_well" = some (some (.ref f6))) (l6 : K.lookup f6 = some ⟨oc6, od6, .func (PySem.W.fnOf "_law_well" "_law_well" (defArgs (top 15)) (defBody (top 15)) (defScope (top 15)) .none kV6 dc6 pm6 an6 cd6 ct6), sl6⟩) (c6 : PySem.W.codeIn K cd6 "_law_well" = true) (k6 : PySem.W.keepIn K (.ref f6) = true)
    {f7 : Addr} {oc7 kV7 dc7 pm7 cd7 ct7 : Value} {od7 an7 : Option Addr} {sl7 : Array (Option Value)}
    (a7 : PySem.W.nsIn K mainGlobals "_law_take" = some (some (.ref f7))) (l7 : K.lookup f7 = some ⟨oc7, od7, .func (PySem.W.fnOf "_law_take" "_law_take" (defArgs (top 16)) (defBody (top 16)) (defScope (top 16)) .none kV7 dc7 pm7 an7 cd7 ct7), sl7⟩) (c7 : PySem.W.codeIn K cd7 "_law_take" = true) (k7 : PySem.W.keepIn K (.ref f7) = true)
    {f8 : Addr} {oc8 kV8 dc8 pm8 cd8 ct8 : Value} {od8 an8 : Option Addr} {sl8 : Array (Option Value)}
    (a8 : PySem.W.nsIn K mainGlobals "_law_is_int" = some (some (.ref f8))) (l8 : K.lookup f8 = some ⟨oc8, od8, .func (PySem.W.fnOf "_law_is_int" "_law_is_int" (defArgs (top 17)) (defBody (top 17)) (defScope (top 17)) .none kV8 dc8 pm8 an8 cd8 ct8), sl8⟩) (c8 : PySem.W.codeIn K cd8 "_law_is_int" = true) (k8 : PySem.W.keepIn K (.ref f8) = true)
    {f9 : Addr} {oc9 kV9 dc9 pm9 cd9 ct9 : Value} {od9 an9 : Option Addr} {sl9 : Array (Option Value)}
    (a9 : PySem.W.nsIn K mainGlobals "_law_says" = some (some (.ref f9))) (l9 : K.lookup f9 = some ⟨oc9, od9, .func (PySem.W.fnOf "_law_says" "_law_says" (defArgs (top 18)) (defBody (top 18)) (defScope (top 18)) .none kV9 dc9 pm9 an9 cd9 ct9), sl9⟩) (c9 : PySem.W.codeIn K cd9 "_law_says" = true) (k9 : PySem.W.keepIn K (.ref f9) = true)
    {f10 : Addr} {oc10 kV10 dc10 pm10 cd10 ct10 : Value} {od10 an10 : Option Addr} {sl10 : Array (Option Value)}
    (a10 : PySem.W.nsIn K mainGlobals "_law_thing" = some (some (.ref f10))) (l10 : K.lookup f10 = some ⟨oc10, od10, .func (PySem.W.fnOf "_law_thing" "_law_thing" (defArgs (top 19)) (defBody (top 19)) (defScope (top 19)) .none kV10 dc10 pm10 an10 cd10 ct10), sl10⟩) (c10 : PySem.W.codeIn K cd10 "_law_thing" = true) (k10 : PySem.W.keepIn K (.ref f10) = true)
    {f11 : Addr} {oc11 kV11 dc11 pm11 cd11 ct11 : Value} {od11 an11 : Option Addr} {sl11 : Array (Option Value)}
    (a11 : PySem.W.nsIn K mainGlobals "_law_otherwise" = some (some (.ref f11))) (l11 : K.lookup f11 = some ⟨oc11, od11, .func (PySem.W.fnOf "_law_otherwise" "_law_otherwise" (defArgs (top 20)) (defBody (top 20)) (defScope (top 20)) .none kV11 dc11 pm11 an11 cd11 ct11), sl11⟩) (c11 : PySem.W.codeIn K cd11 "_law_otherwise" = true) (k11 : PySem.W.keepIn K (.ref f11) = true)
    {f12 : Addr} {oc12 kV12 dc12 pm12 cd12 ct12 : Value} {od12 an12 : Option Addr} {sl12 : Array (Option Value)}
    (a12 : PySem.W.nsIn K mainGlobals "_law_hall" = some (some (.ref f12))) (l12 : K.lookup f12 = some ⟨oc12, od12, .func (PySem.W.fnOf "_law_hall" "_law_hall" (defArgs (top 21)) (defBody (top 21)) (defScope (top 21)) .none kV12 dc12 pm12 an12 cd12 ct12), sl12⟩) (c12 : PySem.W.codeIn K cd12 "_law_hall" = true) (k12 : PySem.W.keepIn K (.ref f12) = true)
    {f13 : Addr} {oc13 kV13 dc13 pm13 cd13 ct13 : Value} {od13 an13 : Option Addr} {sl13 : Array (Option Value)}
    (a13 : PySem.W.nsIn K mainGlobals "_law_is_name" = some (some (.ref f13))) (l13 : K.lookup f13 = some ⟨oc13, od13, .func (PySem.W.fnOf "_law_is_name" "_law_is_name" (defArgs (top 22)) (defBody (top 22)) (defScope (top 22)) .none kV13 dc13 pm13 an13 cd13 ct13), sl13⟩) (c13 : PySem.W.codeIn K cd13 "_law_is_name" = true) (k13 : PySem.W.keepIn K (.ref f13) = true)
    {f14 : Addr} {oc14 kV14 dc14 pm14 cd14 ct14 : Value} {od14 an14 : Option Addr} {sl14 : Array (Option Value)}
    (a14 : PySem.W.nsIn K mainGlobals "_law_are_rows" = some (some (.ref f14))) (l14 : K.lookup f14 = some ⟨oc14, od14, .func (PySem.W.fnOf "_law_are_rows" "_law_are_rows" (defArgs (top 23)) (defBody (top 23)) (defScope (top 23)) .none kV14 dc14 pm14 an14 cd14 ct14), sl14⟩) (c14 : PySem.W.codeIn K cd14 "_law_are_rows" = true) (k14 : PySem.W.keepIn K (.ref f14) = true)
    {f15 : Addr} {oc15 kV15 dc15 pm15 cd15 ct15 : Value} {od15 an15 : Option Addr} {sl15 : Array (Option Value)}
    (a15 : PySem.W.nsIn K mainGlobals "_law_is_hall" = some (some (.ref f15))) (l15 : K.lookup f15 = some ⟨oc15, od15, .func (PySem.W.fnOf "_law_is_hall" "_law_is_hall" (defArgs (top 24)) (defBody (top 24)) (defScope (top 24)) .none kV15 dc15 pm15 an15 cd15 ct15), sl15⟩) (c15 : PySem.W.codeIn K cd15 "_law_is_hall" = true) (k15 : PySem.W.keepIn K (.ref f15) = true)
    {f16 : Addr} {oc16 kV16 dc16 pm16 cd16 ct16 : Value} {od16 an16 : Option Addr} {sl16 : Array (Option Value)}
    (a16 : PySem.W.nsIn K mainGlobals "law" = some (some (.ref f16))) (l16 : K.lookup f16 = some ⟨oc16, od16, .func (PySem.W.fnOf "law" "law" (defArgs (top 25)) (defBody (top 25)) (defScope (top 25)) .none kV16 dc16 pm16 an16 cd16 ct16), sl16⟩) (c16 : PySem.W.codeIn K cd16 "law" = true) (k16 : PySem.W.keepIn K (.ref f16) = true)
    {tg0 : Tok} (g0 : PySem.W.nsIn K mainGlobals "LETTERS" = some (some (.str "abcdefghijklmnopqrstuvwxyz" tg0)))
    {tg1 : Tok} (g1 : PySem.W.nsIn K mainGlobals "MOST_STRANDS" = some (some (.int 4 tg1)))
    {tg2 : Tok} (g2 : PySem.W.nsIn K mainGlobals "MOST_CARS" = some (some (.int 3 tg2)))
    {tg3 : Tok} (g3 : PySem.W.nsIn K mainGlobals "MOST_ROPES" = some (some (.int 3 tg3)))
    {tg4 : Tok} (g4 : PySem.W.nsIn K mainGlobals "MOST_LONG" = some (some (.int 60 tg4)))
    {tg5 : Tok} (g5 : PySem.W.nsIn K mainGlobals "MOST_RUB" = some (some (.int 30 tg5)))
    (b0 : PySem.W.nsIn K mainGlobals "isinstance" = some none)
    (b1 : PySem.W.nsIn K mainGlobals "int" = some none)
    (b2 : PySem.W.nsIn K mainGlobals "bool" = some none)
    (b3 : PySem.W.nsIn K mainGlobals "str" = some none)
    (b4 : PySem.W.nsIn K mainGlobals "len" = some none)
    (b5 : PySem.W.nsIn K mainGlobals "all" = some none)
    (b6 : PySem.W.nsIn K mainGlobals "tuple" = some none)
    (b7 : PySem.W.nsIn K mainGlobals "range" = some none)
    (b8 : PySem.W.nsIn K mainGlobals "any" = some none)
    (b9 : PySem.W.nsIn K mainGlobals "list" = some none)
    (b10 : PySem.W.nsIn K mainGlobals "sorted" = some none)
    (b11 : PySem.W.nsIn K mainGlobals "set" = some none)
    (b12 : PySem.W.nsIn K mainGlobals "max" = some none)
    (b13 : PySem.W.nsIn K mainGlobals "min" = some none)
    : ∃ fd : FuncData, (∀ (s : Shared) (u : Value), BindsTo s fd ⟨[u], []⟩ [("script", u)]) ∧ ∀ base : Heap, K.In base → base.Ns mainGlobals mg → FnOk l.prog w K mg base (L2.CX l.prog w) 21 fa fd [("script" : Str)] (spLaw K) := by
  have e := hfa.symm.trans (PySem.W.mg_of KX G a16)
  cases e
  have H : DefsAll tb K mg tb.fns ds := ⟨mkF KX G p0 a0 l0 c0 k0, mkF KX G p1 a1 l1 c1 k1, mkF KX G p2 a2 l2 c2 k2, mkF KX G p3 a3 l3 c3 k3, mkF KX G p4 a4 l4 c4 k4, mkF KX G p5 a5 l5 c5 k5, mkF KX G p6 a6 l6 c6 k6, mkF KX G p7 a7 l7 c7 k7, mkF KX G p8 a8 l8 c8 k8, mkF KX G p9 a9 l9 c9 k9, mkF KX G p10 a10 l10 c10 k10, mkF KX G p11 a11 l11 c11 k11, mkF KX G p12 a12 l12 c12 k12, mkF KX G p13 a13 l13 c13 k13, mkF KX G p14 a14 l14 c14 k14, mkF KX G p15 a15 l15 c15 k15, mkF KX G p16 a16 l16 c16 k16, trivial⟩
  have g : ∀ p ∈ tb.gl, GlOk K mg p := by
    intro p hp
    simp only [tb, List.mem_cons, List.not_mem_nil, or_false] at hp
    rcases hp with rfl | rfl | rfl | rfl | rfl | rfl
    · exact gl_str KX G g0
    · exact gl_int KX G g1
    · exact gl_int KX G g2
    · exact gl_int KX G g3
    · exact gl_int KX G g4
    · exact gl_int KX G g5
  have b : ∀ x ∈ tb.nob, mg x = none := by
    refine nob_all KX G fun x hx => ?_
    simp only [tb, List.mem_cons, List.not_mem_nil, or_false] at hx
    rcases hx with rfl | rfl | rfl | rfl | rfl | rfl | rfl | rfl | rfl | rfl | rfl | rfl | rfl | rfl
    · exact b0
    · exact b1
    · exact b2
    · exact b3
    · exact b4
    · exact b5
    · exact b6
    · exact b7
    · exact b8
    · exact b9
    · exact b10
    · exact b11
    · exact b12
    · exact b13
  have M : ModH tb ds (fun _ => .none) K mg := mod_of _ H g b fun x hx => by cases hx
  refine ⟨_, fun s u => .of_eq (p16.bind _ _ _ _ _ _ [u] rfl), fun base _ _ => law_of M (fun_mk (st := top 25) l16 c16 k16) p16 law_holds⟩
end LR
open PySem PySem.W PyProof.Rows in
set_option maxRecDepth 100000 in
set_option maxHeartbeats 0 in
theorem PySem.Challenge.cw_lanerope_k01_what_are_halls_holds : PySem.Challenge.rw_lanerope_k01_what_are_halls.Holds := by
  w_on; o_law; k_head; (case hw => w_witness2)
  k_fill
  refine LR.head_of (l := PySem.Challenge.rw_lanerope_k01_what_are_halls) (k := 20) rfl rfl ⟨rfl, by decide, by decide⟩ (fun w h Y => PySem.W.kIn_of Y) ?F
  case F =>
    intro w mg fa h KX G hmg
    refine' LR.fin_of KX G hmg ?zza0 ?zzl0 ?zzc0 ?zzk0 ?zza1 ?zzl1 ?zzc1 ?zzk1 ?zza2 ?zzl2 ?zzc2 ?zzk2 ?zza3 ?zzl3 ?zzc3 ?zzk3 ?zza4 ?zzl4 ?zzc4 ?zzk4 ?zza5 ?zzl5 ?zzc5 ?zzk5 ?zza6 ?zzl6 ?zzc6 ?zzk6 ?zza7 ?zzl7 ?zzc7 ?zzk7 ?zza8 ?zzl8 ?zzc8 ?zzk8 ?zza9 ?zzl9 ?zzc9 ?zzk9 ?zza10 ?zzl10 ?zzc10 ?zzk10 ?zza11 ?zzl11 ?zzc11 ?zzk11 ?zza12 ?zzl12 ?zzc12 ?zzk12 ?zza13 ?zzl13 ?zzc13 ?zzk13 ?zza14 ?zzl14 ?zzc14 ?zzk14 ?zza15 ?zzl15 ?zzc15 ?zzk15 ?zza16 ?zzl16 ?zzc16 ?zzk16 ?zzg0 ?zzg1 ?zzg2 ?zzg3 ?zzg4 ?zzg5 ?zzb0 ?zzb1 ?zzb2 ?zzb3 ?zzb4 ?zzb5 ?zzb6 ?zzb7 ?zzb8 ?zzb9 ?zzb10 ?zzb11 ?zzb12 ?zzb13
    (case zza0 => k_is)
    (case zzl0 => k_is)
    (case zzc0 => k_is)
    (case zzk0 => k_is)
    (case zza1 => k_is)
    (case zzl1 => k_is)
    (case zzc1 => k_is)
    (case zzk1 => k_is)
    (case zza2 => k_is)
    (case zzl2 => k_is)
    (case zzc2 => k_is)
    (case zzk2 => k_is)
    (case zza3 => k_is)
    (case zzl3 => k_is)
    (case zzc3 => k_is)
    (case zzk3 => k_is)
    (case zza4 => k_is)
    (case zzl4 => k_is)
    (case zzc4 => k_is)
    (case zzk4 => k_is)
    (case zza5 => k_is)
    (case zzl5 => k_is)
    (case zzc5 => k_is)
    (case zzk5 => k_is)
    (case zza6 => k_is)
    (case zzl6 => k_is)
    (case zzc6 => k_is)
    (case zzk6 => k_is)
    (case zza7 => k_is)
    (case zzl7 => k_is)
    (case zzc7 => k_is)
    (case zzk7 => k_is)
    (case zza8 => k_is)
    (case zzl8 => k_is)
    (case zzc8 => k_is)
    (case zzk8 => k_is)
    (case zza9 => k_is)
    (case zzl9 => k_is)
    (case zzc9 => k_is)
    (case zzk9 => k_is)
    (case zza10 => k_is)
    (case zzl10 => k_is)
    (case zzc10 => k_is)
    (case zzk10 => k_is)
    (case zza11 => k_is)
    (case zzl11 => k_is)
    (case zzc11 => k_is)
    (case zzk11 => k_is)
    (case zza12 => k_is)
    (case zzl12 => k_is)
    (case zzc12 => k_is)
    (case zzk12 => k_is)
    (case zza13 => k_is)
    (case zzl13 => k_is)
    (case zzc13 => k_is)
    (case zzk13 => k_is)
    (case zza14 => k_is)
    (case zzl14 => k_is)
    (case zzc14 => k_is)
    (case zzk14 => k_is)
    (case zza15 => k_is)
    (case zzl15 => k_is)
    (case zzc15 => k_is)
    (case zzk15 => k_is)
    (case zza16 => k_is)
    (case zzl16 => k_is)
    (case zzc16 => k_is)
    (case zzk16 => k_is)
    (case zzg0 => k_is)
    (case zzg1 => k_is)
    (case zzg2 => k_is)
    (case zzg3 => k_is)
    (case zzg4 => k_is)
    (case zzg5 => k_is)
    (case zzb0 => k_is)
    (case zzb1 => k_is)
    (case zzb2 => k_is)
    (case zzb3 => k_is)
    (case zzb4 => k_is)
    (case zzb5 => k_is)
    (case zzb6 => k_is)
    (case zzb7 => k_is)
    (case zzb8 => k_is)
    (case zzb9 => k_is)
    (case zzb10 => k_is)
    (case zzb11 => k_is)
    (case zzb12 => k_is)
    (case zzb13 => k_is)
