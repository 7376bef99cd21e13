import PyProof.Rows.All
import Wide.All
import OpenK.AllK
import Wide.FinOn
import HandS.ForMost
import HandS.ForExc
import HandS.IsInst
import HandS.ExcIs
import HandS.HotCalls
import HandS.Style
import HandS.TupMul
import HandS.TupAny
import HandS.Deep
import PySem.Challenge.RW_bothreed_k01_patterns
set_option Elab.async false
set_option linter.all false
set_option maxRecDepth 100000
set_option maxHeartbeats 8000000
/-! DE0: values as trees, a store of live cells, how they stand in the hand layer's abstract heap; results; the judgements. -/
namespace DE
open PySem PySem.Spec PyProof.Rows L2

abbrev St := L2.St
/-- a value: a tree; ref l: the live cell l of the store -/
inductive D where
  | non | bl (b : Bool) | int (i : Int) | str (x : Str)
  | tup (xs : List D) | lst (xs : List D) | dct (ks : List Key) (xs : List D) | ref (l : Nat) | scr (ns : List Int) | exc (c : Nat) (a : Addr)
instance : Inhabited D := ⟨.non⟩
/-- a live cell: what is changed -/
inductive Cell where
  | lst (xs : List D) | dK (ks : List Key) (xs : List D) | dT (ks : List (List Key)) (xs : List D) | ins (c : Nat) (fs : List Str) (xs : List D)
instance : Inhabited Cell := ⟨.lst []⟩
abbrev Store := List Cell
abbrev Env := List (Option D)

/-- where the live cells stand (rho), what is shut away (pi) -/
structure Lv where
  rho : List Addr
  pi : List Addr

def FzT (K : PySem.W.Frag) (L : Lv) (H : Hp) (a : Addr) (vs : List V) : Prop :=
  (a ∉ L.rho ∧ a ∉ L.pi ∧ Rd H a (.tup vs)) ∨
    ∃ (o : Obj) (its : Array Value) (n : Nat), K.lookup a = some o ∧ o.cls = .type "tuple" ∧ o.data = .seq its n ∧ its.size ≤ sizeLine ∧ Vals vs its.toList
def FzL (L : Lv) (H : Hp) (a : Addr) (vs : List V) : Prop := a ∉ L.rho ∧ a ∉ L.pi ∧ H a = some (.lst vs)
def FzD (L : Lv) (H : Hp) (a : Addr) (kvs : List (Key × V)) : Prop := a ∉ L.rho ∧ a ∉ L.pi ∧ H a = some (.dK kvs)
/-- the script: a list of ints that nothing changes -/
def FzS (K : PySem.W.Frag) (L : Lv) (H : Hp) (a : Addr) (vs : List V) : Prop :=
  (a ∉ L.rho ∧ a ∉ L.pi ∧ Rd H a (.lst vs)) ∨
    ∃ (o : Obj) (its : Array Value) (n : Nat), K.lookup a = some o ∧ o.cls = .type "list" ∧ o.dict = none ∧ o.data = .seq its n ∧ its.size ≤ sizeLine ∧ Vals vs its.toList

mutual
/-- the value v stands for d -/
def RD (K : PySem.W.Frag) (L : Lv) (H : Hp) : D → V → Prop
  | .non, v => v = .non
  | .bl b, v => v = .bl b
  | .int i, v => v = .int i
  | .str x, v => v = .str x
  | .tup xs, v => ∃ a vs, v = .ref a ∧ FzT K L H a vs ∧ RDs K L H xs vs
  | .lst xs, v => ∃ a vs, v = .ref a ∧ FzL L H a vs ∧ RDs K L H xs vs
  | .dct ks xs, v => ∃ a vs, v = .ref a ∧ FzD L H a (ks.zip vs) ∧ ks.length = vs.length ∧ RDs K L H xs vs
  | .ref l, v => ∃ a, v = .ref a ∧ L.rho[l]? = some a
  | .scr ns, v => ∃ a, v = .ref a ∧ FzS K L H a (ns.map V.int)
  | .exc _ a, v => v = .ref a
def RDs (K : PySem.W.Frag) (L : Lv) (H : Hp) : List D → List V → Prop
  | [], vs => vs = []
  | x :: xs, vs => ∃ w ws, vs = w :: ws ∧ RD K L H x w ∧ RDs K L H xs ws
end

/-- from one moment to a later one: what is read stands -/
structure Mono (L : Lv) (H : Hp) (L2 : Lv) (H2 : Hp) : Prop where
  rho : L.rho <+: L2.rho
  keep : ∀ b o, H b = some o → b ∉ L.rho → b ∉ L.pi → H2 b = some o ∧ b ∉ L2.rho ∧ b ∉ L2.pi
/-- .. and what is shut away, too -/
structure Keep (L : Lv) (H : Hp) (L2 : Lv) (H2 : Hp) : Prop where
  pi : L2.pi = L.pi
  rho : L.rho <+: L2.rho
  keep : ∀ b o, H b = some o → b ∉ L.rho → H2 b = some o ∧ b ∉ L2.rho
theorem Keep.mono {L L2 : Lv} {H H2 : Hp} (k : Keep L H L2 H2) : Mono L H L2 H2 :=
  ⟨k.rho, fun b o e h1 h2 => ⟨(k.keep b o e h1).1, (k.keep b o e h1).2, by rw [k.pi]; exact h2⟩⟩
theorem Keep.refl {L : Lv} {H : Hp} : Keep L H L H := ⟨rfl, List.prefix_refl _, fun _ _ e h => ⟨e, h⟩⟩
theorem Keep.trans {L L1 L2 : Lv} {H H1 H2 : Hp} (a : Keep L H L1 H1) (b : Keep L1 H1 L2 H2) : Keep L H L2 H2 :=
  ⟨b.pi.trans a.pi, a.rho.trans b.rho, fun c o e h => b.keep c o (a.keep c o e h).1 (a.keep c o e h).2⟩
theorem Mono.refl {L : Lv} {H : Hp} : Mono L H L H := Keep.refl.mono
theorem Mono.trans {L L1 L2 : Lv} {H H1 H2 : Hp} (a : Mono L H L1 H1) (b : Mono L1 H1 L2 H2) : Mono L H L2 H2 :=
  ⟨a.rho.trans b.rho, fun c o e h h' => let ⟨e1, h1, h2⟩ := a.keep c o e h h'; b.keep c o e1 h1 h2⟩
theorem prefix_get {α : Type} {l l2 : List α} (h : l <+: l2) {i : Nat} {a : α} (e : l[i]? = some a) : l2[i]? = some a := by
  obtain ⟨r, rfl⟩ := h
  rw [List.getElem?_append_left (List.getElem?_eq_some_iff.mp e).1]; exact e
section
variable {K : PySem.W.Frag} {L L2 : Lv} {H H2 : Hp}
theorem Mono.rd {a : Addr} {o : HO} (m : Mono L H L2 H2) (h1 : a ∉ L.rho) (h2 : a ∉ L.pi) (r : Rd H a o) : a ∉ L2.rho ∧ a ∉ L2.pi ∧ Rd H2 a o := by
  rcases r with e | ⟨ob, e⟩
  · obtain ⟨q, q1, q2⟩ := m.keep _ _ e h1 h2
    exact ⟨q1, q2, .inl q⟩
  · obtain ⟨q, q1, q2⟩ := m.keep _ _ e h1 h2
    exact ⟨q1, q2, .inr ⟨ob, q⟩⟩
theorem FzT.mono {a : Addr} {vs : List V} (m : Mono L H L2 H2) (h : FzT K L H a vs) : FzT K L2 H2 a vs := by
  rcases h with ⟨h1, h2, r⟩ | h
  · exact .inl (m.rd h1 h2 r)
  · exact .inr h
theorem FzS.mono {a : Addr} {vs : List V} (m : Mono L H L2 H2) (h : FzS K L H a vs) : FzS K L2 H2 a vs := by
  rcases h with ⟨h1, h2, r⟩ | h
  · exact .inl (m.rd h1 h2 r)
  · exact .inr h
theorem FzS.sq {a : Addr} {vs : List V} (h : FzS K L H a vs) : SqL K H a vs := by
  rcases h with ⟨_, _, r⟩ | h
  · exact .inl r
  · exact .inr h
theorem FzL.mono {a : Addr} {vs : List V} (m : Mono L H L2 H2) (h : FzL L H a vs) : FzL L2 H2 a vs := by
  obtain ⟨q, q1, q2⟩ := m.keep _ _ h.2.2 h.1 h.2.1
  exact ⟨q1, q2, q⟩
theorem FzD.mono {a : Addr} {kvs : List (Key × V)} (m : Mono L H L2 H2) (h : FzD L H a kvs) : FzD L2 H2 a kvs := by
  obtain ⟨q, q1, q2⟩ := m.keep _ _ h.2.2 h.1 h.2.1
  exact ⟨q1, q2, q⟩
theorem FzT.sq {a : Addr} {vs : List V} (h : FzT K L H a vs) : SqT K H a vs := by
  rcases h with ⟨_, _, r⟩ | h
  · exact .inl r
  · exact .inr h
theorem FzL.sq {a : Addr} {vs : List V} (h : FzL L H a vs) : SqL K H a vs := .inl (.inl h.2.2)
mutual
theorem RD.mono (m : Mono L H L2 H2) : ∀ (d : D) (v : V), RD K L H d v → RD K L2 H2 d v
  | .non, _, h => h
  | .bl _, _, h => h
  | .int _, _, h => h
  | .str _, _, h => h
  | .tup xs, _, h => by
    simp only [RD] at h ⊢
    obtain ⟨a, vs, e, f, r⟩ := h
    exact ⟨a, vs, e, f.mono m, RDs.mono m xs vs r⟩
  | .lst xs, _, h => by
    simp only [RD] at h ⊢
    obtain ⟨a, vs, e, f, r⟩ := h
    exact ⟨a, vs, e, f.mono m, RDs.mono m xs vs r⟩
  | .dct ks xs, _, h => by
    simp only [RD] at h ⊢
    obtain ⟨a, vs, e, f, l, r⟩ := h
    exact ⟨a, vs, e, f.mono m, l, RDs.mono m xs vs r⟩
  | .ref l, _, h => by
    simp only [RD] at h ⊢
    obtain ⟨a, e, q⟩ := h
    exact ⟨a, e, prefix_get m.rho q⟩
  | .scr ns, _, h => by
    simp only [RD] at h ⊢
    obtain ⟨a, e, q⟩ := h
    exact ⟨a, e, q.mono m⟩
  | .exc _ _, _, h => h
theorem RDs.mono (m : Mono L H L2 H2) : ∀ (ds : List D) (vs : List V), RDs K L H ds vs → RDs K L2 H2 ds vs
  | [], _, h => h
  | x :: xs, _, h => by
    simp only [RDs] at h ⊢
    obtain ⟨w, ws, e, r, rs⟩ := h
    exact ⟨w, ws, e, RD.mono m x w r, RDs.mono m xs ws rs⟩
end
theorem RDs.nil : RDs K L H [] [] := rfl
theorem RDs.cons {x : D} {xs : List D} {v : V} {vs : List V} (h : RD K L H x v) (hs : RDs K L H xs vs) : RDs K L H (x :: xs) (v :: vs) := ⟨v, vs, rfl, h, hs⟩
theorem RDs.length : ∀ {ds : List D} {vs : List V}, RDs K L H ds vs → ds.length = vs.length
  | [], _, h => by simp only [RDs] at h; subst h; rfl
  | x :: xs, _, h => by
    simp only [RDs] at h
    obtain ⟨w, ws, rfl, _, r⟩ := h
    simp [RDs.length r]
theorem RDs.get : ∀ {ds : List D} {vs : List V} {i : Nat} {d : D}, RDs K L H ds vs → ds[i]? = some d → ∃ v, vs[i]? = some v ∧ RD K L H d v
  | [], _, _, _, _, e => by simp at e
  | x :: xs, _, i, d, h, e => by
    simp only [RDs] at h
    obtain ⟨w, ws, rfl, r, rs⟩ := h
    cases i with
    | zero => simp at e; subst e; exact ⟨w, rfl, r⟩
    | succ i => simpa using RDs.get rs (by simpa using e)
theorem RDs.get' : ∀ {ds : List D} {vs : List V} {i : Nat} {v : V}, RDs K L H ds vs → vs[i]? = some v → ∃ d, ds[i]? = some d ∧ RD K L H d v
  | [], _, _, _, h, e => by simp only [RDs] at h; subst h; simp at e
  | x :: xs, _, i, v, h, e => by
    simp only [RDs] at h
    obtain ⟨w, ws, rfl, r, rs⟩ := h
    cases i with
    | zero => simp at e; subst e; exact ⟨x, rfl, r⟩
    | succ i => simpa using RDs.get' rs (by simpa using e)
theorem RDs.append : ∀ {ds es : List D} {vs ws : List V}, RDs K L H ds vs → RDs K L H es ws → RDs K L H (ds ++ es) (vs ++ ws)
  | [], _, _, _, h, h' => by simp only [RDs] at h; subst h; exact h'
  | x :: xs, _, _, _, h, h' => by
    simp only [RDs] at h
    obtain ⟨w, ws, rfl, r, rs⟩ := h
    exact .cons r (RDs.append rs h')
theorem RDs.take : ∀ {ds : List D} {vs : List V} (n : Nat), RDs K L H ds vs → RDs K L H (ds.take n) (vs.take n)
  | _, _, 0, _ => rfl
  | [], _, n + 1, h => by simp only [RDs] at h; subst h; rfl
  | x :: xs, _, n + 1, h => by
    simp only [RDs] at h
    obtain ⟨w, ws, rfl, r, rs⟩ := h
    exact .cons r (RDs.take n rs)
theorem RDs.drop : ∀ {ds : List D} {vs : List V} (n : Nat), RDs K L H ds vs → RDs K L H (ds.drop n) (vs.drop n)
  | _, _, 0, h => h
  | [], _, n + 1, h => by simp only [RDs] at h; subst h; rfl
  | x :: xs, _, n + 1, h => by
    simp only [RDs] at h
    obtain ⟨w, ws, rfl, r, rs⟩ := h
    exact RDs.drop n rs
theorem RDs.set {d : D} {v : V} (q : RD K L H d v) : ∀ {ds : List D} {vs : List V} (i : Nat), RDs K L H ds vs → RDs K L H (ds.set i d) (vs.set i v)
  | [], _, _, h => by simp only [RDs] at h; subst h; rfl
  | x :: xs, _, 0, h => by
    simp only [RDs] at h
    obtain ⟨w, ws, rfl, r, rs⟩ := h
    exact .cons q rs
  | x :: xs, _, i + 1, h => by
    simp only [RDs] at h
    obtain ⟨w, ws, rfl, r, rs⟩ := h
    exact .cons r (RDs.set q i rs)
end

/-- a live cell as it stands -/
def CellOk (K : PySem.W.Frag) (ca : Nat → Addr) (L : Lv) (H : Hp) (a : Addr) : Cell → Prop
  | .lst xs => ∃ vs, H a = some (.lst vs) ∧ RDs K L H xs vs
  | .dK ks xs => ∃ vs, H a = some (.dK (ks.zip vs)) ∧ ks.length = vs.length ∧ RDs K L H xs vs
  | .dT ks xs => ∃ vs, H a = some (.dT (ks.zip vs)) ∧ ks.length = vs.length ∧ RDs K L H xs vs
  | .ins c fs xs => ∃ dx vs, H a = some (.ins (ca c) dx (fs.zip vs)) ∧ fs.length = vs.length ∧ RDs K L H xs vs
structure SR (K : PySem.W.Frag) (ca : Nat → Addr) (L : Lv) (s : Store) (H : Hp) : Prop where
  len : L.rho.length = s.length
  nd : L.rho.Nodup
  cell : ∀ (l : Nat) (a : Addr) (c : Cell), L.rho[l]? = some a → s[l]? = some c → CellOk K ca L H a c
  pi : ∀ b ∈ L.pi, b ∉ L.rho ∧ ∃ o, H b = some o
def ER (K : PySem.W.Frag) (L : Lv) (H : Hp) (env : Env) (σ : St) : Prop := env.length = σ.length ∧ ∀ (i : Nat) (d : D), env[i]? = some (some d) → ∃ v, σ[i]? = some (some v) ∧ RD K L H d v
section
variable {K : PySem.W.Frag} {ca : Nat → Addr} {L L2 : Lv} {H H2 : Hp} {s : Store} {env : Env} {σ : St}
theorem ER.mono (e : ER K L H env σ) (m : Mono L H L2 H2) : ER K L2 H2 env σ := ⟨e.1, fun i d h => let ⟨v, h1, h2⟩ := e.2 i d h; ⟨v, h1, RD.mono m d v h2⟩⟩
theorem ER.set {i : Nat} {d : D} {v : V} (e : ER K L H env σ) (r : RD K L H d v) : ER K L H (env.set i (some d)) (σ.set i (some v)) := by
  refine ⟨by simp [e.1], fun j d' h => ?_⟩
  by_cases hj : i = j
  · subst hj
    by_cases hl : i < env.length
    · rw [List.getElem?_set_self hl] at h
      cases h
      exact ⟨v, by rw [List.getElem?_set_self (by rw [← e.1]; exact hl)], r⟩
    · rw [List.getElem?_eq_none (by simpa using hl)] at h; cases h
  · rw [List.getElem?_set_ne hj] at h
    obtain ⟨v', h1, h2⟩ := e.2 j d' h
    exact ⟨v', by rw [List.getElem?_set_ne hj]; exact h1, h2⟩
theorem CellOk.mono {a : Addr} {c : Cell} (h : CellOk K ca L H a c) (m : Mono L H L2 H2) (e : H2 a = H a) : CellOk K ca L2 H2 a c := by
  cases c with
  | lst xs => obtain ⟨vs, h1, h2⟩ := h; exact ⟨vs, by rw [e]; exact h1, RDs.mono m _ _ h2⟩
  | dK ks xs => obtain ⟨vs, h1, h2, h3⟩ := h; exact ⟨vs, by rw [e]; exact h1, h2, RDs.mono m _ _ h3⟩
  | dT ks xs => obtain ⟨vs, h1, h2, h3⟩ := h; exact ⟨vs, by rw [e]; exact h1, h2, RDs.mono m _ _ h3⟩
  | ins k fs xs => obtain ⟨dx, vs, h1, h2, h3⟩ := h; exact ⟨dx, vs, by rw [e]; exact h1, h2, RDs.mono m _ _ h3⟩
theorem CellOk.some {a : Addr} {c : Cell} (h : CellOk K ca L H a c) : ∃ o, H a = some o := by
  cases c with
  | lst xs => obtain ⟨vs, h1, h2⟩ := h; exact ⟨_, h1⟩
  | dK ks xs => obtain ⟨vs, h1, h2, h3⟩ := h; exact ⟨_, h1⟩
  | dT ks xs => obtain ⟨vs, h1, h2, h3⟩ := h; exact ⟨_, h1⟩
  | ins k fs xs => obtain ⟨dx, vs, h1, h2, h3⟩ := h; exact ⟨_, h1⟩
theorem SR.at (S : SR K ca L s H) {l : Nat} {a : Addr} (e : L.rho[l]? = some a) : ∃ c, s[l]? = some c ∧ CellOk K ca L H a c := by
  have hl : l < s.length := by rw [← S.len]; exact (List.getElem?_eq_some_iff.mp e).1
  exact ⟨s[l], List.getElem?_eq_getElem hl, S.cell l a _ e (List.getElem?_eq_getElem hl)⟩
theorem SR.at' (S : SR K ca L s H) {l : Nat} {c : Cell} (e : s[l]? = some c) : ∃ a, L.rho[l]? = some a ∧ CellOk K ca L H a c := by
  have hl : l < L.rho.length := by rw [S.len]; exact (List.getElem?_eq_some_iff.mp e).1
  exact ⟨L.rho[l], List.getElem?_eq_getElem hl, S.cell l _ c (List.getElem?_eq_getElem hl) e⟩
theorem SR.fresh (S : SR K ca L s H) {p : Addr} (h : H p = none) : p ∉ L.rho ∧ p ∉ L.pi := by
  constructor
  · intro hp
    obtain ⟨l, hl⟩ := List.getElem?_of_mem hp
    obtain ⟨c, _, k⟩ := S.at hl
    obtain ⟨o, e⟩ := k.some
    rw [h] at e; cases e
  · intro hp
    obtain ⟨_, o, e⟩ := S.pi p hp
    rw [h] at e; cases e
/-- a new object that is not changed -/
theorem SR.new (S : SR K ca L s H) {p : Addr} (h : H p = none) (o : HO) : Keep L H L (upd H p o) ∧ SR K ca L s (upd H p o) := by
  have k : Keep L H L (upd H p o) := ⟨rfl, List.prefix_refl _, fun b u e hb => ⟨by rw [upd_ne (ne_of_none e h)]; exact e, hb⟩⟩
  refine ⟨k, S.len, S.nd, fun l a c e1 e2 => ?_, fun b hb => ⟨(S.pi b hb).1, ?_⟩⟩
  · have q := S.cell l a c e1 e2
    refine q.mono k.mono ?_
    obtain ⟨u, hu⟩ := q.some
    rw [upd_ne (ne_of_none hu h)]
  · obtain ⟨u, hu⟩ := (S.pi b hb).2
    exact ⟨u, by rw [upd_ne (ne_of_none hu h)]; exact hu⟩
/-- a new live cell -/
theorem SR.alloc (S : SR K ca L s H) {p : Addr} (h : H p = none) {o : HO} {c : Cell} (hc : CellOk K ca ⟨L.rho ++ [p], L.pi⟩ (upd H p o) p c) :
    Keep L H ⟨L.rho ++ [p], L.pi⟩ (upd H p o) ∧ SR K ca ⟨L.rho ++ [p], L.pi⟩ (s ++ [c]) (upd H p o) := by
  have f := S.fresh h
  have k : Keep L H ⟨L.rho ++ [p], L.pi⟩ (upd H p o) := ⟨rfl, List.prefix_append _ _, fun b u e hb => ⟨by rw [upd_ne (ne_of_none e h)]; exact e, by
    intro hm
    rcases List.mem_append.mp hm with hm | hm
    · exact hb hm
    · simp at hm; subst hm; rw [h] at e; cases e⟩⟩
  refine ⟨k, by simp [S.len], ?_, fun l a c' e1 e2 => ?_, fun b hb => ?_⟩
  · show (L.rho ++ [p]).Nodup
    rw [List.nodup_append]
    exact ⟨S.nd, by simp, fun a ha b hb => by simp at hb; subst hb; rintro rfl; exact f.1 ha⟩
  · by_cases hl : l < L.rho.length
    · have e1' : L.rho[l]? = some a := by rw [← e1]; exact (List.getElem?_append_left hl).symm
      have e2' : s[l]? = some c' := by rw [← e2]; exact (List.getElem?_append_left (by rw [← S.len]; exact hl)).symm
      have q := S.cell l a c' e1' e2'
      refine q.mono k.mono ?_
      obtain ⟨u, hu⟩ := q.some
      rw [upd_ne (ne_of_none hu h)]
    · have hl2 : l = L.rho.length := by
        have := (List.getElem?_eq_some_iff.mp e1).1
        simp at this; omega
      subst hl2
      have e1' : p = a := by simpa using e1
      have e2' : c = c' := by rw [S.len] at e2; simpa using e2
      subst e1'; subst e2'
      exact hc
  · obtain ⟨h1, u, hu⟩ := S.pi b hb
    refine ⟨fun hm => ?_, u, by rw [upd_ne (ne_of_none hu h)]; exact hu⟩
    rcases List.mem_append.mp hm with hm | hm
    · exact h1 hm
    · simp at hm; subst hm; rw [h] at hu; cases hu
/-- a live cell is written -/
theorem SR.write (S : SR K ca L s H) {l : Nat} {a : Addr} (e : L.rho[l]? = some a) {o : HO} {c : Cell} (hc : CellOk K ca L (upd H a o) a c) : Keep L H L (upd H a o) ∧ SR K ca L (s.set l c) (upd H a o) := by
  have ha : a ∈ L.rho := List.mem_of_getElem? e
  have k : Keep L H L (upd H a o) := ⟨rfl, List.prefix_refl _, fun b u eb hb => ⟨by rw [upd_ne (show b ≠ a from fun z => hb (by rw [z]; exact ha))]; exact eb, hb⟩⟩
  refine ⟨k, by simp [S.len], S.nd, fun j b c' e1 e2 => ?_, fun b hb => ?_⟩
  · by_cases hj : l = j
    · subst hj
      rw [e] at e1; cases e1
      have hl : l < s.length := by rw [← S.len]; exact (List.getElem?_eq_some_iff.mp e).1
      rw [List.getElem?_set_self hl] at e2
      cases e2
      exact hc
    · rw [List.getElem?_set_ne hj] at e2
      refine (S.cell j b c' e1 e2).mono k.mono ?_
      rw [upd_ne]
      rintro rfl
      exact hj (nd_ix S.nd e e1)
  · obtain ⟨h1, u, hu⟩ := S.pi b hb
    exact ⟨h1, u, by rw [upd_ne (show b ≠ a from fun z => h1 (by rw [z]; exact ha))]; exact hu⟩
end

/-! ### results -/
inductive R (α : Type) where
  | ok (a : α) (s : Store) | exc (c : Nat) (s : Store) | bad
def R.bind {α β : Type} (r : R α) (k : α → Store → R β) : R β := match r with
  | .ok a s => k a s
  | .exc c s => .exc c s
  | .bad => .bad
@[simp] theorem R.bind_ok {α β : Type} (a : α) (s : Store) (k : α → Store → R β) : (R.ok a s).bind k = k a s := rfl
@[simp] theorem R.bind_exc {α β : Type} (c : Nat) (s : Store) (k : α → Store → R β) : (R.exc c s : R α).bind k = .exc c s := rfl
@[simp] theorem R.bind_bad {α β : Type} (k : α → Store → R β) : (R.bad : R α).bind k = .bad := rfl
theorem R.bind_assoc {α β γ : Type} (r : R α) (k : α → Store → R β) (k2 : β → Store → R γ) : (r.bind k).bind k2 = r.bind fun a s => (k a s).bind k2 := by cases r <;> rfl
abbrev EM := Env → Store → R D
abbrev TM := Env → Store → R Bool
abbrev AM := Env → Store → R (List D)
/-- a result's reading: what is wanted of each value that may stand for it -/
def post {α β : Type} (K : PySem.W.Frag) (ca : Nat → Addr) (RA : Lv → Hp → α → β → Prop) (L : Lv) (H : Hp) (r : R α) (Q : β → Hp → Prop) (E : Nat → Hp → Prop) : Prop := match r with
  | .ok a s => ∀ L' b H', Keep L H L' H' → SR K ca L' s H' → RA L' H' a b → Q b H'
  | .exc c s => ∀ L' H', Keep L H L' H' → SR K ca L' s H' → E c H'
  | .bad => False
section
variable {α β γ δ : Type} {K : PySem.W.Frag} {ca : Nat → Addr} {RA : Lv → Hp → α → β → Prop} {RB : Lv → Hp → γ → δ → Prop} {L L2 : Lv} {H H2 : Hp} {r : R α} {Q Q' : β → Hp → Prop} {E E' : Nat → Hp → Prop}
theorem post.from (p : post K ca RA L H r Q E) (k : Keep L H L2 H2) : post K ca RA L2 H2 r Q E := by
  cases r with
  | ok a s => exact fun L' b H' k' => p L' b H' (k.trans k')
  | exc c s => exact fun L' H' k' => p L' H' (k.trans k')
  | bad => exact p
theorem post.imp (p : post K ca RA L H r Q E) (h : ∀ b H', Q b H' → Q' b H') : post K ca RA L H r Q' E := by
  cases r with
  | ok a s => exact fun L' b H' k S q => h _ _ (p L' b H' k S q)
  | exc c s => exact p
  | bad => exact p
theorem post.impE (p : post K ca RA L H r Q E) (h : ∀ c H', E c H' → E' c H') : post K ca RA L H r Q E' := by
  cases r with
  | ok a s => exact p
  | exc c s => exact fun L' H' k S => h _ _ (p L' H' k S)
  | bad => exact p
/-- what is had behind the first of two -/
structure Had (K : PySem.W.Frag) (ca : Nat → Addr) (RA : Lv → Hp → α → β → Prop) (L : Lv) (H : Hp) (b : β) (H1 : Hp) (C : α → Lv → Store → Prop) : Prop where
  ex : ∃ L1 s1 a, Keep L H L1 H1 ∧ SR K ca L1 s1 H1 ∧ RA L1 H1 a b ∧ C a L1 s1
theorem post.bind {k : α → Store → R γ} {Q2 : δ → Hp → Prop} (p : post K ca RB L H (r.bind k) Q2 E) :
    post K ca RA L H r (fun b H1 => ∃ L1 s1 a, Keep L H L1 H1 ∧ SR K ca L1 s1 H1 ∧ RA L1 H1 a b ∧ post K ca RB L1 H1 (k a s1) Q2 E) E := by
  cases r with
  | ok a s => exact fun L' b H' k' S q => ⟨L', s, a, k', S, q, p.from k'⟩
  | exc c s => exact p
  | bad => exact p
end
/-! ### judgements -/
def wE (ca : Nat → Addr) (W : WX) (σ : St) : Nat → Hp → Prop := fun c H' => W (.ref (ca c)) none σ H'
def tE (K : PySem.W.Frag) (ca : Nat → Addr) (W : WX) (m : EM) : TE := fun σ H Q => ∃ L env s, SR K ca L s H ∧ ER K L H env σ ∧ post K ca (RD K) L H (m env s) Q (wE ca W σ)
def tT (K : PySem.W.Frag) (ca : Nat → Addr) (W : WX) (m : TM) : TT := fun σ H Q => ∃ L env s, SR K ca L s H ∧ ER K L H env σ ∧ post K ca (fun _ _ a b => a = b) L H (m env s) Q (wE ca W σ)
def tA (K : PySem.W.Frag) (ca : Nat → Addr) (W : WX) (m : AM) : TA := fun σ H Q => ∃ L env s, SR K ca L s H ∧ ER K L H env σ ∧ post K ca (RDs K) L H (m env s) Q (wE ca W σ)
/-- the expression e is worked by m -/
def DE (X : Cx) (ca : Nat → Addr) (W : WX) (e : Expr) (m : EM) : Prop := PE X e (tE X.K ca W m)
def DT (X : Cx) (ca : Nat → Addr) (W : WX) (e : Expr) (m : TM) : Prop := PT X e (tT X.K ca W m)
def DW (X : Cx) (ca : Nat → Addr) (W : WX) (e : Expr) (m : TM) : Prop := PW X e (tT X.K ca W m)
def DA (X : Cx) (ca : Nat → Addr) (W : WX) (es : List Expr) (m : AM) : Prop := PA X es (tA X.K ca W m)
theorem PE.imp {X : Cx} {e : Expr} {t t' : TE} (h : PE X e t) (i : ∀ σ H Q, t' σ H Q → t σ H Q) : PE X e t' := ⟨fun pins s σ H Q I q => h.run pins s σ H Q I (i σ H Q q)⟩
theorem PT.imp {X : Cx} {e : Expr} {t t' : TT} (h : PT X e t) (i : ∀ σ H Q, t' σ H Q → t σ H Q) : PT X e t' := ⟨fun pins s σ H Q I q => h.run pins s σ H Q I (i σ H Q q)⟩
theorem PW.imp {X : Cx} {e : Expr} {t t' : TT} (h : PW X e t) (i : ∀ σ H Q, t' σ H Q → t σ H Q) : PW X e t' := ⟨fun w pins s σ H Q I q => h.run w pins s σ H Q I (i σ H Q q)⟩
theorem PA.imp {X : Cx} {e : List Expr} {t t' : TA} (h : PA X e t) (i : ∀ σ H Q, t' σ H Q → t σ H Q) : PA X e t' := ⟨fun p pins s σ H Q I q => h.run p pins s σ H Q I (i σ H Q q)⟩
theorem PS.imp {X : Cx} {e : Stmt} {t t' : TS} (h : PS X e t) (i : ∀ D σ H, t' D σ H → t D σ H) : PS X e t' := ⟨fun pins s σ H D I q => h.run pins s σ H D I (i D σ H q)⟩
theorem PSs.imp {X : Cx} {e : List Stmt} {t t' : TS} (h : PSs X e t) (i : ∀ D σ H, t' D σ H → t D σ H) : PSs X e t' := ⟨fun pins s σ H D I q => h.run pins s σ H D I (i D σ H q)⟩
theorem PG.imp {X : Cx} {e : Expr} {t t' : TG} (h : PG X e t) (i : ∀ v σ H Q, t' v σ H Q → t v σ H Q) : PG X e t' := ⟨fun pins s σ H v u Q I r q => h.run pins s σ H v u Q I r (i v σ H Q q)⟩
theorem PGs.imp {X : Cx} {e : List Expr} {t t' : TGs} (h : PGs X e t) (i : ∀ v σ H Q, t' v σ H Q → t v σ H Q) : PGs X e t' := ⟨fun pins s σ H v u Q I r q => h.run pins s σ H v u Q I r (i v σ H Q q)⟩
theorem PI.imp {X : Cx} {tg e : Expr} {t t' : TI} (h : PI X tg e t) (i : ∀ σ H Q, t' σ H Q → t σ H Q) : PI X tg e t' := ⟨fun pins s σ H Q I q => h.run pins s σ H Q I (i σ H Q q)⟩
end DE
/-! DE1: names, constants, operators, comparisons, tests, displays, subscripts -/
namespace DE
open PySem PySem.Spec PyProof.Rows L2
section
variable {X : Cx} {ca : Nat → Addr} {W : WX} {e a b c : Expr} {es : List Expr} {m ma mb mc : EM} {pos : Pos} {L : Lv} {H : Hp} {s : Store}

/-! ### names and constants -/
def eVar (i : Nat) : EM := fun env s => match env[i]? with | some (some d) => .ok d s | _ => .bad
def eC (d : D) : EM := fun _ s => .ok d s
theorem de_var (i : Nat) {x : Str} {pos : Pos} (hN : X.N[i]? = some x := by rfl) (hv : Vis X.env.scope x := by first | exact Or.inl rfl | exact Or.inr (Or.inl rfl) | exact Or.inr (Or.inr rfl)) (hd : (x == ("__debug__" : Str)) = false := by decide)
    (hcd : (x == ("__classdict__" : Str)) = false := by decide) : DE X ca W (.Name x pos) (eVar i) := PE.imp (pe_var hN hv hd hcd) fun σ H Q ⟨L, env, s, S, e, p⟩ => by
  unfold eVar at p
  cases h : env[i]? with
  | none => rw [h] at p; exact p.elim
  | some o =>
    cases o with
    | none => rw [h] at p; exact p.elim
    | some d =>
      rw [h] at p
      obtain ⟨v, hv, r⟩ := e.2 i d h
      exact ⟨v, hv, p L v H Keep.refl S r⟩
theorem de_const {v : V} {d : D} (h : PE X e (tC v)) (r : ∀ L H, RD X.K L H d v) : DE X ca W e (eC d) := PE.imp h fun σ H Q ⟨L, env, s, S, e, p⟩ => p L v H Keep.refl S (r L H)
theorem de_int {i : Int} {j : Nat} {pos : Pos} : DE X ca W (.Constant (.int i) j pos) (eC (.int i)) := de_const pe_int fun _ _ => rfl
theorem de_str {x : Str} {j : Nat} {pos : Pos} : DE X ca W (.Constant (.str x) j pos) (eC (.str x)) := de_const pe_str fun _ _ => rfl
theorem de_bl {b : Bool} {j : Nat} {pos : Pos} : DE X ca W (.Constant (.bool b) j pos) (eC (.bl b)) := de_const pe_bl fun _ _ => rfl
theorem de_non {j : Nat} {pos : Pos} : DE X ca W (.Constant .none j pos) (eC .non) := de_const pe_non fun _ _ => rfl
/-- a module's constant -/
theorem de_glob {x : Str} {u : Value} {v : V} {d : D} (hg : Gl X x) (hm : X.mg x = some u) (r : RelV v u) (rd : ∀ L H, RD X.K L H d v) (hd : (x == ("__debug__" : Str)) = false := by decide) : DE X ca W (.Name x pos) (eC d) :=
  de_const (pe_glob hg hm r hd) rd

/-! ### operators -/
/-- what an operator does with two values, and the hand layer's reading -/
def Imp2 (K : PySem.W.Frag) (ca : Nat → Addr) (f : D → D → Store → R D) (r : R2) : Prop := ∀ (L : Lv) (H : Hp) (s : Store) (x y : D) (v u : V) (Q : VK) (E : Nat → Hp → Prop),
  SR K ca L s H → RD K L H x v → RD K L H y u → post K ca (RD K) L H (f x y s) Q E → r v u H Q
def e2 (f : D → D → Store → R D) (ma mb : EM) : EM := fun env s => (ma env s).bind fun x s => (mb env s).bind fun y s => f x y s
theorem tOp_of {f : D → D → Store → R D} {r : R2} (hi : Imp2 X.K ca f r) : ∀ σ H Q, tE X.K ca W (e2 f ma mb) σ H Q → tOp r (tE X.K ca W ma) (tE X.K ca W mb) σ H Q := fun σ H Q ⟨L, env, s, S, e, p⟩ =>
  ⟨L, env, s, S, e, p.bind.imp fun v H1 ⟨L1, s1, d, k1, S1, r1, p1⟩ => ⟨L1, env, s1, S1, e.mono k1.mono, p1.bind.imp fun u H2 ⟨L2, s2, d2, k2, S2, r2, p2⟩ => hi L2 H2 s2 d d2 v u Q _ S2 (RD.mono k2.mono _ _ r1) r2 p2⟩⟩
theorem de_bin {op : Operator} {f : D → D → Store → R D} {r : R2} (ho : OpR X (binaryOp op) r) (hi : Imp2 X.K ca f r) (ha : DE X ca W a ma) (hb : DE X ca W b mb) : DE X ca W (.BinOp a op b pos) (e2 f ma mb) :=
  PE.imp (pe_op ho ha hb) (tOp_of hi)
theorem de_cmp {op : CmpOp} {f : D → D → Store → R D} {r : R2} (ho : OpR X (compareOp op) r) (hi : Imp2 X.K ca f r) (ha : DE X ca W a ma) (hb : DE X ca W b mb) (hm : behindInMarks op b = false := by rfl) : DE X ca W (.Compare a [op] [b] pos) (e2 f ma mb) :=
  PE.imp (pe_cmpR ho ha hb hm) (tOp_of hi)
/-- a chain of two -/
def eChain (f g : D → D → Store → R D) (ma mb mc : EM) : EM := fun env s => (ma env s).bind fun x s => (mb env s).bind fun y s => (f x y s).bind fun z s => match z with
  | .bl true => (mc env s).bind fun w s => g y w s
  | .bl false => .ok (.bl false) s
  | _ => .bad
theorem de_chain {op op' : CmpOp} {f g : D → D → Store → R D} {r r' : R2} (ho : OpR X (compareOp op) r) (ho' : OpR X (compareOp op') r') (hi : Imp2 X.K ca f r) (hi' : Imp2 X.K ca g r') (ha : DE X ca W a ma) (hb : DE X ca W b mb) (hc : DE X ca W c mc)
    (hm : lastMarks [op, op'] [b, c] = false := by with_unfolding_all rfl) : DE X ca W (.Compare a [op, op'] [b, c] pos) (eChain f g ma mb mc) :=
  PE.imp (pe_chain ho ho' ha hb hc hm) fun σ H Q ⟨L, env, s, S, e, p⟩ =>
    ⟨L, env, s, S, e, p.bind.imp fun v H1 ⟨L1, s1, d, k1, S1, r1, p1⟩ => ⟨L1, env, s1, S1, e.mono k1.mono, p1.bind.imp fun u H2 ⟨L2, s2, d2, k2, S2, r2, p2⟩ =>
      hi L2 H2 s2 d d2 v u _ _ S2 (RD.mono k2.mono _ _ r1) r2 (p2.bind.imp fun z H3 ⟨L3, s3, d3, k3, S3, r3, p3⟩ => by
        cases d3 with
        | bl q =>
          simp only [RD] at r3
          refine ⟨q, r3, ?_⟩
          cases q with
          | true =>
            refine iteT ⟨L3, env, s3, S3, ((e.mono k1.mono).mono k2.mono).mono k3.mono, p3.bind.imp fun w' H4 ⟨L4, s4, d4, k4, S4, r4, p4⟩ => ?_⟩
            exact hi' L4 H4 s4 d2 d4 u w' Q _ S4 (RD.mono k4.mono _ _ (RD.mono k3.mono _ _ r2)) r4 p4
          | false => exact iteF (p3 L3 _ H3 Keep.refl S3 rfl)
        | _ => exact p3.elim)⟩⟩

/-! ### lists that are read -/
def rdL (s : Store) : D → Option (List D)
  | .lst xs => some xs
  | .ref l => match s[l]? with | some (.lst xs) => some xs | _ => none
  | _ => none
theorem rdL_ok {K : PySem.W.Frag} (S : SR K ca L s H) {d : D} {v : V} {xs : List D} (r : RD K L H d v) (e : rdL s d = some xs) : ∃ a vs, v = .ref a ∧ H a = some (.lst vs) ∧ RDs K L H xs vs := by
  cases d with
  | lst ys =>
    cases e
    simp only [RD] at r
    obtain ⟨a, vs, e, f, q⟩ := r
    exact ⟨a, vs, e, f.2.2, q⟩
  | ref l =>
    simp only [RD] at r
    obtain ⟨a, rfl, ea⟩ := r
    obtain ⟨c, ec, k⟩ := S.at ea
    unfold rdL at e
    simp only [ec] at e
    cases c with
    | lst ys => cases e; obtain ⟨vs, h1, h2⟩ := k; exact ⟨a, vs, rfl, h1, h2⟩
    | _ => cases e
  | _ => cases e
end
end DE
/-! DE2: freezing, equality, operators -/
namespace DE
open PySem PySem.Spec PyProof.Rows L2

/-! ### refs put in -/
mutual
def sub (f : Nat → Option D) : D → Option D
  | .tup xs => (subs f xs).map .tup
  | .lst xs => (subs f xs).map .lst
  | .dct ks xs => (subs f xs).map (.dct ks)
  | .ref l => f l
  | .scr ns => some (.scr ns)
  | .exc c a => some (.exc c a)
  | .non => some .non
  | .bl b => some (.bl b)
  | .int i => some (.int i)
  | .str x => some (.str x)
def subs (f : Nat → Option D) : List D → Option (List D)
  | [] => some []
  | x :: xs => match sub f x with
    | none => none
    | some y => match subs f xs with
      | none => none
      | some ys => some (y :: ys)
end
/-- the cells from n on by what they hold, k deep -/
def fr (s : Store) (n : Nat) : Nat → Nat → Option D
  | 0, l => if l < n then some (.ref l) else none
  | k + 1, l => if l < n then some (.ref l) else match s[l]? with
    | some (.lst xs) => (subs (fr s n k) xs).map .lst
    | some (.dK ks xs) => (subs (fr s n k) xs).map (.dct ks)
    | _ => none
abbrev frz (s : Store) (n : Nat) (d : D) : Option D := sub (fr s n 3) d
mutual
/-- no ref within -/
def pureD : D → Bool
  | .tup xs => pureDs xs
  | .lst xs => pureDs xs
  | .dct _ xs => pureDs xs
  | .ref _ => false
  | .scr _ => true
  | .exc _ _ => true
  | .non => true
  | .bl _ => true
  | .int _ => true
  | .str _ => true
def pureDs : List D → Bool
  | [] => true
  | x :: xs => pureD x && pureDs xs
end
mutual
theorem sub_pure (f : Nat → Option D) : ∀ d : D, pureD d = true → sub f d = some d
  | .tup xs, h => by simp only [sub]; rw [subs_pure f xs (by simpa only [pureD] using h)]; rfl
  | .lst xs, h => by simp only [sub]; rw [subs_pure f xs (by simpa only [pureD] using h)]; rfl
  | .dct ks xs, h => by simp only [sub]; rw [subs_pure f xs (by simpa only [pureD] using h)]; rfl
  | .ref l, h => by simp [pureD] at h
  | .scr _, _ => by simp only [sub]
  | .exc _ _, _ => by simp only [sub]
  | .non, _ => by simp only [sub]
  | .bl _, _ => by simp only [sub]
  | .int _, _ => by simp only [sub]
  | .str _, _ => by simp only [sub]
theorem subs_pure (f : Nat → Option D) : ∀ ds : List D, pureDs ds = true → subs f ds = some ds
  | [], _ => by simp only [subs]
  | x :: xs, h => by
    simp only [pureDs, Bool.and_eq_true] at h
    simp only [subs]; rw [sub_pure f x h.1, subs_pure f xs h.2]
end
theorem pureDs_append {xs ys : List D} : pureDs (xs ++ ys) = (pureDs xs && pureDs ys) := by
  induction xs with
  | nil => simp [pureDs]
  | cons x xs ih => simp [pureDs, ih, Bool.and_assoc]
theorem pureDs_all {xs : List D} : pureDs xs = true ↔ ∀ x ∈ xs, pureD x = true := by
  induction xs with
  | nil => simp [pureDs]
  | cons x xs ih => simp [pureDs, ih]

section
variable {K : PySem.W.Frag} {ca : Nat → Addr} {L L0 : Lv} {H : Hp} {s : Store} {n : Nat}
/-- the moment L0 within L: its cells are the first n -/
structure Within (L0 L : Lv) (n : Nat) : Prop where
  rho : L0.rho <+: L.rho
  len : L0.rho.length = n
  pi : L.pi = L0.pi
theorem Within.out (w : Within L0 L n) {a : Addr} (h : a ∉ L.rho) : a ∉ L0.rho := fun z => h (w.rho.subset z)
theorem Within.outp (w : Within L0 L n) {a : Addr} (h : a ∉ L.pi) : a ∉ L0.pi := by rw [← w.pi]; exact h
theorem FzT.within (w : Within L0 L n) {a : Addr} {vs : List V} (h : FzT K L H a vs) : FzT K L0 H a vs := by
  rcases h with ⟨h1, h2, r⟩ | h
  · exact .inl ⟨w.out h1, w.outp h2, r⟩
  · exact .inr h
theorem FzS.within (w : Within L0 L n) {a : Addr} {vs : List V} (h : FzS K L H a vs) : FzS K L0 H a vs := by
  rcases h with ⟨h1, h2, r⟩ | h
  · exact .inl ⟨w.out h1, w.outp h2, r⟩
  · exact .inr h
mutual
theorem sub_ok (w : Within L0 L n) {f : Nat → Option D} (hf : ∀ l d v, f l = some d → RD K L H (.ref l) v → RD K L0 H d v) : ∀ (d : D) (v : V) (d' : D), sub f d = some d' → RD K L H d v → RD K L0 H d' v
  | .tup xs, v, d', e, r => by
    simp only [sub] at e
    cases q : subs f xs with
    | none => rw [q] at e; cases e
    | some ys =>
      rw [q] at e; cases e
      simp only [RD] at r ⊢
      obtain ⟨a, vs, e, h, rs⟩ := r
      exact ⟨a, vs, e, h.within w, subs_ok w hf xs vs ys q rs⟩
  | .lst xs, v, d', e, r => by
    simp only [sub] at e
    cases q : subs f xs with
    | none => rw [q] at e; cases e
    | some ys =>
      rw [q] at e; cases e
      simp only [RD] at r ⊢
      obtain ⟨a, vs, e, h, rs⟩ := r
      exact ⟨a, vs, e, ⟨w.out h.1, w.outp h.2.1, h.2.2⟩, subs_ok w hf xs vs ys q rs⟩
  | .dct ks xs, v, d', e, r => by
    simp only [sub] at e
    cases q : subs f xs with
    | none => rw [q] at e; cases e
    | some ys =>
      rw [q] at e; cases e
      simp only [RD] at r ⊢
      obtain ⟨a, vs, e, h, l, rs⟩ := r
      exact ⟨a, vs, e, ⟨w.out h.1, w.outp h.2.1, h.2.2⟩, l, subs_ok w hf xs vs ys q rs⟩
  | .ref l, v, d', e, r => by
    simp only [sub] at e
    exact hf l d' v e r
  | .scr ns, v, d', e, r => by
    simp only [sub] at e; cases e
    simp only [RD] at r ⊢
    obtain ⟨a, rfl, q⟩ := r
    exact ⟨a, rfl, q.within w⟩
  | .exc _ _, v, d', e, r => by simp only [sub] at e; cases e; exact r
  | .non, v, d', e, r => by simp only [sub] at e; cases e; exact r
  | .bl _, v, d', e, r => by simp only [sub] at e; cases e; exact r
  | .int _, v, d', e, r => by simp only [sub] at e; cases e; exact r
  | .str _, v, d', e, r => by simp only [sub] at e; cases e; exact r
theorem subs_ok (w : Within L0 L n) {f : Nat → Option D} (hf : ∀ l d v, f l = some d → RD K L H (.ref l) v → RD K L0 H d v) : ∀ (ds : List D) (vs : List V) (ds' : List D), subs f ds = some ds' → RDs K L H ds vs → RDs K L0 H ds' vs
  | [], vs, ds', e, r => by simp only [subs] at e; cases e; exact r
  | x :: xs, vs, ds', e, r => by
    simp only [subs] at e
    cases q : sub f x with
    | none => rw [q] at e; cases e
    | some y =>
      rw [q] at e
      cases q2 : subs f xs with
      | none => rw [q2] at e; cases e
      | some ys =>
        rw [q2] at e; cases e
        simp only [RDs] at r
        obtain ⟨u, us, rfl, r1, r2⟩ := r
        exact .cons (sub_ok w hf x u y q r1) (subs_ok w hf xs us ys q2 r2)
end
theorem fr_ok (w : Within L0 L n) (S : SR K ca L s H) : ∀ (k l : Nat) (d : D) (v : V), fr s n k l = some d → RD K L H (.ref l) v → RD K L0 H d v := by
  have old : ∀ (l : Nat) (d : D) (v : V), (l < n → some (D.ref l) = some d → RD K L H (.ref l) v → RD K L0 H d v) := fun l d v hl e r => by
    cases e
    simp only [RD] at r ⊢
    obtain ⟨a, rfl, ea⟩ := r
    refine ⟨a, rfl, ?_⟩
    obtain ⟨t, ht⟩ := w.rho
    rw [← ht, List.getElem?_append_left (by rw [w.len]; exact hl)] at ea
    exact ea
  have out : ∀ {l : Nat} {a : Addr}, ¬ l < n → L.rho[l]? = some a → a ∉ L0.rho := fun {l a} hl ea hm => by
    obtain ⟨j, hj⟩ := List.getElem?_of_mem hm
    have hjn : j < n := by rw [← w.len]; exact (List.getElem?_eq_some_iff.mp hj).1
    have e2 := prefix_get w.rho hj
    have := nd_ix S.nd ea e2
    omega
  intro k
  induction k with
  | zero =>
    intro l d v e r
    unfold fr at e
    split at e
    · rename_i hl
      exact old l d v hl e r
    · cases e
  | succ k ih =>
    intro l d v e r
    unfold fr at e
    split at e
    · rename_i hl
      exact old l d v hl e r
    · rename_i hl
      have r' := r
      simp only [RD] at r'
      obtain ⟨a, rfl, ea⟩ := r'
      obtain ⟨c, ec, kk⟩ := S.at ea
      have hpi : a ∉ L0.pi := fun z => (S.pi a (by rw [w.pi]; exact z)).1 (List.mem_of_getElem? ea)
      rw [ec] at e
      cases c with
      | lst xs =>
        obtain ⟨vs, h1, h2⟩ := kk
        cases q : subs (fr s n k) xs with
        | none => simp only [q] at e; cases e
        | some ys =>
          simp only [q] at e; cases e
          simp only [RD]
          exact ⟨a, vs, rfl, ⟨out hl ea, hpi, h1⟩, subs_ok w ih xs vs ys q h2⟩
      | dK ks xs =>
        obtain ⟨vs, h1, h3, h2⟩ := kk
        cases q : subs (fr s n k) xs with
        | none => simp only [q] at e; cases e
        | some ys =>
          simp only [q] at e; cases e
          simp only [RD]
          exact ⟨a, vs, rfl, ⟨out hl ea, hpi, h1⟩, h3, subs_ok w ih xs vs ys q h2⟩
      | dT ks xs => cases e
      | ins c fs xs => cases e
theorem frz_ok (w : Within L0 L n) (S : SR K ca L s H) {d d' : D} {v : V} (e : frz s n d = some d') (r : RD K L H d v) : RD K L0 H d' v := sub_ok w (fr_ok w S 3) d v d' e r
end

/-! ### equality -/
mutual
def pyOf : D → PyData
  | .tup xs => .tuple (pyOfs xs)
  | .lst xs => .list (pyOfs xs)
  | .dct _ _ => .dict []
  | .ref _ => .dict []
  | .scr _ => .dict []
  | .exc _ _ => .dict []
  | .non => .none
  | .bl b => .bool b
  | .int i => .int i
  | .str x => .str x
def pyOfs : List D → List PyData
  | [] => []
  | x :: xs => pyOf x :: pyOfs xs
end
mutual
/-- may be compared: no dict, no ref; its texts are texts -/
def layD : D → Bool
  | .tup xs => layDs xs
  | .lst xs => layDs xs
  | .dct _ _ => false
  | .ref _ => false
  | .scr _ => false
  | .exc _ _ => false
  | .non => true
  | .bl _ => true
  | .int _ => true
  | .str x => strOk' x
def layDs : List D → Bool
  | [] => true
  | x :: xs => layD x && layDs xs
def strOk' (x : Str) : Bool := x.cps.all (· < 0x110000)
end
mutual
def depD : D → Nat
  | .tup xs => depDs xs + 1
  | .lst xs => depDs xs + 1
  | _ => 0
def depDs : List D → Nat
  | [] => 0
  | x :: xs => max (depD x) (depDs xs)
end
mutual
theorem lay_py : ∀ d : D, layD d = true → (pyOf d).canLay0 = true ∧ (pyOf d).depth = depD d
  | .tup xs, h => by
    have := lay_pys xs (by simpa only [layD] using h)
    simp only [pyOf, PyData.canLay0, PyData.depth, depD]
    exact ⟨this.1, by rw [this.2]⟩
  | .lst xs, h => by
    have := lay_pys xs (by simpa only [layD] using h)
    simp only [pyOf, PyData.canLay0, PyData.depth, depD]
    exact ⟨this.1, by rw [this.2]⟩
  | .dct _ _, h => by simp [layD] at h
  | .ref _, h => by simp [layD] at h
  | .scr _, h => by simp [layD] at h
  | .exc _ _, h => by simp [layD] at h
  | .non, _ => ⟨rfl, rfl⟩
  | .bl _, _ => ⟨rfl, rfl⟩
  | .int _, _ => ⟨rfl, rfl⟩
  | .str x, h => ⟨by simpa only [pyOf, PyData.canLay0, PyData.strOk, layD, strOk'] using h, rfl⟩
theorem lay_pys : ∀ ds : List D, layDs ds = true → PyData.canLayAll0 (pyOfs ds) = true ∧ PyData.depthAll (pyOfs ds) = depDs ds
  | [], _ => ⟨rfl, rfl⟩
  | x :: xs, h => by
    simp only [layDs, Bool.and_eq_true] at h
    have h1 := lay_py x h.1
    have h2 := lay_pys xs h.2
    simp only [pyOfs, PyData.canLayAll0, PyData.depthAll, depDs, h1.1, h2.1, h1.2, h2.2]
    exact ⟨by simp, by simp⟩
end
def eqv (a b : D) : Bool := PyData.eqv (pyOf a) (pyOf b)
/-- the refs put in, four deep -/
abbrev res (s : Store) (d : D) : Option D := frz s 0 d
def eqD (neg : Bool) : D → D → Store → R D := fun x y s => match res s x, res s y with
  | some a, some b => if layD a = true ∧ layD b = true ∧ depD a ≤ 190 then .ok (.bl (if neg then !eqv a b else eqv a b)) s else .bad
  | _, _ => .bad
section
variable {K : PySem.W.Frag} {ca : Nat → Addr} {L : Lv} {H : Hp} {s : Store}
mutual
theorem dp_of {L0 : Lv} : ∀ (d : D) (v : V), layD d = true → RD K L0 H d v → Dp K H v (pyOf d)
  | .tup xs, v, h, r => by
    simp only [RD] at r
    obtain ⟨a, vs, rfl, f, rs⟩ := r
    simp only [pyOf]
    exact .tup f.sq (dps_of xs vs (by simpa only [layD] using h) rs)
  | .lst xs, v, h, r => by
    simp only [RD] at r
    obtain ⟨a, vs, rfl, f, rs⟩ := r
    simp only [pyOf]
    exact .lst f.sq (dps_of xs vs (by simpa only [layD] using h) rs)
  | .dct _ _, v, h, r => by simp [layD] at h
  | .ref _, v, h, r => by simp [layD] at h
  | .scr _, v, h, r => by simp [layD] at h
  | .exc _ _, v, h, r => by simp [layD] at h
  | .non, v, h, r => by simp only [RD] at r; subst r; exact .non
  | .bl _, v, h, r => by simp only [RD] at r; subst r; exact .bl _
  | .int _, v, h, r => by simp only [RD] at r; subst r; exact .int _
  | .str x, v, h, r => by simp only [RD] at r; subst r; exact .str _
theorem dps_of {L0 : Lv} : ∀ (ds : List D) (vs : List V), layDs ds = true → RDs K L0 H ds vs → DpAll K H vs (pyOfs ds)
  | [], vs, h, r => by simp only [RDs] at r; subst r; exact .nil
  | x :: xs, vs, h, r => by
    simp only [layDs, Bool.and_eq_true] at h
    simp only [RDs] at r
    obtain ⟨u, us, rfl, r1, r2⟩ := r
    exact .cons (dp_of x u h.1 r1) (dps_of xs us h.2 r2)
end
/-- resolved: still what the value stands for, in an empty store -/
theorem res_ok (S : SR K ca L s H) {d d' : D} {v : V} (e : res s d = some d') (r : RD K L H d v) : RD K ⟨[], L.pi⟩ H d' v :=
  frz_ok (n := 0) (L0 := ⟨[], L.pi⟩) (L := L) ⟨List.nil_prefix, rfl, rfl⟩ S e r
end
def rEqP (K : PySem.W.Frag) (neg : Bool) : R2 := fun x y H Q => ∃ d e, Dp K H x d ∧ Dp K H y e ∧ d.canLay0 = true ∧ e.canLay0 = true ∧ d.depth ≤ 190 ∧ Q (.bl (if neg then !PyData.eqv d e else PyData.eqv d e)) H
section
variable {X : Cx} {ca : Nat → Addr}
theorem op_eqP (hu : X.A.units + 200 < cLine) : OpR X (compareOp .Eq) (rEqP X.K false) := by
  intro pins s σ H x y v u Q I rx ry h
  obtain ⟨d, e, hd, he, sd, se, dd, q⟩ := h
  obtain ⟨as, r1⟩ := Dp.reads I d x v hd rx
  obtain ⟨bs, r2⟩ := Dp.reads I e y u he ry
  refine SeqAt.compareEq_reads r1 r2 sd se ?_ ⟨.bl _, H, I, rfl, q⟩
  have : min d.depth e.depth ≤ d.depth := Nat.min_le_left _ _
  omega
theorem op_neP (hu : X.A.units + 200 < cLine) : OpR X (compareOp .NotEq) (rEqP X.K true) := by
  intro pins s σ H x y v u Q I rx ry h
  obtain ⟨d, e, hd, he, sd, se, dd, q⟩ := h
  obtain ⟨as, r1⟩ := Dp.reads I d x v hd rx
  obtain ⟨bs, r2⟩ := Dp.reads I e y u he ry
  refine SeqAt.compareNe_reads r1 r2 sd se ?_ ⟨.bl _, H, I, rfl, q⟩
  have : min d.depth e.depth ≤ d.depth := Nat.min_le_left _ _
  omega
theorem imp_eqP (neg : Bool) : Imp2 X.K ca (eqD neg) (rEqP X.K neg) := by
  intro L H s x y v u Q E S hx hy p
  unfold eqD at p
  split at p
  · rename_i a b ea eb
    split at p
    · rename_i hl
      have h1 := lay_py a hl.1
      have h2 := lay_py b hl.2.1
      exact ⟨pyOf a, pyOf b, dp_of a v hl.1 (res_ok S ea hx), dp_of b u hl.2.1 (res_ok S eb hy), h1.1, h2.1, by rw [h1.2]; exact hl.2.2, p L _ H Keep.refl S rfl⟩
    · exact p.elim
  · exact p.elim
end
end DE
/-! DE3: operators, displays, subscripts, slices -/
namespace DE
open PySem PySem.Spec PyProof.Rows L2

section
variable {K : PySem.W.Frag} {ca : Nat → Addr} {L : Lv} {H : Hp} {s : Store} {Q : VK} {E : Nat → Hp → Prop}
theorem RD.ext {d : D} {v : V} (S : SR K ca L s H) {p : Addr} (h : H p = none) (o : HO) (r : RD K L H d v) : RD K L (upd H p o) d v := RD.mono (S.new h o).1.mono _ _ r
/-- a new tuple, a new list that nothing changes -/
theorem new_tup (S : SR K ca L s H) {ds : List D} {vs : List V} (r : RDs K L H ds vs) (p : post K ca (RD K) L H (.ok (.tup ds) s) Q E) : ∀ q, H q = none → Q (.ref q) (upd H q (.tup vs)) := fun q hq => by
  obtain ⟨k, S'⟩ := S.new hq (.tup vs)
  have f := S.fresh hq
  refine p L _ _ k S' ?_
  simp only [RD]
  exact ⟨q, vs, rfl, .inl ⟨f.1, f.2, .inl upd_same⟩, RDs.mono k.mono _ _ r⟩
theorem new_lst (S : SR K ca L s H) {ds : List D} {vs : List V} (r : RDs K L H ds vs) (p : post K ca (RD K) L H (.ok (.lst ds) s) Q E) : ∀ q, H q = none → Q (.ref q) (upd H q (.lst vs)) := fun q hq => by
  obtain ⟨k, S'⟩ := S.new hq (.lst vs)
  have f := S.fresh hq
  refine p L _ _ k S' ?_
  simp only [RD]
  exact ⟨q, vs, rfl, ⟨f.1, f.2, upd_same⟩, RDs.mono k.mono _ _ r⟩
theorem keep_alloc (S : SR K ca L s H) {p : Addr} (h : H p = none) (o : HO) : Keep L H ⟨L.rho ++ [p], L.pi⟩ (upd H p o) := ⟨rfl, List.prefix_append _ _, fun b u e hb => ⟨by rw [upd_ne (ne_of_none e h)]; exact e, by
    intro hm
    rcases List.mem_append.mp hm with hm | hm
    · exact hb hm
    · simp at hm; subst hm; rw [h] at e; cases e⟩⟩
/-- .. one that is changed: a live cell -/
theorem new_cell (S : SR K ca L s H) {ds : List D} {vs : List V} (r : RDs K L H ds vs) (p : post K ca (RD K) L H (.ok (.ref s.length) (s ++ [.lst ds])) Q E) : ∀ q, H q = none → Q (.ref q) (upd H q (.lst vs)) := fun q hq => by
  have k := keep_alloc S hq (.lst vs)
  obtain ⟨_, S'⟩ := S.alloc hq (o := .lst vs) (c := .lst ds) ⟨vs, upd_same, RDs.mono k.mono _ _ r⟩
  refine p _ _ _ k S' ?_
  simp only [RD]
  exact ⟨q, rfl, by rw [← S.len]; simp⟩

/-- lists that are read: the script, too -/
def rdS (s : Store) : D → Option (List D)
  | .lst xs => some xs
  | .ref l => match s[l]? with | some (.lst xs) => some xs | _ => none
  | .scr ns => some (ns.map .int)
  | _ => none
theorem rds_ints {ns : List Int} : RDs K L H (ns.map D.int) (ns.map V.int) := by
  induction ns with
  | nil => exact .nil
  | cons n ns ih => exact .cons rfl ih
theorem rdS_ok (S : SR K ca L s H) {d : D} {v : V} {xs : List D} (r : RD K L H d v) (e : rdS s d = some xs) : ∃ a vs, v = .ref a ∧ SqL K H a vs ∧ RDs K L H xs vs := by
  cases d with
  | lst ys =>
    cases e
    simp only [RD] at r
    obtain ⟨a, vs, e, f, q⟩ := r
    exact ⟨a, vs, e, f.sq, q⟩
  | ref l =>
    simp only [RD] at r
    obtain ⟨a, rfl, ea⟩ := r
    obtain ⟨c, ec, k⟩ := S.at ea
    unfold rdS at e
    simp only [ec] at e
    cases c with
    | lst ys => cases e; obtain ⟨vs, h1, h2⟩ := k; exact ⟨a, vs, rfl, SqL.of h1, h2⟩
    | _ => cases e
  | scr ns =>
    cases e
    simp only [RD] at r
    obtain ⟨a, rfl, f⟩ := r
    exact ⟨a, _, rfl, f.sq, rds_ints⟩
  | _ => cases e
end

/-! ### operators -/
def addD : D → D → Store → R D := fun x y s => match x, y with
  | .int i, .int j => .ok (.int (i + j)) s
  | .str i, .str j => if i.length + j.length ≤ sizeLine then .ok (.str (i ++ j)) s else .bad
  | .tup xs, .tup ys => if xs.length + ys.length ≤ sizeLine then .ok (.tup (xs ++ ys)) s else .bad
  | x, y => match rdL s x, rdL s y with
    | some xs, some ys => if xs.length + ys.length ≤ sizeLine then .ok (.lst (xs ++ ys)) s else .bad
    | _, _ => .bad
/-- two lists to one that is changed later -/
def addN : D → D → Store → R D := fun x y s => match rdL s x, rdL s y with
    | some xs, some ys => if xs.length + ys.length ≤ sizeLine then .ok (.ref s.length) (s ++ [.lst (xs ++ ys)]) else .bad
    | _, _ => .bad
def subD : D → D → Store → R D := fun x y s => match x, y with
  | .int i, .int j => .ok (.int (i - j)) s
  | _, _ => .bad
def BIG : Int := 18446744073709551616
def repL (k : Int) (xs : List D) : List D := (List.replicate k.toNat xs).flatten
def repS (k : Int) (z : Str) : Str := ⟨(List.replicate k.toNat z.cps).foldl (· ++ ·) #[]⟩
noncomputable def mulD : D → D → Store → R D := fun x y s => match x, y with
  | .int i, .int j => @ite (R _) ((-BIG < i ∧ i < BIG) ∨ (-BIG < j ∧ j < BIG)) (Classical.propDecidable _) (.ok (.int (i * j)) s) .bad
  | .str z, .int k => @ite (R _) (0 ≤ k ∧ k ≤ 100000 ∧ z.length ≤ 100) (Classical.propDecidable _) (.ok (.str (repS k z)) s) .bad
  | .tup xs, .int k => @ite (R _) (xs.length ≤ 1000 ∧ 2 ≤ k ∧ k ≤ 1000 ∧ xs ≠ []) (Classical.propDecidable _) (.ok (.tup (repL k xs)) s) .bad
  | x, .int k => match rdL s x with
    | some xs => @ite (R _) (-(2 ^ 63) ≤ k ∧ k < 2 ^ 63 ∧ xs.length * k.toNat ≤ sizeLine) (Classical.propDecidable _) (.ok (.lst (repL k xs)) s) .bad
    | none => .bad
  | _, _ => .bad
noncomputable def fdivD : D → D → Store → R D := fun x y s => match x, y with
  | .int i, .int j => @ite (R _) (0 < j ∧ j < 1073741824) (Classical.propDecidable _) (.ok (.int (i / j)) s) .bad
  | _, _ => .bad
noncomputable def modD : D → D → Store → R D := fun x y s => match x, y with
  | .int i, .int j => @ite (R _) (0 < j) (Classical.propDecidable _) (.ok (.int (i % j)) s) .bad
  | _, _ => .bad
noncomputable def powD : D → D → Store → R D := fun x y s => match x, y with
  | .int i, .int j => @ite (R _) (0 ≤ j ∧ j ≤ 1000000 ∧ i.natAbs < 2 ^ 64) (Classical.propDecidable _) (.ok (.int (i ^ j.toNat)) s) .bad
  | _, _ => .bad
def cmpI (f : Int → Int → Bool) : D → D → Store → R D := fun x y s => match x, y with
  | .int i, .int j => .ok (.bl (f i j)) s
  | _, _ => .bad
def ltD := cmpI fun i j => decide (i < j)
def leD := cmpI fun i j => decide (i ≤ j)
def gtD := cmpI fun i j => decide (j < i)
def geD := cmpI fun i j => decide (j ≤ i)
def isNon : D → Bool
  | .non => true
  | _ => false
def isD (neg : Bool) : D → D → Store → R D := fun x y s => match y with
  | .non => .ok (.bl (if neg then !isNon x else isNon x)) s
  | .bl b => match x with
    | .bl a => .ok (.bl (if neg then !decide (a = b) else decide (a = b))) s
    | _ => .bad
  | _ => .bad
def inD (neg : Bool) : D → D → Store → R D := fun x y s => match x, y with
  | .str i, .str j => match i.cps.toList with
    | [c] => .ok (.bl (if neg then !decide (c ∈ j.cps.toList) else decide (c ∈ j.cps.toList))) s
    | _ => .bad
  | x, y => match res s x, res s y with
    | some a, some (.tup ys) => if layD a = true ∧ layDs ys = true ∧ depD a ≤ 190 then .ok (.bl (if neg then !ys.any (fun y => eqv y a) else ys.any (fun y => eqv y a))) s else .bad
    | some a, some (.lst ys) => if layD a = true ∧ layDs ys = true ∧ depD a ≤ 190 then .ok (.bl (if neg then !ys.any (fun y => eqv y a) else ys.any (fun y => eqv y a))) s else .bad
    | _, _ => .bad
section
variable {X : Cx} {ca : Nat → Addr}
def rAddA (K : PySem.W.Frag) : R2 := fun x y H Q => (((rI0 fun i j => .int (i + j)) x y H Q ∨ (∃ i j, x = .str i ∧ y = .str j ∧ i.length + j.length ≤ sizeLine ∧ Q (.str (i ++ j)) H)) ∨ rCatA K x y H Q) ∨ rCat x y H Q
theorem op_addA : OpR X (binaryOp .Add) (rAddA X.K) := ((op_add.or op_add_str).or op_catA).or op_cat
theorem imp_add : Imp2 X.K ca addD (rAddA X.K) := by
  intro L H s x y v u Q E S hx hy p
  unfold addD at p
  split at p
  · simp only [RD] at hx hy
    exact .inl (.inl (.inl ⟨_, _, hx, hy, p L _ H Keep.refl S rfl⟩))
  · split at p
    · rename_i hz
      simp only [RD] at hx hy
      exact .inl (.inl (.inr ⟨_, _, hx, hy, hz, p L _ H Keep.refl S rfl⟩))
    · exact p.elim
  · split at p
    · rename_i xs ys hz
      simp only [RD] at hx hy
      obtain ⟨a, vs, rfl, f, rs⟩ := hx
      obtain ⟨b, ws, rfl, g, qs⟩ := hy
      refine .inl (.inr ⟨a, b, vs, ws, rfl, rfl, f.sq, g.sq, by rw [← rs.length, ← qs.length]; exact hz, fun e => ?_, fun e1 e2 => ?_, fun _ _ => new_tup S (rs.append qs) p⟩)
      · subst e
        have : xs = [] := by have := rs.length; simpa using this
        subst this
        exact p L _ H Keep.refl S (by simp only [RD]; exact ⟨b, ws, rfl, g, qs⟩)
      · subst e2
        have : ys = [] := by have := qs.length; simpa using this
        subst this
        exact p L _ H Keep.refl S (by simp only [RD, List.append_nil]; exact ⟨a, vs, rfl, f, rs⟩)
    · exact p.elim
  · split at p
    · rename_i xs ys ex ey
      split at p
      · rename_i hz
        obtain ⟨a, vs, rfl, h1, rs⟩ := rdL_ok S hx ex
        obtain ⟨b, ws, rfl, h2, qs⟩ := rdL_ok S hy ey
        exact .inr ⟨a, b, vs, ws, rfl, rfl, h1, h2, by rw [← rs.length, ← qs.length]; exact hz, new_lst S (rs.append qs) p⟩
      · exact p.elim
    · exact p.elim
theorem imp_addN : Imp2 X.K ca addN rCat := by
  intro L H s x y v u Q E S hx hy p
  unfold addN at p
  split at p
  · rename_i xs ys ex ey
    split at p
    · rename_i hz
      obtain ⟨a, vs, rfl, h1, rs⟩ := rdL_ok S hx ex
      obtain ⟨b, ws, rfl, h2, qs⟩ := rdL_ok S hy ey
      exact ⟨a, b, vs, ws, rfl, rfl, h1, h2, by rw [← rs.length, ← qs.length]; exact hz, new_cell S (rs.append qs) p⟩
    · exact p.elim
  · exact p.elim
theorem imp_sub : Imp2 X.K ca subD (rI0 fun i j => .int (i - j)) := by
  intro L H s x y v u Q E S hx hy p
  unfold subD at p
  split at p
  · simp only [RD] at hx hy
    exact ⟨_, _, hx, hy, p L _ H Keep.refl S rfl⟩
  · exact p.elim
theorem imp_fdiv : Imp2 X.K ca fdivD (rI CDiv fun i j => .int (i / j)) := by
  intro L H s x y v u Q E S hx hy p
  unfold fdivD at p
  split at p
  · split at p
    · rename_i hz
      simp only [RD] at hx hy
      exact ⟨_, _, hx, hy, hz, p L _ H Keep.refl S rfl⟩
    · exact p.elim
  · exact p.elim
theorem imp_mod : Imp2 X.K ca modD (rI (fun _ j => 0 < j) fun i j => .int (i % j)) := by
  intro L H s x y v u Q E S hx hy p
  unfold modD at p
  split at p
  · split at p
    · rename_i hz
      simp only [RD] at hx hy
      exact ⟨_, _, hx, hy, hz, p L _ H Keep.refl S rfl⟩
    · exact p.elim
  · exact p.elim
theorem imp_pow : Imp2 X.K ca powD (rI CPow fun i j => .int (i ^ j.toNat)) := by
  intro L H s x y v u Q E S hx hy p
  unfold powD at p
  split at p
  · split at p
    · rename_i hz
      simp only [RD] at hx hy
      exact ⟨_, _, hx, hy, hz, p L _ H Keep.refl S rfl⟩
    · exact p.elim
  · exact p.elim
theorem imp_cmp (f : Int → Int → Bool) : Imp2 X.K ca (cmpI f) (rI0 fun i j => .bl (f i j)) := by
  intro L H s x y v u Q E S hx hy p
  unfold cmpI at p
  split at p
  · simp only [RD] at hx hy
    exact ⟨_, _, hx, hy, p L _ H Keep.refl S rfl⟩
  · exact p.elim
theorem RD.isNon {K : PySem.W.Frag} {L : Lv} {H : Hp} {d : D} {v : V} (r : RD K L H d v) : decide (v = .non) = isNon d := by
  cases d <;> simp only [RD] at r <;> (try subst r) <;> (try rfl)
  · obtain ⟨a, _, rfl, _⟩ := r; rfl
  · obtain ⟨a, _, rfl, _⟩ := r; rfl
  · obtain ⟨a, _, rfl, _⟩ := r; rfl
  · obtain ⟨a, rfl, _⟩ := r; rfl
  · obtain ⟨a, rfl, _⟩ := r; rfl
theorem imp_is : Imp2 X.K ca (isD false) (fun x y H Q => (y = .non ∧ Q (.bl (decide (x = .non))) H) ∨ rIsB x y H Q) := by
  intro L H s x y v u Q E S hx hy p
  unfold isD at p
  split at p
  · simp only [RD] at hy
    exact .inl ⟨hy, by rw [hx.isNon]; exact p L _ H Keep.refl S rfl⟩
  · split at p
    · simp only [RD] at hx hy
      exact .inr ⟨_, _, hx, hy, p L _ H Keep.refl S rfl⟩
    · exact p.elim
  · exact p.elim
theorem imp_isnot : Imp2 X.K ca (isD true) (fun x y H Q => (y = .non ∧ Q (.bl (!decide (x = .non))) H) ∨ rNotB x y H Q) := by
  intro L H s x y v u Q E S hx hy p
  unfold isD at p
  split at p
  · simp only [RD] at hy
    exact .inl ⟨hy, by rw [hx.isNon]; exact p L _ H Keep.refl S rfl⟩
  · split at p
    · simp only [RD] at hx hy
      exact .inr ⟨_, _, hx, hy, p L _ H Keep.refl S rfl⟩
    · exact p.elim
  · exact p.elim
theorem op_isA : OpR X (compareOp .Is) (fun x y H Q => (y = .non ∧ Q (.bl (decide (x = .non))) H) ∨ rIsB x y H Q) := op_isN.or op_isBl
theorem op_isnotA : OpR X (compareOp .IsNot) (fun x y H Q => (y = .non ∧ Q (.bl (!decide (x = .non))) H) ∨ rNotB x y H Q) := op_notN.or op_notBl

/-! in -/
def rInP (K : PySem.W.Frag) (neg : Bool) : R2 := fun x y H Q => ∃ d ds, Dp K H x d ∧ (Dp K H y (.list ds) ∨ Dp K H y (.tuple ds)) ∧ PyData.canLayAll0 ds = true ∧ d.canLay0 = true ∧ d.depth ≤ 190 ∧ Q (.bl (if neg then !ds.any (fun z => PyData.eqv z d) else ds.any (fun z => PyData.eqv z d))) H
theorem room_in {A : Around} {n m : Nat} (hu : A.units + 200 < cLine) (h : m ≤ 190) : A.units + 1 + min n m < cLine := by
  have := Nat.min_le_right n m
  omega
theorem op_inP (hu : X.A.units + 200 < cLine) : OpR X (compareOp .In) (rInP X.K false) := by
  intro pins s σ H x y v u Q I rx ry h
  obtain ⟨d, ds, hd, he, se, sd, dd, q⟩ := h
  obtain ⟨as, r1⟩ := Dp.reads I d x v hd rx
  rcases he with he | he
  · obtain ⟨bs, r2⟩ := Dp.reads I (.list ds) y u he ry
    exact SeqAt.in_list_reads r2 r1 se sd (room_in hu dd) ⟨.bl _, H, I, rfl, q⟩
  · obtain ⟨bs, r2⟩ := Dp.reads I (.tuple ds) y u he ry
    exact SeqAt.in_tuple_reads r2 r1 se sd (room_in hu dd) ⟨.bl _, H, I, rfl, q⟩
theorem op_notInP (hu : X.A.units + 200 < cLine) : OpR X (compareOp .NotIn) (rInP X.K true) := by
  intro pins s σ H x y v u Q I rx ry h
  obtain ⟨d, ds, hd, he, se, sd, dd, q⟩ := h
  obtain ⟨as, r1⟩ := Dp.reads I d x v hd rx
  rcases he with he | he
  · obtain ⟨bs, r2⟩ := Dp.reads I (.list ds) y u he ry
    exact SeqAt.notIn_list_reads r2 r1 se sd (room_in hu dd) ⟨.bl _, H, I, rfl, q⟩
  · obtain ⟨bs, r2⟩ := Dp.reads I (.tuple ds) y u he ry
    exact SeqAt.notIn_tuple_reads r2 r1 se sd (room_in hu dd) ⟨.bl _, H, I, rfl, q⟩
def rInS (neg : Bool) : R2 := fun x y H Q => ∃ (c : Nat) (z : Str), x = .str ⟨#[c]⟩ ∧ y = .str z ∧ Q (.bl (if neg then !decide (c ∈ z.cps.toList) else decide (c ∈ z.cps.toList))) H
theorem op_inA (hu : X.A.units + 200 < cLine) : OpR X (compareOp .In) (fun x y H Q => rInS false x y H Q ∨ rInP X.K false x y H Q) := OpR.or op_in_sign (op_inP hu)
theorem op_notInA (hu : X.A.units + 200 < cLine) : OpR X (compareOp .NotIn) (fun x y H Q => rInS true x y H Q ∨ rInP X.K true x y H Q) := OpR.or op_notIn_sign (op_notInP hu)
theorem any_py (a : D) : ∀ ys : List D, (pyOfs ys).any (fun z => PyData.eqv z (pyOf a)) = ys.any fun y => eqv y a
  | [] => rfl
  | y :: ys => by simp only [pyOfs, List.any_cons, any_py a ys, eqv]
theorem imp_in (neg : Bool) : Imp2 X.K ca (inD neg) (fun x y H Q => rInS neg x y H Q ∨ rInP X.K neg x y H Q) := by
  intro L H s x y v u Q E S hx hy p
  unfold inD at p
  split at p
  · rename_i i j
    split at p
    · rename_i c hc
      simp only [RD] at hx hy
      refine .inl ⟨c, j, ?_, hy, p L _ H Keep.refl S rfl⟩
      rw [hx]
      obtain ⟨cps⟩ := i
      have : cps = #[c] := by apply Array.toList_inj.mp; simpa using hc
      rw [this]
    · exact p.elim
  · split at p
    · rename_i a ys ea ey
      split at p
      · rename_i hl
        have h1 := lay_py a hl.1
        have h2 := lay_pys ys hl.2.1
        refine .inr ⟨pyOf a, pyOfs ys, dp_of a v hl.1 (res_ok S ea hx), .inr (dp_of (.tup ys) u (by simpa only [layD] using hl.2.1) (res_ok S ey hy)), h2.1, h1.1, by rw [h1.2]; exact hl.2.2, ?_⟩
        rw [any_py]
        exact p L _ H Keep.refl S rfl
      · exact p.elim
    · rename_i a ys ea ey
      split at p
      · rename_i hl
        have h1 := lay_py a hl.1
        have h2 := lay_pys ys hl.2.1
        refine .inr ⟨pyOf a, pyOfs ys, dp_of a v hl.1 (res_ok S ea hx), .inl (dp_of (.lst ys) u (by simpa only [layD] using hl.2.1) (res_ok S ey hy)), h2.1, h1.1, by rw [h1.2]; exact hl.2.2, ?_⟩
        rw [any_py]
        exact p L _ H Keep.refl S rfl
      · exact p.elim
    · exact p.elim

/-! * -/
theorem rd_rep {K : PySem.W.Frag} {L : Lv} {H : Hp} {xs : List D} {vs : List V} (h : RDs K L H xs vs) : ∀ k : Nat, RDs K L H (List.replicate k xs).flatten (List.replicate k vs).flatten
  | 0 => .nil
  | k + 1 => by
    rw [List.replicate_succ, List.replicate_succ, List.flatten_cons, List.flatten_cons]
    exact h.append (rd_rep h k)
theorem size_repS (z : Array Nat) : ∀ k : Nat, ((List.replicate k z).foldl (· ++ ·) #[]).size = k * z.size := by
  have : ∀ (k : Nat) (acc : Array Nat), ((List.replicate k z).foldl (· ++ ·) acc).size = acc.size + k * z.size := by
    intro k
    induction k with
    | zero => intro acc; simp
    | succ k ih => intro acc; rw [List.replicate_succ, List.foldl_cons, ih]; simp [Nat.succ_mul]; omega
  intro k
  rw [this]; simp
def rRepS : R2 := fun x y H Q => ∃ z k, x = .str z ∧ y = .int k ∧ 0 ≤ k ∧ k ≤ 100000 ∧ z.length ≤ 100 ∧ Q (.str (repS k z)) H
theorem op_repS : OpR X (binaryOp .Mult) rRepS := by
  intro pins s σ H x y v u Q I rx ry h
  obtain ⟨z, k, rfl, rfl, h0, h1, hz, q⟩ := h
  obtain ⟨t, rfl⟩ := rx
  obtain ⟨t', rfl⟩ := ry
  have hb : (2 : Int) ^ 63 = 9223372036854775808 := by decide
  refine P.mul_str (by rw [decide_eq_false (by omega), decide_eq_false (by omega)]; rfl) (fun h1 _ => ?_) (fun h1 _ => ?_) ?_
  · intro hh
    have h5 : (2 ^ 63 - 1 : Int) / k ≥ (2 ^ 63 - 1 : Int) / 100000 := by
      rw [hb]
      have hk : 0 < k := by omega
      have := Int.ediv_mul_le (9223372036854775808 - 1 : Int) (show (100000 : Int) ≠ 0 by decide)
      refine (Int.le_ediv_iff_mul_le hk).mpr ?_
      refine Int.le_trans (Int.mul_le_mul_of_nonneg_left (show k ≤ 100000 by omega) (by decide)) this
    have h6 : ((2 ^ 63 - 1 : Int) / 100000) = 92233720368547 := by decide
    omega
  · have : z.length * k.toNat ≤ 100 * 100000 := Nat.mul_le_mul hz (by omega)
    have hs : sizeLine = 16777216 := by decide
    unfold Builtin.Str.tooLong
    simp only [decide_eq_false_iff_not, hs]
    omega
  · split
    · rename_i hk
      have hk0 : k = 0 := by omega
      subst hk0
      exact ⟨by decide, .str _, H, I.tok _, ⟨_, rfl⟩, q⟩
    · split
      · rename_i hk hh
        refine ⟨.str (repS k z), H, I, ?_, q⟩
        have : repS k z = z := by
          simp only [Bool.or_eq_true, beq_iff_eq] at hh
          unfold repS
          rcases hh with hh | hh
          · subst hh
            simp [List.replicate_succ]
          · have e : z.cps = #[] := Array.eq_empty_of_size_eq_zero hh
            have f : ((List.replicate k.toNat z.cps).foldl (· ++ ·) #[]) = #[] := Array.eq_empty_of_size_eq_zero (by rw [size_repS, e]; simp)
            rw [f]
            obtain ⟨c⟩ := z
            simpa using e.symm
        rw [this]
        exact ⟨_, rfl⟩
      · refine ⟨?_, .str (repS k z), H, I.tok _, ⟨_, rfl⟩, q⟩
        have hs : sizeLine = 16777216 := by decide
        show Array.size _ ≤ sizeLine
        rw [size_repS, hs]
        have : k.toNat * z.cps.size ≤ 100000 * 100 := Nat.mul_le_mul (by omega) hz
        omega
def rMulA (K : PySem.W.Frag) : R2 := fun x y H Q => (((rI CMul fun i j => .int (i * j)) x y H Q ∨ rRepS x y H Q) ∨ rRepT K x y H Q) ∨ rRep x y H Q
theorem op_mulA : OpR X (binaryOp .Mult) (rMulA X.K) := ((op_mul.or op_repS).or op_repT).or op_rep
theorem imp_mul : Imp2 X.K ca mulD (rMulA X.K) := by
  intro L H s x y v u Q E S hx hy p
  unfold mulD at p
  split at p
  · split at p
    · rename_i hz
      simp only [RD] at hx hy
      exact .inl (.inl (.inl ⟨_, _, hx, hy, hz, p L _ H Keep.refl S rfl⟩))
    · exact p.elim
  · split at p
    · rename_i hz
      simp only [RD] at hx hy
      exact .inl (.inl (.inr ⟨_, _, hx, hy, hz.1, hz.2.1, hz.2.2, p L _ H Keep.refl S rfl⟩))
    · exact p.elim
  · split at p
    · rename_i xs k hz
      simp only [RD] at hx hy
      obtain ⟨a, vs, rfl, f, rs⟩ := hx
      subst hy
      refine .inl (.inr ⟨a, k, vs, rfl, rfl, f.sq, ?_, hz.2.1, hz.2.2.1, by rw [← rs.length]; exact hz.1, new_tup S (rd_rep rs _) p⟩)
      rintro rfl
      exact hz.2.2.2 (by have := rs.length; simpa using this)
    · exact p.elim
  · split at p
    · rename_i xs ex
      split at p
      · rename_i hz
        simp only [RD] at hy
        subst hy
        obtain ⟨a, vs, rfl, h1, rs⟩ := rdL_ok S hx ex
        exact .inr ⟨a, _, vs, rfl, rfl, h1, hz.1, hz.2.1, by rw [← rs.length]; exact hz.2.2, new_lst S (rd_rep rs _) p⟩
      · exact p.elim
    · exact p.elim
  · exact p.elim
end

/-! ### argument lists, displays -/
section
variable {X : Cx} {ca : Nat → Addr} {W : WX} {e : Expr} {es : List Expr} {m : EM} {ms : AM} {pos : Pos}
def aNil : AM := fun _ s => .ok [] s
def aCons (m : EM) (ms : AM) : AM := fun env s => (m env s).bind fun d s => (ms env s).bind fun ds s => .ok (d :: ds) s
theorem da_nil : DA X ca W [] aNil := PA.imp pa_nil fun σ H Q ⟨L, env, s, S, e, p⟩ => p L [] H Keep.refl S .nil
theorem da_cons (h : DE X ca W e m) (hr : DA X ca W es ms) (hs : starEach (e :: es) X.env = (false, eval e X.env) :: starEach es X.env := by rfl) : DA X ca W (e :: es) (aCons m ms) :=
  PA.imp (pa_cons h hr hs) fun σ H Q ⟨L, env, s, S, e, p⟩ => ⟨L, env, s, S, e, p.bind.imp fun v H1 ⟨L1, s1, d, k1, S1, r1, p1⟩ =>
    ⟨L1, env, s1, S1, e.mono k1.mono, p1.bind.imp fun vs H2 ⟨L2, s2, ds, k2, S2, r2, p2⟩ => p2 L2 _ H2 Keep.refl S2 (.cons (RD.mono k2.mono _ _ r1) r2)⟩⟩
def LINE : Nat := 16777216
theorem line_eq : sizeLine = LINE := by decide
def eTup (ms : AM) : EM := fun env s => (ms env s).bind fun ds s => if ds.length ≤ LINE then .ok (.tup ds) s else .bad
def eLst (ms : AM) : EM := fun env s => (ms env s).bind fun ds s => if ds.length ≤ LINE then .ok (.lst ds) s else .bad
/-- a list that is changed later -/
def eNew (ms : AM) : EM := fun env s => (ms env s).bind fun ds s => if ds.length ≤ LINE then .ok (.ref s.length) (s ++ [.lst ds]) else .bad
theorem de_tup {x1} (h : DA X ca W es ms) : DE X ca W (.Tuple es x1 pos) (eTup ms) := PE.imp (pe_tup h) fun σ H Q ⟨L, env, s, S, e, p⟩ =>
  ⟨L, env, s, S, e, p.bind.imp fun vs H1 ⟨L1, s1, ds, k1, S1, r1, p1⟩ => by
    split at p1
    · rename_i hz
      exact ⟨by rw [← r1.length, line_eq]; exact hz, new_tup S1 r1 p1⟩
    · exact p1.elim⟩
theorem de_lst (h : DA X ca W es ms) : DE X ca W (.List es pos) (eLst ms) := PE.imp (pe_lst h) fun σ H Q ⟨L, env, s, S, e, p⟩ =>
  ⟨L, env, s, S, e, p.bind.imp fun vs H1 ⟨L1, s1, ds, k1, S1, r1, p1⟩ => by
    split at p1
    · rename_i hz
      exact ⟨by rw [← r1.length, line_eq]; exact hz, new_lst S1 r1 p1⟩
    · exact p1.elim⟩
theorem de_new (h : DA X ca W es ms) : DE X ca W (.List es pos) (eNew ms) := PE.imp (pe_lst h) fun σ H Q ⟨L, env, s, S, e, p⟩ =>
  ⟨L, env, s, S, e, p.bind.imp fun vs H1 ⟨L1, s1, ds, k1, S1, r1, p1⟩ => by
    split at p1
    · rename_i hz
      exact ⟨by rw [← r1.length, line_eq]; exact hz, new_cell S1 r1 p1⟩
    · exact p1.elim⟩
end

/-! ### subscripts -/
def ixD : D → D → Store → R D := fun x y s => match y with
  | .int i => match x with
    | .tup xs => match atI xs i with | some d => .ok d s | none => .bad
    | .str z => if z.length ≤ LINE then match atI z.cps.toList i with | some c => .ok (.str ⟨#[c]⟩) s | none => .bad else .bad
    | x => match rdS s x with
      | some xs => match atI xs i with | some d => .ok d s | none => .bad
      | none => .bad
  | _ => .bad
section
variable {X : Cx} {ca : Nat → Addr} {W : WX} {a b : Expr} {ma mb : EM} {pos : Pos}
theorem at_rd {K : PySem.W.Frag} {L : Lv} {H : Hp} {xs : List D} {vs : List V} {i : Int} {d : D} (r : RDs K L H xs vs) (e : atI xs i = some d) : ∃ v, atI vs i = some v ∧ RD K L H d v := by
  unfold atI at e ⊢
  rw [← r.length]
  cases q : ixN xs.length i with
  | none => rw [q] at e; cases e
  | some j =>
    rw [q] at e
    exact RDs.get r e
theorem imp_ix : Imp2 X.K ca ixD (rIx X.K) := by
  intro L H s x y v u Q E S hx hy p
  unfold ixD at p
  split at p
  · rename_i i
    simp only [RD] at hy
    split at p
    · rename_i xs
      split at p
      · rename_i d ed
        simp only [RD] at hx
        obtain ⟨a, vs, rfl, f, rs⟩ := hx
        obtain ⟨w, ew, rw_⟩ := at_rd rs ed
        exact .inr (.inl ⟨a, vs, i, w, rfl, hy, f.sq, ew, p L _ H Keep.refl S rw_⟩)
      · exact p.elim
    · split at p
      · rename_i hz
        split at p
        · rename_i c ec
          simp only [RD] at hx
          exact .inr (.inr ⟨_, i, c, hx, hy, by rw [line_eq]; exact hz, ec, p L _ H Keep.refl S rfl⟩)
        · exact p.elim
      · exact p.elim
    · split at p
      · rename_i xs ex
        split at p
        · rename_i d ed
          obtain ⟨a, vs, rfl, f, rs⟩ := rdS_ok S hx ex
          obtain ⟨w, ew, rw_⟩ := at_rd rs ed
          exact .inl ⟨a, vs, i, w, rfl, hy, f, ew, p L _ H Keep.refl S rw_⟩
        · exact p.elim
      · exact p.elim
  · exact p.elim
theorem de_ix (ha : DE X ca W a ma) (hb : DE X ca W b mb) (hs : PlainIx b := by exact fun _ _ => rfl) : DE X ca W (.Subscript a b pos) (e2 ixD ma mb) := PE.imp (pe_ix ix_seq ha hb hs) (tOp_of imp_ix)
end

/-! ### slices -/
abbrev OM := Env → Store → R (Option Int)
def tO (K : PySem.W.Frag) (ca : Nat → Addr) (W : WX) (m : OM) : TO := fun σ H Q => ∃ L env s, SR K ca L s H ∧ ER K L H env σ ∧ post K ca (fun _ _ a b => a = b) L H (m env s) Q (wE ca W σ)
def DO (X : Cx) (ca : Nat → Addr) (W : WX) (e : Option Expr) (m : OM) : Prop := PO X e (tO X.K ca W m)
def oNone : OM := fun _ s => .ok none s
def oSome (m : EM) : OM := fun env s => (m env s).bind fun d s => match d with | .int i => .ok (some i) s | _ => .bad
def cutL {α : Type} (xs : List α) (lo hi : Option Int) : List α := (xs.drop (HT.sIx xs.length 0 lo)).take (HT.sIx xs.length xs.length hi - HT.sIx xs.length 0 lo)
def cutD : D → Option Int → Option Int → Store → R D := fun x lo hi s => match x with
  | .tup xs => .ok (.tup (cutL xs lo hi)) s
  | .str z => if z.length ≤ LINE then .ok (.str ⟨(cutL z.cps.toList lo hi).toArray⟩) s else .bad
  | x => match rdS s x with
    | some xs => .ok (.lst (cutL xs lo hi)) s
    | none => .bad
def eCut (m : EM) (lo hi : OM) : EM := fun env s => (m env s).bind fun x s => (lo env s).bind fun l s => (hi env s).bind fun h s => cutD x l h s
section
variable {X : Cx} {ca : Nat → Addr} {W : WX} {e : Expr} {m : EM} {lo hi : Option Expr} {ml mh : OM} {pos p2 : Pos}
theorem PO.imp {e : Option Expr} {t t' : TO} (h : PO X e t) (i : ∀ σ H Q, t' σ H Q → t σ H Q) : PO X e t' := ⟨fun pins s σ H Q I q => h.run pins s σ H Q I (i σ H Q q)⟩
theorem do_none : DO X ca W none oNone := PO.imp po_none fun σ H Q ⟨L, env, s, S, e, p⟩ => p L none H Keep.refl S rfl
theorem do_some (h : DE X ca W e m) : DO X ca W (some e) (oSome m) := PO.imp (po_some h) fun σ H Q ⟨L, env, s, S, e, p⟩ =>
  ⟨L, env, s, S, e, p.bind.imp fun v H1 ⟨L1, s1, d, k1, S1, r1, p1⟩ => by
    split at p1
    · simp only [RD] at r1
      exact ⟨_, r1, p1 L1 _ H1 Keep.refl S1 rfl⟩
    · exact p1.elim⟩
theorem rd_cut {K : PySem.W.Frag} {L : Lv} {H : Hp} {xs : List D} {vs : List V} (r : RDs K L H xs vs) (lo hi : Option Int) : RDs K L H (cutL xs lo hi) (cutV vs lo hi) := by
  unfold cutL cutV
  rw [← r.length]
  exact (r.drop _).take _
end
end DE
/-! DE4: slices, tests, and / or / not, if-else, calls of built-ins -/
namespace DE
open PySem PySem.Spec PyProof.Rows L2
section
variable {X : Cx} {ca : Nat → Addr} {W : WX} {e a b c : Expr} {es rest : List Expr} {m ma mb mc : EM} {lo hi : Option Expr} {ml mh : OM} {pos p2 : Pos}
def rCutA (K : PySem.W.Frag) : V → Option Int → Option Int → Hp → VK → Prop := fun x lo hi H Q => (rSlL K x lo hi H Q ∨ rSlA K x lo hi H Q) ∨ rSlS x lo hi H Q
theorem sl_cutA : SlR X (rCutA X.K) := (sl_list.or sl_tupA).or sl_str
theorem cut_whole {α : Type} (xs : List α) (lo hi : Option Int) (h : HT.sIx xs.length 0 lo = 0 ∧ HT.sIx xs.length xs.length hi = xs.length) : cutL xs lo hi = xs := by
  unfold cutL
  rw [h.1, h.2, List.drop_zero, Nat.sub_zero, List.take_length]
theorem imp_cut {L : Lv} {H : Hp} {s : Store} {x : D} {v : V} {l u : Option Int} {Q : VK} {E : Nat → Hp → Prop} (S : SR X.K ca L s H) (r : RD X.K L H x v) (p : post X.K ca (RD X.K) L H (cutD x l u s) Q E) : rCutA X.K v l u H Q := by
  unfold cutD at p
  split at p
  · rename_i xs
    simp only [RD] at r
    obtain ⟨a, vs, rfl, f, rs⟩ := r
    refine .inl (.inr ⟨a, vs, rfl, f.sq, fun hw => ?_, fun hw => ?_⟩)
    · rw [cut_whole xs l u (by rw [rs.length]; exact hw)] at p
      exact p L _ H Keep.refl S (by simp only [RD]; exact ⟨a, vs, rfl, f, rs⟩)
    · exact new_tup S (rd_cut rs l u) p
  · split at p
    · rename_i z hz
      simp only [RD] at r
      exact .inr ⟨z, r, by rw [line_eq]; exact hz, p L _ H Keep.refl S rfl⟩
    · exact p.elim
  · split at p
    · rename_i xs ex
      obtain ⟨a, vs, rfl, f, rs⟩ := rdS_ok S r ex
      exact .inl (.inl ⟨a, vs, rfl, f, new_lst S (rd_cut rs l u) p⟩)
    · exact p.elim
theorem de_cut (he : DE X ca W e m) (hl : DO X ca W lo ml) (hh : DO X ca W hi mh) : DE X ca W (.Subscript e (.Slice lo hi none p2) pos) (eCut m ml mh) :=
  PE.imp (pe_slice sl_cutA he hl hh) fun σ H Q ⟨L, env, s, S, e, p⟩ => ⟨L, env, s, S, e, p.bind.imp fun v H1 ⟨L1, s1, d, k1, S1, r1, p1⟩ =>
    ⟨L1, env, s1, S1, e.mono k1.mono, p1.bind.imp fun l H2 ⟨L2, s2, l', k2, S2, r2, p2⟩ =>
      ⟨L2, env, s2, S2, (e.mono k1.mono).mono k2.mono, p2.bind.imp fun u H3 ⟨L3, s3, u', k3, S3, r3, p3⟩ => by
        subst r2; subst r3
        exact imp_cut S3 (RD.mono k3.mono _ _ (RD.mono k2.mono _ _ r1)) p3⟩⟩⟩

/-! ### tests -/
def tVal (m : EM) : TM := fun env s => (m env s).bind fun d s => match d with | .bl b => .ok b s | _ => .bad
theorem dt_val (h : DE X ca W e m) (he : ∀ whole, isTrue e X.env whole = (do let v ← whole; standAt e.pos; holding [v] (truthy v)) := by intro _; rfl) : DT X ca W e (tVal m) := PT.imp (pt_val h he) fun σ H Q ⟨L, env, s, S, e, p⟩ =>
  ⟨L, env, s, S, e, p.bind.imp fun v H1 ⟨L1, s1, d, k1, S1, r1, p1⟩ => by
    split at p1
    · simp only [RD] at r1
      exact ⟨_, r1, p1 L1 _ H1 Keep.refl S1 rfl⟩
    · exact p1.elim⟩
theorem dt_cmp {op : CmpOp} {f : D → D → Store → R D} {r : R2} (ho : OpR X (compareOp op) r) (hi : Imp2 X.K ca f r) (ha : DE X ca W a ma) (hb : DE X ca W b mb) (hm : behindInMarks op b = false := by rfl) : DT X ca W (.Compare a [op] [b] pos) (tVal (e2 f ma mb)) :=
  PT.imp (pt_cmpR ho ha hb hm) fun σ H Q ⟨L, env, s, S, e, p⟩ => by
    refine tOp_of (W := W) (ma := ma) (mb := mb) hi σ H _ ⟨L, env, s, S, e, (p.bind (RA := RD X.K)).imp fun v H1 ⟨L1, s1, d, k1, S1, r1, p1⟩ => ?_⟩
    split at p1
    · simp only [RD] at r1
      exact ⟨_, r1, p1 L1 _ H1 Keep.refl S1 rfl⟩
    · exact p1.elim
theorem dt_chain {op op' : CmpOp} {f g : D → D → Store → R D} {r r' : R2} (ho : OpR X (compareOp op) r) (ho' : OpR X (compareOp op') r') (hi : Imp2 X.K ca f r) (hi' : Imp2 X.K ca g r') (ha : DE X ca W a ma) (hb : DE X ca W b mb) (hc : DE X ca W c mc)
    (hm : lastMarks [op, op'] [b, c] = false := by with_unfolding_all rfl) : DT X ca W (.Compare a [op, op'] [b, c] pos) (tVal (eChain f g ma mb mc)) :=
  PT.imp (pt_chain ho ho' ha hb hc hm) fun σ H Q ⟨L, env, s, S, e, p⟩ =>
    ⟨L, env, s, S, e, by
      unfold tVal eChain at p
      rw [R.bind_assoc] at p
      refine p.bind.imp fun v H1 ⟨L1, s1, d, k1, S1, r1, p1⟩ => ⟨L1, env, s1, S1, e.mono k1.mono, ?_⟩
      rw [R.bind_assoc] at p1
      refine p1.bind.imp fun u H2 ⟨L2, s2, d2, k2, S2, r2, p2⟩ => hi L2 H2 s2 d d2 v u _ (wE ca W σ) S2 (RD.mono k2.mono _ _ r1) r2 ?_
      rw [R.bind_assoc] at p2
      refine p2.bind.imp fun z H3 ⟨L3, s3, d3, k3, S3, r3, p3⟩ => ?_
      cases d3 with
      | bl q =>
        simp only [RD] at r3
        refine ⟨q, r3, ?_⟩
        cases q with
        | true =>
          refine iteT ⟨L3, env, s3, S3, ((e.mono k1.mono).mono k2.mono).mono k3.mono, ?_⟩
          simp only [R.bind_assoc] at p3
          refine p3.bind.imp fun w' H4 ⟨L4, s4, d4, k4, S4, r4, p4⟩ => ?_
          refine hi' L4 H4 s4 d2 d4 u w' _ (wE ca W σ) S4 (RD.mono k4.mono _ _ (RD.mono k3.mono _ _ r2)) r4 (p4.bind.imp fun y H5 ⟨L5, s5, d5, k5, S5, r5, p5⟩ => ?_)
          split at p5
          · simp only [RD] at r5
            exact ⟨_, r5, p5 L5 _ H5 Keep.refl S5 rfl⟩
          · exact p5.elim
        | false => exact iteF ⟨false, rfl, p3 L3 _ H3 Keep.refl S3 rfl⟩
      | _ => exact p3.elim⟩
def tAndM (ma mb : TM) : TM := fun env s => (ma env s).bind fun b s => if b = true then mb env s else .ok false s
def tOrM (ma mb : TM) : TM := fun env s => (ma env s).bind fun b s => if b = true then .ok true s else mb env s
def tNotM (ma : TM) : TM := fun env s => (ma env s).bind fun b s => .ok (!b) s
section
variable {ta tb : TM}
theorem dw_and1 (ha : DT X ca W a ta) : DW X ca W (.BoolOp .And [a] pos) ta := pw_and1 ha
theorem dw_or1 (ha : DT X ca W a ta) : DW X ca W (.BoolOp .Or [a] pos) ta := pw_or1 ha
theorem dw_and (ha : DT X ca W a ta) (hb : DW X ca W (.BoolOp .And (b :: rest) pos) tb) : DW X ca W (.BoolOp .And (a :: b :: rest) pos) (tAndM ta tb) := PW.imp (pw_and ha hb) fun σ H Q ⟨L, env, s, S, e, p⟩ =>
  ⟨L, env, s, S, e, p.bind.imp fun v H1 ⟨L1, s1, d, k1, S1, r1, p1⟩ => by
    subst r1
    cases d with
    | true => exact iteT ⟨L1, env, s1, S1, e.mono k1.mono, by rw [if_pos rfl] at p1; exact p1⟩
    | false => exact iteF (by rw [if_neg Bool.false_ne_true] at p1; exact p1 L1 _ H1 Keep.refl S1 rfl)⟩
theorem dw_or (ha : DT X ca W a ta) (hb : DW X ca W (.BoolOp .Or (b :: rest) pos) tb) : DW X ca W (.BoolOp .Or (a :: b :: rest) pos) (tOrM ta tb) := PW.imp (pw_or ha hb) fun σ H Q ⟨L, env, s, S, e, p⟩ =>
  ⟨L, env, s, S, e, p.bind.imp fun v H1 ⟨L1, s1, d, k1, S1, r1, p1⟩ => by
    subst r1
    cases d with
    | true => exact iteT (by rw [if_pos rfl] at p1; exact p1 L1 _ H1 Keep.refl S1 rfl)
    | false => exact iteF ⟨L1, env, s1, S1, e.mono k1.mono, by rw [if_neg Bool.false_ne_true] at p1; exact p1⟩⟩
theorem dt_w (h : DW X ca W e ta) : DT X ca W e ta := h.pt
theorem dt_not (ha : DT X ca W a ta) : DT X ca W (.UnaryOp .Not a pos) (tNotM ta) := PT.imp (pt_not ha) fun σ H Q ⟨L, env, s, S, e, p⟩ =>
  ⟨L, env, s, S, e, p.bind.imp fun v H1 ⟨L1, s1, d, k1, S1, r1, p1⟩ => by
    subst r1
    exact p1 L1 _ H1 Keep.refl S1 rfl⟩
/-- as values -/
def eAnd (ma mb : EM) : EM := fun env s => (ma env s).bind fun d s => match d with | .bl true => mb env s | .bl false => .ok (.bl false) s | _ => .bad
def eOr (ma mb : EM) : EM := fun env s => (ma env s).bind fun d s => match d with | .bl true => .ok (.bl true) s | .bl false => mb env s | _ => .bad
def eNot (ma : EM) : EM := fun env s => (ma env s).bind fun d s => match d with | .bl b => .ok (.bl (!b)) s | _ => .bad
theorem de_one {op} (h : DE X ca W a ma) : DE X ca W (.BoolOp op [a] pos) ma := pe_one h
theorem de_and (ha : DE X ca W a ma) (hb : DE X ca W (.BoolOp .And (b :: rest) pos) mb) : DE X ca W (.BoolOp .And (a :: b :: rest) pos) (eAnd ma mb) := PE.imp (pe_and ha hb) fun σ H Q ⟨L, env, s, S, e, p⟩ =>
  ⟨L, env, s, S, e, p.bind.imp fun v H1 ⟨L1, s1, d, k1, S1, r1, p1⟩ => by
    split at p1
    · simp only [RD] at r1
      exact ⟨true, r1, iteT ⟨L1, env, s1, S1, e.mono k1.mono, p1⟩⟩
    · simp only [RD] at r1
      exact ⟨false, r1, iteF (p1 L1 _ H1 Keep.refl S1 rfl)⟩
    · exact p1.elim⟩
theorem de_or (ha : DE X ca W a ma) (hb : DE X ca W (.BoolOp .Or (b :: rest) pos) mb) : DE X ca W (.BoolOp .Or (a :: b :: rest) pos) (eOr ma mb) := PE.imp (pe_or ha hb) fun σ H Q ⟨L, env, s, S, e, p⟩ =>
  ⟨L, env, s, S, e, p.bind.imp fun v H1 ⟨L1, s1, d, k1, S1, r1, p1⟩ => by
    split at p1
    · simp only [RD] at r1
      exact ⟨true, r1, iteT (p1 L1 _ H1 Keep.refl S1 rfl)⟩
    · simp only [RD] at r1
      exact ⟨false, r1, iteF ⟨L1, env, s1, S1, e.mono k1.mono, p1⟩⟩
    · exact p1.elim⟩
theorem de_not (ha : DE X ca W a ma) : DE X ca W (.UnaryOp .Not a pos) (eNot ma) := PE.imp (pe_not ha) fun σ H Q ⟨L, env, s, S, e, p⟩ =>
  ⟨L, env, s, S, e, p.bind.imp fun v H1 ⟨L1, s1, d, k1, S1, r1, p1⟩ => by
    split at p1
    · simp only [RD] at r1
      exact ⟨_, r1, p1 L1 _ H1 Keep.refl S1 rfl⟩
    · exact p1.elim⟩
def eIf (t : TM) (ma mb : EM) : EM := fun env s => (t env s).bind fun b s => if b = true then ma env s else mb env s
theorem de_if (hc : DT X ca W c ta) (ha : DE X ca W a ma) (hb : DE X ca W b mb) : DE X ca W (.IfExp c a b pos) (eIf ta ma mb) := PE.imp (pe_ifExp hc ha hb) fun σ H Q ⟨L, env, s, S, e, p⟩ =>
  ⟨L, env, s, S, e, p.bind.imp fun v H1 ⟨L1, s1, d, k1, S1, r1, p1⟩ => by
    subst r1
    cases d with
    | true => exact iteT ⟨L1, env, s1, S1, e.mono k1.mono, by rw [if_pos rfl] at p1; exact p1⟩
    | false => exact iteF ⟨L1, env, s1, S1, e.mono k1.mono, by rw [if_neg Bool.false_ne_true] at p1; exact p1⟩⟩
end
/-- minus -/
def eNeg (ma : EM) : EM := fun env s => (ma env s).bind fun d s => match d with | .int i => .ok (.int (-i)) s | _ => .bad
theorem de_neg (ha : DE X ca W a ma) : DE X ca W (.UnaryOp .USub a pos) (eNeg ma) := PE.imp (pe_un un_neg ha) fun σ H Q ⟨L, env, s, S, e, p⟩ =>
  ⟨L, env, s, S, e, p.bind.imp fun v H1 ⟨L1, s1, d, k1, S1, r1, p1⟩ => by
    split at p1
    · simp only [RD] at r1
      exact ⟨_, r1, p1 L1 _ H1 Keep.refl S1 rfl⟩
    · exact p1.elim⟩

/-! ### calls of built-ins -/
def ImpC (K : PySem.W.Frag) (ca : Nat → Addr) (f : List D → Store → R D) (r : List V → Hp → VK → Prop) : Prop := ∀ (L : Lv) (H : Hp) (s : Store) (xs : List D) (vs : List V) (Q : VK) (E : Nat → Hp → Prop),
  SR K ca L s H → RDs K L H xs vs → post K ca (RD K) L H (f xs s) Q E → r vs H Q
def eCall (f : List D → Store → R D) (ms : AM) : EM := fun env s => (ms env s).bind fun ds s => f ds s
theorem tCB_of {f : List D → Store → R D} {r : List V → Hp → VK → Prop} {ms : AM} (hi : ImpC X.K ca f r) : ∀ σ H Q, tE X.K ca W (eCall f ms) σ H Q → tCB r (tA X.K ca W ms) σ H Q := fun σ H Q ⟨L, env, s, S, e, p⟩ =>
  ⟨L, env, s, S, e, p.bind.imp fun vs H1 ⟨L1, s1, ds, k1, S1, r1, p1⟩ => hi L1 H1 s1 ds vs Q _ S1 r1 p1⟩
section
variable {id T : String} {r : List V → Hp → VK → Prop} {f : List D → Store → R D} {ms : AM} {x : Str} {p : Pos}
theorem de_callB (hc : CallR X (.builtin id) r) (hi : ImpC X.K ca f r) (hg : Gl X x) (hm : X.mg x = none) (hv : bootBuiltins x = some (.builtin id)) (ha : DA X ca W (e :: es) ms) (hn : x ≠ "__name__" := by decide) (hdb : (x == ("__debug__" : Str)) = false := by decide)
    (he : starEach (e :: es) X.env = (false, eval e X.env) :: starEach es X.env := by rfl) (hpl : (backTo pos (starEach es X.env)).any (·.1) = false := by rfl) : DE X ca W (.Call (.Name x p) (e :: es) [] pos) (eCall f ms) :=
  PE.imp (pe_callB hc hg hm hv ha hn hdb he hpl) (tCB_of hi)
theorem de_callTy (hc : CallR X (.type T) r) (hi : ImpC X.K ca f r) (hg : Gl X x) (hm : X.mg x = none) (hv : bootBuiltins x = some (.type T)) (ha : DA X ca W (e :: es) ms) (hn : x ≠ "__name__" := by decide) (hdb : (x == ("__debug__" : Str)) = false := by decide)
    (he : starEach (e :: es) X.env = (false, eval e X.env) :: starEach es X.env := by rfl) (hpl : (backTo pos (starEach es X.env)).any (·.1) = false := by rfl) : DE X ca W (.Call (.Name x p) (e :: es) [] pos) (eCall f ms) :=
  PE.imp (pe_callTy hc hg hm hv ha hn hdb he hpl) (tCB_of hi)
end
def lenD : List D → Store → R D := fun xs s => match xs with
  | [.str z] => if z.length ≤ LINE then .ok (.int z.length) s else .bad
  | [.tup xs] => .ok (.int xs.length) s
  | [x] => match rdS s x with | some xs => .ok (.int xs.length) s | none => .bad
  | _ => .bad
theorem RDs.one {K : PySem.W.Frag} {L : Lv} {H : Hp} {x : D} {vs : List V} (h : RDs K L H [x] vs) : ∃ v, vs = [v] ∧ RD K L H x v := by
  simp only [RDs] at h
  obtain ⟨v, ws, rfl, r, rfl⟩ := h
  exact ⟨v, rfl, r⟩
theorem RDs.two {K : PySem.W.Frag} {L : Lv} {H : Hp} {x y : D} {vs : List V} (h : RDs K L H [x, y] vs) : ∃ v w, vs = [v, w] ∧ RD K L H x v ∧ RD K L H y w := by
  simp only [RDs] at h
  obtain ⟨v, ws, rfl, r, w, us, rfl, r2, rfl⟩ := h
  exact ⟨v, w, rfl, r, r2⟩
theorem imp_len : ImpC X.K ca lenD (fun xs H Q => ∃ x n, xs = [x] ∧ LenV X.K x H n ∧ Q (.int n) H) := by
  intro L H s xs vs Q E S h p
  unfold lenD at p
  split at p
  · split at p
    · rename_i z hz
      obtain ⟨v, rfl, r⟩ := h.one
      simp only [RD] at r
      subst r
      exact ⟨_, z.length, rfl, ⟨by rw [line_eq]; exact hz, rfl⟩, p L _ H Keep.refl S rfl⟩
    · exact p.elim
  · rename_i xs
    obtain ⟨v, rfl, r⟩ := h.one
    simp only [RD] at r
    obtain ⟨a, vs, rfl, f, rs⟩ := r
    exact ⟨_, xs.length, rfl, .inr ⟨vs, f.sq, rs.length⟩, p L _ H Keep.refl S rfl⟩
  · split at p
    · rename_i xs ex
      obtain ⟨v, rfl, r⟩ := h.one
      obtain ⟨a, vs, rfl, f, rs⟩ := rdS_ok S r ex
      exact ⟨_, xs.length, rfl, .inl ⟨vs, f, rs.length⟩, p L _ H Keep.refl S rfl⟩
    · exact p.elim
  · exact p.elim
def listD : List D → Store → R D := fun xs s => match xs with
  | [.tup xs] => .ok (.lst xs) s
  | [x] => match rdS s x with | some xs => .ok (.lst xs) s | none => .bad
  | _ => .bad
theorem imp_list : ImpC X.K ca listD (fun xs H Q => ∃ p ys, xs = [.ref p] ∧ (SqL X.K H p ys ∨ SqT X.K H p ys) ∧ ∀ l, H l = none → Q (.ref l) (upd H l (.lst ys))) := by
  intro L H s xs vs Q E S h p
  unfold listD at p
  split at p
  · obtain ⟨v, rfl, r⟩ := h.one
    simp only [RD] at r
    obtain ⟨a, vs, rfl, f, rs⟩ := r
    exact ⟨a, vs, rfl, .inr f.sq, new_lst S rs p⟩
  · split at p
    · rename_i ex
      obtain ⟨v, rfl, r⟩ := h.one
      obtain ⟨a, vs, rfl, f, rs⟩ := rdS_ok S r ex
      exact ⟨a, vs, rfl, .inl f, new_lst S rs p⟩
    · exact p.elim
  · exact p.elim
def tupleD : List D → Store → R D := fun xs s => match xs with
  | [.tup xs] => .ok (.tup xs) s
  | [x] => match rdS s x with | some xs => .ok (.tup xs) s | none => .bad
  | _ => .bad
theorem imp_tuple : ImpC X.K ca tupleD (fun xs H Q => ∃ p ys, xs = [.ref p] ∧ ((SqL X.K H p ys ∧ ∀ l, H l = none → Q (.ref l) (upd H l (.tup ys))) ∨ (SqT X.K H p ys ∧ Q (.ref p) H))) := by
  intro L H s xs vs Q E S h p
  unfold tupleD at p
  split at p
  · obtain ⟨v, rfl, r⟩ := h.one
    have r' := r
    simp only [RD] at r
    obtain ⟨a, vs, rfl, f, rs⟩ := r
    exact ⟨a, vs, rfl, .inr ⟨f.sq, p L _ H Keep.refl S r'⟩⟩
  · split at p
    · rename_i ex
      obtain ⟨v, rfl, r⟩ := h.one
      obtain ⟨a, vs, rfl, f, rs⟩ := rdS_ok S r ex
      exact ⟨a, vs, rfl, .inl ⟨f, new_tup S rs p⟩⟩
    · exact p.elim
  · exact p.elim
def bools : List D → Option (List Bool)
  | [] => some []
  | .bl b :: r => (bools r).map (b :: ·)
  | _ => none
theorem bools_ok {K : PySem.W.Frag} {L : Lv} {H : Hp} : ∀ {ds : List D} {vs : List V} {bs : List Bool}, bools ds = some bs → RDs K L H ds vs → vs = bs.map V.bl
  | [], vs, bs, e, r => by simp only [bools] at e; cases e; simp only [RDs] at r; subst r; rfl
  | d :: ds, vs, bs, e, r => by
    cases d with
    | bl b =>
      simp only [bools] at e
      cases q : bools ds with
      | none => rw [q] at e; cases e
      | some cs =>
        rw [q] at e; cases e
        simp only [RDs] at r
        obtain ⟨w, ws, rfl, r1, r2⟩ := r
        simp only [RD] at r1
        subst r1
        rw [bools_ok q r2]; rfl
    | _ => cases e
def intsD : List D → Option (List Int)
  | [] => some []
  | .int b :: r => (intsD r).map (b :: ·)
  | _ => none
theorem intsD_ok {K : PySem.W.Frag} {L : Lv} {H : Hp} : ∀ {ds : List D} {vs : List V} {bs : List Int}, intsD ds = some bs → RDs K L H ds vs → vs = bs.map V.int
  | [], vs, bs, e, r => by simp only [intsD] at e; cases e; simp only [RDs] at r; subst r; rfl
  | d :: ds, vs, bs, e, r => by
    cases d with
    | int b =>
      simp only [intsD] at e
      cases q : intsD ds with
      | none => rw [q] at e; cases e
      | some cs =>
        rw [q] at e; cases e
        simp only [RDs] at r
        obtain ⟨w, ws, rfl, r1, r2⟩ := r
        simp only [RD] at r1
        subst r1
        rw [intsD_ok q r2]; rfl
    | _ => cases e
def allD : List D → Store → R D := fun xs s => match xs with
  | [x] => match rdS s x with | some xs => (match bools xs with | some bs => .ok (.bl (bs.all id)) s | none => .bad) | none => .bad
  | _ => .bad
def anyD : List D → Store → R D := fun xs s => match xs with
  | [x] => match rdS s x with | some xs => (match bools xs with | some bs => .ok (.bl (bs.any id)) s | none => .bad) | none => .bad
  | _ => .bad
def sumD : List D → Store → R D := fun xs s => match xs with
  | [x] => match rdS s x with | some xs => (match intsD xs with | some bs => .ok (.int bs.sum) s | none => .bad) | none => .bad
  | _ => .bad
theorem imp_all : ImpC X.K ca allD (rAll X.K) := by
  intro L H s xs vs Q E S h p
  unfold allD at p
  split at p
  · split at p
    · rename_i ex
      split at p
      · rename_i bs eb
        obtain ⟨v, rfl, r⟩ := h.one
        obtain ⟨a, vs, rfl, f, rs⟩ := rdS_ok S r ex
        have := bools_ok eb rs
        subst this
        exact ⟨a, bs, rfl, f, p L _ H Keep.refl S rfl⟩
      · exact p.elim
    · exact p.elim
  · exact p.elim
theorem imp_any : ImpC X.K ca anyD (rAny X.K) := by
  intro L H s xs vs Q E S h p
  unfold anyD at p
  split at p
  · split at p
    · rename_i ex
      split at p
      · rename_i bs eb
        obtain ⟨v, rfl, r⟩ := h.one
        obtain ⟨a, vs, rfl, f, rs⟩ := rdS_ok S r ex
        have := bools_ok eb rs
        subst this
        exact ⟨a, bs, rfl, f, p L _ H Keep.refl S rfl⟩
      · exact p.elim
    · exact p.elim
  · exact p.elim
theorem imp_sum : ImpC X.K ca sumD (rSum X.K) := by
  intro L H s xs vs Q E S h p
  unfold sumD at p
  split at p
  · split at p
    · rename_i ex
      split at p
      · rename_i bs eb
        obtain ⟨v, rfl, r⟩ := h.one
        obtain ⟨a, vs, rfl, f, rs⟩ := rdS_ok S r ex
        have := intsD_ok eb rs
        subst this
        exact ⟨a, bs, rfl, f, p L _ H Keep.refl S rfl⟩
      · exact p.elim
    · exact p.elim
  · exact p.elim
def maxD : List D → Store → R D := fun xs s => match xs with | [.int i, .int j] => .ok (.int (if j > i then j else i)) s | _ => .bad
def minD : List D → Store → R D := fun xs s => match xs with | [.int i, .int j] => .ok (.int (if j < i then j else i)) s | _ => .bad
def intD : List D → Store → R D := fun xs s => match xs with | [.int i] => .ok (.int i) s | [.bl b] => .ok (.int (if b then 1 else 0)) s | _ => .bad
def absD : List D → Store → R D := fun xs s => match xs with | [.int i] => .ok (.int (if i < 0 then -i else i)) s | _ => .bad
theorem imp_max : ImpC X.K ca maxD (fun xs H Q => ∃ i j, xs = [.int i, .int j] ∧ Q (.int (if j > i then j else i)) H) := by
  intro L H s xs vs Q E S h p
  unfold maxD at p
  split at p
  · obtain ⟨v, w, rfl, r, r2⟩ := h.two
    simp only [RD] at r r2
    subst r; subst r2
    exact ⟨_, _, rfl, p L _ H Keep.refl S rfl⟩
  · exact p.elim
theorem imp_min : ImpC X.K ca minD (fun xs H Q => ∃ i j, xs = [.int i, .int j] ∧ Q (.int (if j < i then j else i)) H) := by
  intro L H s xs vs Q E S h p
  unfold minD at p
  split at p
  · obtain ⟨v, w, rfl, r, r2⟩ := h.two
    simp only [RD] at r r2
    subst r; subst r2
    exact ⟨_, _, rfl, p L _ H Keep.refl S rfl⟩
  · exact p.elim
theorem imp_int : ImpC X.K ca intD (fun xs H Q => (∃ i, xs = [.int i] ∧ Q (.int i) H) ∨ ∃ k, xs = [.bl k] ∧ Q (.int (if k then 1 else 0)) H) := by
  intro L H s xs vs Q E S h p
  unfold intD at p
  split at p
  · obtain ⟨v, rfl, r⟩ := h.one
    simp only [RD] at r
    subst r
    exact .inl ⟨_, rfl, p L _ H Keep.refl S rfl⟩
  · obtain ⟨v, rfl, r⟩ := h.one
    simp only [RD] at r
    subst r
    exact .inr ⟨_, rfl, p L _ H Keep.refl S rfl⟩
  · exact p.elim
theorem imp_abs : ImpC X.K ca absD (fun xs H Q => ∃ i, xs = [.int i] ∧ Q (.int (if i < 0 then -i else i)) H) := by
  intro L H s xs vs Q E S h p
  unfold absD at p
  split at p
  · obtain ⟨v, rfl, r⟩ := h.one
    simp only [RD] at r
    subst r
    exact ⟨_, rfl, p L _ H Keep.refl S rfl⟩
  · exact p.elim
end
end DE
/-! DE5: isinstance, methods of texts, calls of the text's defs, statements, a def by its body -/
namespace DE
open PySem PySem.Spec PyProof.Rows L2

/-! ### isinstance -/
def tyOf (s : Store) : D → Option String
  | .non => some "NoneType"
  | .bl _ => some "bool"
  | .int _ => some "int"
  | .str _ => some "str"
  | .tup _ => some "tuple"
  | .lst _ => some "list"
  | .dct _ _ => some "dict"
  | .ref l => match s[l]? with
    | some (.lst _) => some "list"
    | some (.dK _ _) => some "dict"
    | some (.dT _ _) => some "dict"
    | _ => none
  | .scr _ => some "list"
  | .exc _ _ => none
def isTy (a b : String) : Bool := a == b || (a == "bool" && b == "int")
def tys : List String := ["NoneType", "bool", "int", "str", "tuple", "list", "dict"]
theorem kit_tys : (tys.all fun a => tys.all fun b => decide (kitB a b = some (isTy a b))) = true := by decide +kernel
theorem kit_of {a b : String} (ha : a ∈ tys) (hb : b ∈ tys) : kitB a b = some (isTy a b) := of_decide_eq_true (List.all_eq_true.mp (List.all_eq_true.mp kit_tys a ha) b hb)
def isiD (n : String) (m : EM) : EM := fun env s => (m env s).bind fun d s => match tyOf s d with | some t => .ok (.bl (isTy t n)) s | none => .bad
section
variable {X : Cx} {ca : Nat → Addr} {W : WX} {e a b c : Expr} {es rest : List Expr} {m ma mb mc : EM} {ms : AM} {pos p p2 apos : Pos}
theorem ty_ok {K : PySem.W.Frag} {L : Lv} {H : Hp} {s : Store} (S : SR K ca L s H) {d : D} {v : V} {t : String} (r : RD K L H d v) (e : tyOf s d = some t) : TyX K H v (.type t) ∧ t ∈ tys := by
  cases d with
  | non => cases e; simp only [RD] at r; subst r; exact ⟨.base .non, by decide⟩
  | bl b => cases e; simp only [RD] at r; subst r; exact ⟨.base (.bl b), by decide⟩
  | int i => cases e; simp only [RD] at r; subst r; exact ⟨.base (.int i), by decide⟩
  | str x => cases e; simp only [RD] at r; subst r; exact ⟨.base (.str x), by decide⟩
  | tup xs =>
    cases e
    simp only [RD] at r
    obtain ⟨a, vs, rfl, f, _⟩ := r
    refine ⟨?_, by decide⟩
    rcases f with ⟨_, _, q | ⟨ob, q⟩⟩ | ⟨o, its, n, h1, h2, _⟩
    · exact .base (.tup q)
    · exact .fTuple q
    · exact .kTuple h1 h2
  | lst xs =>
    cases e
    simp only [RD] at r
    obtain ⟨a, vs, rfl, f, _⟩ := r
    exact ⟨.base (.lst f.2.2), by decide⟩
  | dct ks xs =>
    cases e
    simp only [RD] at r
    obtain ⟨a, vs, rfl, f, _⟩ := r
    exact ⟨.base (.dK f.2.2), by decide⟩
  | ref l =>
    simp only [RD] at r
    obtain ⟨a, rfl, ea⟩ := r
    obtain ⟨c, ec, k⟩ := S.at ea
    unfold tyOf at e
    simp only [ec] at e
    cases c with
    | lst ys => cases e; obtain ⟨vs, h1, h2⟩ := k; exact ⟨.base (.lst h1), by decide⟩
    | dK ks ys => cases e; obtain ⟨vs, h1, h2⟩ := k; exact ⟨.base (.dK h1), by decide⟩
    | dT ks ys => cases e; obtain ⟨vs, h1, h2⟩ := k; exact ⟨.base (.dT h1), by decide⟩
    | ins => cases e
  | scr ns =>
    cases e
    simp only [RD] at r
    obtain ⟨a, rfl, f⟩ := r
    refine ⟨?_, by decide⟩
    rcases f with ⟨_, _, q | ⟨ob, q⟩⟩ | ⟨o, its, n, h1, h2, _⟩
    · exact .base (.lst q)
    · exact .base (.frz q)
    · exact .kList h1 h2
  | exc => cases e
theorem de_isi {T : Str} {n : String} (hm : X.mg "isinstance" = none) (hT : X.mg T = none) (hv : bootBuiltins T = some (.type n)) (hn : n ∈ tys) (he : DE X ca W e m) (hg : Gl X "isinstance" := by rfl) (hgT : Gl X T := by rfl) (hT0 : T ≠ "__name__" := by decide) (hTd : (T == ("__debug__" : Str)) = false := by decide)
    (h1 : starEach (.Name T p2 :: []) X.env = (false, eval (.Name T p2) X.env) :: starEach [] X.env := by rfl) (h2 : starEach (e :: [.Name T p2]) X.env = (false, eval e X.env) :: starEach [.Name T p2] X.env := by rfl) (hpl : (backTo pos (starEach [.Name T p2] X.env)).any (·.1) = false := by rfl) :
    DE X ca W (.Call (.Name "isinstance" p) [e, .Name T p2] [] pos) (isiD n m) :=
  PE.imp (pe_callB call_isi hg hm boot_isinstance (pa_cons he (pa_cons (pe_bltn (v := .ty n) hgT hT hv rfl hT0 hTd) pa_nil h1) h2) (by decide) (by decide) h2 hpl) fun σ H Q ⟨L, env, s, S, e, p⟩ =>
    ⟨L, env, s, S, e, p.bind.imp fun v H1 ⟨L1, s1, d, k1, S1, r1, p1⟩ => by
      split at p1
      · rename_i t et
        obtain ⟨ty, ht⟩ := ty_ok S1 r1 et
        exact ⟨v, .ty n, .type t, .type n, _, rfl, .ty n, ty, kit_ty (kit_of ht hn), p1 L1 _ H1 Keep.refl S1 rfl⟩
      · exact p1.elim⟩

/-! ### methods of texts -/
def strsD : List D → Option (List Str)
  | [] => some []
  | .str b :: r => (strsD r).map (b :: ·)
  | _ => none
theorem strsD_ok {K : PySem.W.Frag} {L : Lv} {H : Hp} : ∀ {ds : List D} {vs : List V} {bs : List Str}, strsD ds = some bs → RDs K L H ds vs → vs = bs.map V.str
  | [], vs, bs, e, r => by simp only [strsD] at e; cases e; simp only [RDs] at r; subst r; rfl
  | d :: ds, vs, bs, e, r => by
    cases d with
    | str b =>
      simp only [strsD] at e
      cases q : strsD ds with
      | none => rw [q] at e; cases e
      | some cs =>
        rw [q] at e; cases e
        simp only [RDs] at r
        obtain ⟨w, ws, rfl, r1, r2⟩ := r
        simp only [RD] at r1
        subst r1
        rw [strsD_ok q r2]; rfl
    | _ => cases e
/-- o.name(e), o a text -/
def eM1 (f : Str → D → Store → R D) (ma m : EM) : EM := fun env s => (ma env s).bind fun x s => match x with
  | .str z => (m env s).bind fun y s => f z y s
  | _ => .bad
def ImpS (K : PySem.W.Frag) (ca : Nat → Addr) (f : Str → D → Store → R D) (r : V → List V → Hp → VK → Prop) : Prop := ∀ (L : Lv) (H : Hp) (s : Store) (z : Str) (y : D) (u : V) (Q : VK) (E : Nat → Hp → Prop),
  SR K ca L s H → RD K L H y u → post K ca (RD K) L H (f z y s) Q E → r (.str z) [u] H Q
theorem tM1_of {f : Str → D → Store → R D} {r : V → List V → Hp → VK → Prop} (hi : ImpS X.K ca f r) : ∀ σ H Q, tE X.K ca W (eM1 f ma m) σ H Q → tM1 r (tE X.K ca W ma) (tE X.K ca W m) σ H Q := fun σ H Q ⟨L, env, s, S, e, p⟩ =>
  ⟨L, env, s, S, e, p.bind.imp fun v H1 ⟨L1, s1, d, k1, S1, r1, p1⟩ => by
    cases d with
    | str z =>
      simp only [RD] at r1
      subst r1
      exact ⟨⟨z, rfl⟩, L1, env, s1, S1, e.mono k1.mono, p1.bind.imp fun w H2 ⟨L2, s2, d2, k2, S2, r2, p2⟩ => hi L2 H2 s2 z d2 w Q _ S2 r2 p2⟩
    | _ => exact p1.elim⟩
def joinD : Str → D → Store → R D := fun a y s => match rdS s y with
  | some ys => match strsD ys with
    | some zs => if (zs.map (·.length)).sum + zs.length * a.length ≤ LINE then .ok (.str (Txt.join a zs)) s else .bad
    | none => .bad
  | none => .bad
theorem imp_join : ImpS X.K ca joinD (fun x xs H Q => ∃ a p, ∃ ys : List Str, x = .str a ∧ xs = [.ref p] ∧ (SqL X.K H p (ys.map V.str) ∨ SqT X.K H p (ys.map V.str)) ∧ (ys.map (·.length)).sum + ys.length * a.length ≤ 16777216 ∧ Q (.str (Txt.join a ys)) H) := by
  intro L H s z y u Q E S r p
  unfold joinD at p
  split at p
  · rename_i ys ey
    obtain ⟨q, vs, rfl, f, rs⟩ := rdS_ok S r ey
    split at p
    · rename_i zs ez
      split at p
      · rename_i hz
        have := strsD_ok ez rs
        subst this
        exact ⟨z, q, zs, rfl, rfl, .inl f, hz, p L _ H Keep.refl S rfl⟩
      · exact p.elim
    · exact p.elim
  · exact p.elim
theorem de_join (ho : DE X ca W a ma) (he : DE X ca W e m) (hs : starEach [e] X.env = [(false, eval e X.env)] := by rfl) (hbase : attributeBase a "join" X.env (eval a X.env) = eval a X.env := by rfl) (hline : (apos.endLine == pos.line) = true := by rfl) :
    DE X ca W (.Call (.Attribute a "join" apos) [e] [] pos) (eM1 joinD ma m) := PE.imp (pe_join ho he hs hbase hline) (tM1_of imp_join)
def countD : Str → D → Store → R D := fun a y s => match y with
  | .str b => .ok (.int (Txt.count a b)) s
  | _ => .bad
theorem imp_count : ImpS X.K ca countD (fun x xs H Q => ∃ a b, x = .str a ∧ xs = [.str b] ∧ Q (.int (Txt.count a b)) H) := by
  intro L H s z y u Q E S r p
  unfold countD at p
  split at p
  · simp only [RD] at r
    subst r
    exact ⟨_, _, rfl, rfl, p L _ H Keep.refl S rfl⟩
  · exact p.elim
theorem de_count (ho : DE X ca W a ma) (he : DE X ca W e m) (hs : starEach [e] X.env = [(false, eval e X.env)] := by rfl) (hbase : attributeBase a "count" X.env (eval a X.env) = eval a X.env := by rfl) (hline : (apos.endLine == pos.line) = true := by rfl) :
    DE X ca W (.Call (.Attribute a "count" apos) [e] [] pos) (eM1 countD ma m) := PE.imp (pe_m1 PySem.F.slot_str_count PySem.F.type_str_count mt_count ho he hs hbase hline) (tM1_of imp_count)

/-! ### calls of the text's defs -/
abbrev Fn := List D → Store → R D
/-- what a def promises: its function's result -/
def spOf (K : PySem.W.Frag) (ca : Nat → Addr) (n : Nat) (fn : Fn) : Sp := fun vs H Q E => ∃ L ds s, ds.length = n ∧ SR K ca L s H ∧ RDs K L H ds vs ∧ post K ca (RD K) L H (fn ds s) Q (fun c H' => E (.ref (ca c)) none H')
/-- .. with so many arguments -/
def ar (n : Nat) (fn : Fn) : Fn := fun ds s => if ds.length = n then fn ds s else .bad
theorem de_call {k n : Nat} {f : Addr} {fd : FuncData} {ps : List Str} {fn : Fn} {x : Str} (F : FnOk X.prog X.w X.K X.mg X.base (L2N.CX X.prog X.w) k f fd ps (spOf X.K ca n fn)) (hr : Room k X.A) (tk : L2N.Takes X W) (hm : X.mg x = some (.ref f)) (hk : PySem.W.keepIn X.K (.ref f) = true) (hb : Binds X.K fd ps [])
    (ha : DA X ca W (e :: es) ms) (hg : Gl X x := by rfl) (hdb : (x == ("__debug__" : Str)) = false := by decide) (he : starEach (e :: es) X.env = (false, eval e X.env) :: starEach es X.env := by rfl) (hpl : (backTo pos (starEach es X.env)).any (·.1) = false := by rfl) :
    DE X ca W (.Call (.Name x p) (e :: es) [] pos) (eCall (ar n fn) ms) :=
  PE.imp (pe_callS (E := WE W) F hr hg hm hk hb (L2N.passAt tk) ha hdb he hpl) fun σ H Q ⟨L, env, s, S, e, p⟩ =>
    ⟨L, env, s, S, e, p.bind.imp fun vs H1 ⟨L1, s1, ds, k1, S1, r1, p1⟩ => by
      unfold ar at p1
      split at p1
      · rename_i hn
        exact ⟨L1, ds, s1, hn, S1, r1, p1⟩
      · exact p1.elim⟩

/-! ### statements -/
inductive RS where
  | next (env : Env) (s : Store) | ret (d : D) (s : Store) | brk (env : Env) (s : Store) | cnt (env : Env) (s : Store) | exc (c : Nat) (s : Store) | bad
abbrev SM := Env → Store → RS
def R.bindS {α : Type} (r : R α) (k : α → Store → RS) : RS := match r with
  | .ok a s => k a s
  | .exc c s => .exc c s
  | .bad => .bad
@[simp] theorem R.bindS_ok {α : Type} (a : α) (s : Store) (k : α → Store → RS) : (R.ok a s).bindS k = k a s := rfl
@[simp] theorem R.bindS_exc {α : Type} (c : Nat) (s : Store) (k : α → Store → RS) : (R.exc c s : R α).bindS k = .exc c s := rfl
@[simp] theorem R.bindS_bad {α : Type} (k : α → Store → RS) : (R.bad : R α).bindS k = .bad := rfl
def RS.bind (r : RS) (k : SM) : RS := match r with
  | .next env s => k env s
  | r => r
@[simp] theorem RS.bind_next (env : Env) (s : Store) (k : SM) : (RS.next env s).bind k = k env s := rfl
@[simp] theorem RS.bind_ret (d : D) (s : Store) (k : SM) : (RS.ret d s).bind k = .ret d s := rfl
@[simp] theorem RS.bind_brk (env : Env) (s : Store) (k : SM) : (RS.brk env s).bind k = .brk env s := rfl
@[simp] theorem RS.bind_cnt (env : Env) (s : Store) (k : SM) : (RS.cnt env s).bind k = .cnt env s := rfl
@[simp] theorem RS.bind_exc (c : Nat) (s : Store) (k : SM) : (RS.exc c s).bind k = .exc c s := rfl
@[simp] theorem RS.bind_bad (k : SM) : RS.bad.bind k = .bad := rfl
def postS (K : PySem.W.Frag) (ca : Nat → Addr) (L : Lv) (H : Hp) (r : RS) (T : Ends) (E : Nat → Hp → Prop) : Prop := match r with
  | .next env s => ∀ L' σ' H', Keep L H L' H' → SR K ca L' s H' → ER K L' H' env σ' → T.nx σ' H'
  | .brk env s => ∀ L' σ' H', Keep L H L' H' → SR K ca L' s H' → ER K L' H' env σ' → T.bk σ' H'
  | .cnt env s => ∀ L' σ' H', Keep L H L' H' → SR K ca L' s H' → ER K L' H' env σ' → T.ct σ' H'
  | .ret d s => ∀ L' v H', Keep L H L' H' → SR K ca L' s H' → RD K L' H' d v → T.rt v H'
  | .exc c s => ∀ L' H', Keep L H L' H' → SR K ca L' s H' → E c H'
  | .bad => False
section
variable {K : PySem.W.Frag} {L L2 : Lv} {H H2 : Hp} {r : RS} {T T' : Ends} {E E' : Nat → Hp → Prop}
theorem postS.from (p : postS K ca L H r T E) (k : Keep L H L2 H2) : postS K ca L2 H2 r T E := by
  cases r with
  | next env s => exact fun L' b H' k' => p L' b H' (k.trans k')
  | brk env s => exact fun L' b H' k' => p L' b H' (k.trans k')
  | cnt env s => exact fun L' b H' k' => p L' b H' (k.trans k')
  | ret env s => exact fun L' b H' k' => p L' b H' (k.trans k')
  | exc c s => exact fun L' H' k' => p L' H' (k.trans k')
  | bad => exact p
theorem postS.impE (p : postS K ca L H r T E) (h : ∀ c H', E c H' → E' c H') : postS K ca L H r T E' := by
  cases r with
  | exc c s => exact fun L' H' k' S => h _ _ (p L' H' k' S)
  | next env s => exact p
  | brk env s => exact p
  | cnt env s => exact p
  | ret env s => exact p
  | bad => exact p
theorem postS.ofR {α β : Type} {RA : Lv → Hp → α → β → Prop} {q : R α} {k : α → Store → RS} (p : postS K ca L H (q.bindS k) T E) :
    post K ca RA L H q (fun b H1 => ∃ L1 s1 a, Keep L H L1 H1 ∧ SR K ca L1 s1 H1 ∧ RA L1 H1 a b ∧ postS K ca L1 H1 (k a s1) T E) E := by
  cases q with
  | ok a s => exact fun L' b H' k' S q => ⟨L', s, a, k', S, q, p.from k'⟩
  | exc c s => exact p
  | bad => exact p
end
def tS (K : PySem.W.Frag) (ca : Nat → Addr) (W : WX) (m : SM) : TS := fun T σ H => ∃ L env s, SR K ca L s H ∧ ER K L H env σ ∧ postS K ca L H (m env s) T (wE ca W σ)
def DS (X : Cx) (ca : Nat → Addr) (W : WX) (st : Stmt) (m : SM) : Prop := PS X st (tS X.K ca W m)
def DSs (X : Cx) (ca : Nat → Addr) (W : WX) (st : List Stmt) (m : SM) : Prop := PSs X st (tS X.K ca W m)
def sPass : SM := fun env s => .next env s
def sBad : SM := fun _ _ => .bad
def sRet (m : EM) : SM := fun env s => (m env s).bindS fun d s => .ret d s
def sRetN : SM := fun _ s => .ret .non s
def sExpr (m : EM) : SM := fun env s => (m env s).bindS fun _ s => .next env s
def sSet (i : Nat) (m : EM) : SM := fun env s => (m env s).bindS fun d s => .next (env.set i (some d)) s
def sSeq (m n : SM) : SM := fun env s => (m env s).bind n
def sIf (t : TM) (m n : SM) : SM := fun env s => (t env s).bindS fun b s => if b = true then m env s else n env s
/-- the wish looks at no slots -/
def Wid (W : WX) : Prop := ∀ c d σ σ' H, W c d σ H → W c d σ' H
variable {st : Stmt} {sts : List Stmt} {sm sn : SM} {tc : TM}
theorem ds_pass : DS X ca W (.Pass pos) sPass := PS.imp ps_pass fun T σ H ⟨L, env, s, S, e, p⟩ => p L σ H Keep.refl S e
theorem ds_break : DS X ca W (.Break pos) (fun env s => .brk env s) := PS.imp ps_break fun T σ H ⟨L, env, s, S, e, p⟩ => p L σ H Keep.refl S e
theorem ds_never : DS X ca W st sBad := ⟨fun _ _ _ _ _ _ ⟨_, _, _, _, _, p⟩ => p.elim⟩
theorem dss_never : DSs X ca W sts sBad := ⟨fun _ _ _ _ _ _ ⟨_, _, _, _, _, p⟩ => p.elim⟩
theorem ds_ret (h : DE X ca W e m) : DS X ca W (.Return (some e) pos) (sRet m) := PS.imp (ps_ret h) fun T σ H ⟨L, env, s, S, e, p⟩ =>
  ⟨L, env, s, S, e, p.ofR.imp fun v H1 ⟨L1, s1, d, k1, S1, r1, p1⟩ => p1 L1 v H1 Keep.refl S1 r1⟩
theorem ds_retN : DS X ca W (.Return none pos) sRetN := PS.imp ps_retN fun T σ H ⟨L, env, s, S, e, p⟩ => p L _ H Keep.refl S rfl
theorem ds_expr (h : DE X ca W e m) (hs : swapsWith e none pos.line X.env = pure false := by rfl) : DS X ca W (.Expr e pos) (sExpr m) := PS.imp (ps_expr h hs) fun T σ H ⟨L, env, s, S, e, p⟩ =>
  ⟨L, env, s, S, e, p.ofR.imp fun v H1 ⟨L1, s1, d, k1, S1, r1, p1⟩ => p1 L1 σ H1 Keep.refl S1 (e.mono k1.mono)⟩
theorem ds_set (i : Nat) {x : Str} {pos' : Pos} (hN : X.N.Nodup) (h : DE X ca W e m) (hi : X.N[i]? = some x := by rfl) (hx : Loc X.env.scope x := by first | exact Or.inl rfl | exact Or.inr rfl) (hs : swapsWith e (some (.Name x pos')) pos.line X.env = pure false := by rfl)
    (hf : X.fn x = true ∨ X.env.scope.names.lookup x = some .local := by first | exact .inl rfl | exact .inr rfl | assumption) : DS X ca W (.Assign [.Name x pos'] e pos) (sSet i m) := PS.imp (ps_set hN hi hx h hs hf) fun T σ H ⟨L, env, s, S, e, p⟩ =>
  ⟨L, env, s, S, e, p.ofR.imp fun v H1 ⟨L1, s1, d, k1, S1, r1, p1⟩ => p1 L1 _ H1 Keep.refl S1 ((e.mono k1.mono).set r1)⟩
theorem ds_if {a b : List Stmt} (hc : DT X ca W c tc) (ha : DSs X ca W a sm) (hb : DSs X ca W b sn) : DS X ca W (.If c a b pos) (sIf tc sm sn) := PS.imp (ps_if hc ha hb) fun T σ H ⟨L, env, s, S, e, p⟩ =>
  ⟨L, env, s, S, e, p.ofR.imp fun v H1 ⟨L1, s1, d, k1, S1, r1, p1⟩ => by
    subst r1
    cases d with
    | true => exact iteT ⟨L1, env, s1, S1, e.mono k1.mono, by rw [if_pos rfl] at p1; exact p1⟩
    | false => exact iteF ⟨L1, env, s1, S1, e.mono k1.mono, by rw [if_neg Bool.false_ne_true] at p1; exact p1⟩⟩
theorem dss_nil : DSs X ca W [] sPass := PSs.imp pss_nil fun T σ H ⟨L, env, s, S, e, p⟩ => p L σ H Keep.refl S e
theorem dss_one (h : DS X ca W st sm) : DSs X ca W [st] sm := pss_one h
theorem dss_cons (hW : Wid W) (h : DS X ca W st sm) (hr : DSs X ca W sts sn) : DSs X ca W (st :: sts) (sSeq sm sn) := PSs.imp (pss_cons h hr) fun T σ H ⟨L, env, s, S, e, p⟩ =>
  ⟨L, env, s, S, e, by
    unfold sSeq at p
    cases q : sm env s with
    | next env' s' =>
      rw [q] at p
      exact fun L' σ' H' k S' e' => ⟨L', env', s', S', e', (p.from k).impE fun c H' h => hW _ _ _ _ _ h⟩
    | brk env s => rw [q] at p; exact p
    | cnt env s => rw [q] at p; exact p
    | ret env s => rw [q] at p; exact p
    | exc c s => rw [q] at p; exact p
    | bad => rw [q] at p; exact p⟩

/-! ### a def by its body -/
def env0 (n : Nat) (ds : List D) : Env := ds.map some ++ List.replicate (n - ds.length) none
def bodyF (n : Nat) (m : SM) : Fn := fun ds s => match m (env0 n ds) s with
  | .next _ s => .ok .non s
  | .ret d s => .ok d s
  | .exc c s => .exc c s
  | _ => .bad
theorem er_start {K : PySem.W.Frag} {L : Lv} {H : Hp} {N : List Str} {ds : List D} {vs : List V} (r : RDs K L H ds vs) : ER K L H (env0 N.length ds) (L2.start N vs) := by
  unfold env0 L2.start
  refine ⟨by simp [r.length], fun i d h => ?_⟩
  by_cases hi : i < ds.length
  · rw [List.getElem?_append_left (by simpa using hi), List.getElem?_map] at h
    cases q : ds[i]? with
    | none => rw [q] at h; cases h
    | some d' =>
      rw [q] at h
      simp only [Option.map_some, Option.some.injEq] at h
      subst h
      obtain ⟨v, hv, rv⟩ := r.get q
      exact ⟨v, by rw [List.getElem?_append_left (by simpa [← r.length] using hi), List.getElem?_map, hv]; rfl, rv⟩
  · rw [List.getElem?_append_right (by simpa using hi), List.getElem?_replicate] at h
    split at h <;> cases h
section
variable {P : Program} {w : World} {K : PySem.W.Frag} {mg : Str → Option Value} {base : Heap}
theorem fn_ok {x qual : Str} {st : Stmt} {f : Addr} {fd : FuncData} {N ps : List Str} {k : Nat} (n j : Nat) (m : SM) (hn : N.length = n) (hj : ps.length = j) (F : Fun K x qual st f fd) (S : FnScope N ps (defScope st))
    (hbody : ∀ (X : Cx) (E : XK), (∃ cdv A outer s H, X = cxOf (L2N.CX P w) P w K mg base N qual (defScope st) f cdv A outer s H E) → Room k X.A → DSs X ca (fun cls d _ H => E cls d H) (defBody st) m) :
    FnOk P w K mg base (L2N.CX P w) (k + 1) f fd ps (spOf K ca j (bodyF n m)) := by
  subst hn; subst hj
  obtain ⟨oc, od, kV, doc, pm, an, cdv, ct, osl, rfl, lk, hcd⟩ := F.ex
  refine fn_of lk hcd S (fun vs H Q E h => ?_) (fun A outer s H vs Q E hr h => ?_)
  · obtain ⟨L, ds, s, hn, _, r, _⟩ := h
    rw [← r.length, hn]
  · obtain ⟨L, ds, s', hn, SS, r, p⟩ := h
    refine ⟨_, hbody _ E ⟨cdv, A, outer, s, H, rfl⟩ hr, L, env0 N.length ds, s', SS, er_start r, ?_⟩
    unfold bodyF at p
    cases q : m (env0 N.length ds) s' with
    | next env' s1 =>
      rw [q] at p
      exact fun L' σ' H' k' S' _ => p L' .non H' k' S' rfl
    | brk env s => rw [q] at p; exact p.elim
    | cnt env s => rw [q] at p; exact p.elim
    | ret d s => rw [q] at p; exact p
    | exc c s => rw [q] at p; exact p
    | bad => rw [q] at p; exact p.elim
end
end
end DE
/-! DE6: targets, what is walked, for, while, comprehensions -/
namespace DE
open PySem PySem.Spec PyProof.Rows L2
section
variable {X : Cx} {ca : Nat → Addr} {W : WX} {e a b c tg iter elt : Expr} {es rest : List Expr} {m ma mb mc : EM} {ms : AM} {pos p p2 apos : Pos} {st : Stmt} {sts body : List Stmt} {sm sn : SM} {tc : TM}

/-! ### targets -/
abbrev GM := D → Env → Store → R Env
abbrev GMs := List D → Env → Store → R Env
def tG (K : PySem.W.Frag) (ca : Nat → Addr) (W : WX) (gm : GM) : TG := fun v σ H Q => ∃ L env s d, SR K ca L s H ∧ ER K L H env σ ∧ RD K L H d v ∧ post K ca (fun L H env σ => ER K L H env σ) L H (gm d env s) (fun σ' H' => Q σ' H') (wE ca W σ)
def tGs (K : PySem.W.Frag) (ca : Nat → Addr) (W : WX) (gm : GMs) : TGs := fun vs σ H Q => ∃ L env s ds, SR K ca L s H ∧ ER K L H env σ ∧ RDs K L H ds vs ∧ post K ca (fun L H env σ => ER K L H env σ) L H (gm ds env s) (fun σ' H' => Q σ' H') (wE ca W σ)
def DG (X : Cx) (ca : Nat → Addr) (W : WX) (e : Expr) (gm : GM) : Prop := PG X e (tG X.K ca W gm)
def DGs (X : Cx) (ca : Nat → Addr) (W : WX) (es : List Expr) (gm : GMs) : Prop := PGs X es (tGs X.K ca W gm)
def gVar (i : Nat) : GM := fun d env s => .ok (env.set i (some d)) s
def gNone : GMs := fun ds env s => match ds with | [] => .ok env s | _ => .bad
def gMore (g : GM) (gs : GMs) : GMs := fun ds env s => match ds with | d :: r => (g d env s).bind (gs r) | _ => .bad
def gTupD (n : Nat) (gs : GMs) : GM := fun d env s => match d with
  | .tup xs => if xs.length = n then gs xs env s else .bad
  | _ => .bad
theorem dg_name (i : Nat) {x : Str} {pos : Pos} (hN : X.N.Nodup) (hi : X.N[i]? = some x := by rfl) (hx : Loc X.env.scope x := by first | exact Or.inl rfl | exact Or.inr rfl) (hf : X.fn x = true ∨ X.env.scope.names.lookup x = some .local := by first | exact .inl rfl | exact .inr rfl | assumption) :
    DG X ca W (.Name x pos) (gVar i) := PG.imp (pg_name hN hi hx hf) fun v σ H Q ⟨L, env, s, d, S, e, r, p⟩ => p L _ H Keep.refl S (e.set r)
theorem dgs_nil : DGs X ca W [] gNone := PGs.imp pgs_nil fun v σ H Q ⟨L, env, s, ds, S, e, r, p⟩ => by
  unfold gNone at p
  split at p
  · simp only [RDs] at r
    exact ⟨r, p L _ H Keep.refl S e⟩
  · exact p.elim
theorem dgs_cons {g : GM} {gs : GMs} (hW : Wid W) (h1 : DG X ca W e g) (h2 : DGs X ca W es gs) (hs : (assignEach (e :: es) X.env).map (·.2) = assign e X.env :: (assignEach es X.env).map (·.2) := by rfl) : DGs X ca W (e :: es) (gMore g gs) :=
  PGs.imp (pgs_cons h1 h2 hs) fun v σ H Q ⟨L, env, s, ds, S, e, r, p⟩ => by
    unfold gMore at p
    split at p
    · rename_i d ds'
      simp only [RDs] at r
      obtain ⟨w, ws, rfl, r1, r2⟩ := r
      exact ⟨w, ws, rfl, L, env, s, d, S, e, r1, p.bind.imp fun σ1 H1 ⟨L1, s1, env1, k1, S1, e1, p1⟩ => ⟨L1, env1, s1, ds', S1, e1, RDs.mono k1.mono _ _ r2, p1.impE fun c H' h => hW _ _ _ _ _ h⟩⟩
    · exact p.elim
theorem dg_tup {n k : Nat} {gs : GMs} (hc : X.calm = true) (h : DGs X ca W es gs) (hn : (assignEach es X.env).length = n := by rfl) (hst : (assignEach es X.env).findIdx? (·.1) = none := by rfl) : DG X ca W (.Tuple es k pos) (gTupD n gs) :=
  PG.imp (pg_tup hc h hn hst) fun v σ H Q ⟨L, env, s, d, S, e, r, p⟩ => by
    unfold gTupD at p
    split at p
    · split at p
      · rename_i xs hl
        simp only [RD] at r
        obtain ⟨a, vs, rfl, f, rs⟩ := r
        exact ⟨a, vs, rfl, f.sq, by rw [← rs.length]; exact hl, L, env, s, xs, S, e, rs, p⟩
      · exact p.elim
    · exact p.elim
def sAsg (m : EM) (g : GM) : SM := fun env s => (m env s).bindS fun d s => (g d env s).bindS fun env s => .next env s
theorem ds_asg {gm : GM} (he : DE X ca W e m) (hg : DG X ca W tg gm) (hs : swapsWithSole [tg] e pos.line X.env = pure false := by rfl) (hw : swappedStores [tg] e X.env = pure none := by rfl) (h1 : (assignEach [tg] X.env).map (·.2) = [assign tg X.env] := by rfl) :
    DS X ca W (.Assign [tg] e pos) (sAsg m gm) := PS.imp (ps_asg he hg hs hw h1) fun T σ H ⟨L, env, s, S, e, p⟩ => ⟨L, env, s, S, e, p.ofR.imp fun v H1 ⟨L1, s1, d, k1, S1, r1, p1⟩ =>
      ⟨L1, env, s1, d, S1, e.mono k1.mono, r1, p1.ofR.imp fun σ2 H2 ⟨L2, s2, env2, k2, S2, e2, p2⟩ => p2 L2 σ2 H2 Keep.refl S2 e2⟩⟩
/-- a, b = x, y -/
def sPar (i j : Nat) (ms : AM) : SM := fun env s => (ms env s).bindS fun ds s => match ds with
  | [x, y] => .next ((env.set i (some x)).set j (some y)) s
  | _ => .bad
theorem ds_par (i j : Nat) {x y : Str} {px py pt : Pos} {kt k2 pt2} (hc : X.calm = true) (hN : X.N.Nodup) (ha : DA X ca W [a, b] ms) (hi : X.N[i]? = some x := by rfl) (hj : X.N[j]? = some y := by rfl) (hij : i ≠ j := by decide)
    (hx : X.env.scope.names.lookup x = some .local := by rfl) (hy : X.env.scope.names.lookup y = some .local := by rfl)
    (hw : swappedStores [.Tuple [.Name x px, .Name y py] kt pt] (.Tuple [a, b] k2 pt2) X.env = pure (some [x, y]) := by rfl)
    (hs : swapsWithSole [.Tuple [.Name x px, .Name y py] kt pt] (.Tuple [a, b] k2 pt2) pos.line X.env = pure false := by rfl) :
    DS X ca W (.Assign [.Tuple [.Name x px, .Name y py] kt pt] (.Tuple [a, b] k2 pt2) pos) (sPar i j ms) := PS.imp (ps_par hc hN hi hj hij hx hy ha hw hs) fun T σ H ⟨L, env, s, S, e, p⟩ =>
  ⟨L, env, s, S, e, p.ofR.imp fun vs H1 ⟨L1, s1, ds, k1, S1, r1, p1⟩ => by
    split at p1
    · obtain ⟨v, w, rfl, q1, q2⟩ := r1.two
      exact ⟨v, w, rfl, p1 L1 _ H1 Keep.refl S1 (((e.mono k1.mono).set q1).set q2)⟩
    · exact p1.elim⟩

/-! ### what is walked -/
/-- the items ds; where a live cell is walked: it stays -/
def Walks (K : PySem.W.Frag) (ca : Nat → Addr) (L : Lv) (H : Hp) (a : List D × Option Nat) (J : It) : Prop := ∀ (L2 : Lv) (s2 : Store) (H2 : Hp), Mono L H L2 H2 → SR K ca L2 s2 H2 → (∀ l, a.2 = some l → s2[l]? = some (.lst a.1)) → ∀ i : Nat,
  (∀ d, a.1[i]? = some d → J.go i H2 ∧ ∀ x H3, J.yld i H2 x H3 → Keep L2 H2 L2 H3 ∧ SR K ca L2 s2 H3 ∧ RD K L2 H3 d x) ∧ (a.1.length ≤ i → J.stop i H2)
abbrev IM := Env → Store → R (List D × Option Nat)
def tI (K : PySem.W.Frag) (ca : Nat → Addr) (W : WX) (im : IM) : TI := fun σ H Q => ∃ L env s, SR K ca L s H ∧ ER K L H env σ ∧ post K ca (fun L' H' a J => Walks K ca L' H' a J) L H (im env s) (fun J H' => Q J H') (wE ca W σ)
def DI (X : Cx) (ca : Nat → Addr) (W : WX) (tg e : Expr) (im : IM) : Prop := PI X tg e (tI X.K ca W im)
def signs (z : Str) : List D := z.cps.toList.map fun c => .str ⟨#[c]⟩
def iAny (K : PySem.W.Frag) (te : TE) : TI := fun σ H R => te σ H fun x H1 => (∃ a, x = .ref a ∧ (∃ xs, SqL K H1 a xs) ∧ R (Itl K a) H1) ∨ (∃ a, x = .ref a ∧ (∃ xs, SqT K H1 a xs) ∧ R (Itt K a) H1) ∨ ∃ z, x = .str z ∧ R (Its z) H1
theorem pi_any {te : TE} (he : PE X e te) : PI X tg e (iAny X.K te) := by
  refine ⟨fun pins s σ H R I h => ?_⟩
  refine thn (he.run pins s σ H _ I h) fun v s1 ⟨x, H1, I1, r1, q1⟩ => ?_
  rcases q1 with ⟨a, e, ⟨xs, hq⟩, q⟩ | ⟨a, e, ⟨xs, hq⟩, q⟩ | ⟨z, e, q⟩
  · subst e
    cases r1
    obtain ⟨its, rv, p, hz⟩ := I1.list hq
    refine wpAny_pyIter_list p.isList ?_
    refine ⟨s1.heap.objs.size, [s1.heap.objs.size], _, _, H1, rfl, I1.kept (t' := s1.toks) fun b o e => Heap.get?_push_of_some _ e, turn_list a _, ⟨_, Heap.get?_push_size _ rfl, rfl, rfl⟩, fun b hb => ?_, q⟩
    have e : b = s1.heap.objs.size := by simpa using hb
    subst e
    exact I1.fpOk (Nat.le_refl _) (I1.hok.fresh (Nat.le_refl _))
  · subst e
    cases r1
    obtain ⟨its, rv, p, hz⟩ := I1.tuple hq
    refine wpAny_pyIter_tuple (show s1.heap.IsTuple a its.toArray from p) ?_
    refine ⟨s1.heap.objs.size, [s1.heap.objs.size], _, _, H1, rfl, I1.kept (t' := s1.toks) fun b o e => Heap.get?_push_of_some _ e, turn_tuple a _, ⟨_, Heap.get?_push_size _ rfl, rfl, rfl⟩, fun b hb => ?_, q⟩
    have e : b = s1.heap.objs.size := by simpa using hb
    subst e
    exact I1.fpOk (Nat.le_refl _) (I1.hok.fresh (Nat.le_refl _))
  · subst e
    obtain ⟨t, rfl⟩ := r1
    cases ha : z.cps.all (· < 128)
    · exact wpAny_pyIter_wide ha (pi_one (tk := s1.toks) I1 _ (turn_str _ z t "str_iterator" (.inr rfl)) ⟨_, Heap.get?_push_size _ rfl, rfl, rfl⟩ q)
    · exact wpAny_pyIter_ascii ha (pi_one (tk := s1.toks) I1 _ (turn_str _ z t "str_ascii_iterator" (.inl rfl)) ⟨_, Heap.get?_push_size _ rfl, rfl, rfl⟩ q)
section
variable {K : PySem.W.Frag} {L : Lv} {H : Hp} {s : Store}
/-- all readings of one list are one -/
theorem vals_uniq {xs ys : List V} {us : List Value} (r : Vals xs us) (q : Vals ys us) : xs = ys := Vals.inj r q
def ROne (K : PySem.W.Frag) (H : Hp) : Prop := (∀ a xs ys, SqL K H a xs → SqL K H a ys → xs = ys) ∧ ∀ a xs ys, SqT K H a xs → SqT K H a ys → xs = ys
theorem walks_list {a : Addr} {ds : List D} {vs : List V} (f : FzL L H a vs) (rs : RDs K L H ds vs) : Walks K ca L H (ds, none) (Itl K a) := fun L2 s2 H2 k S g i => by
  have f2 := f.mono k
  have rs2 := RDs.mono k _ _ rs
  refine ⟨fun d ed => ?_, fun hl => ⟨vs, f2.sq, by rw [← rs.length]; exact hl⟩⟩
  obtain ⟨v, ev, rv⟩ := rs2.get ed
  refine ⟨⟨vs, v, f2.sq, ev⟩, fun x H3 ⟨e3, y⟩ => ?_⟩
  subst e3
  have := y vs f2.sq
  rw [ev] at this; cases this
  exact ⟨Keep.refl, S, rv⟩
theorem walks_tup {a : Addr} {ds : List D} {vs : List V} (f : FzT K L H a vs) (rs : RDs K L H ds vs) : Walks K ca L H (ds, none) (Itt K a) := fun L2 s2 H2 k S g i => by
  have f2 := f.mono k
  have rs2 := RDs.mono k _ _ rs
  refine ⟨fun d ed => ?_, fun hl => ⟨vs, f2.sq, by rw [← rs.length]; exact hl⟩⟩
  obtain ⟨v, ev, rv⟩ := rs2.get ed
  refine ⟨⟨vs, v, f2.sq, ev⟩, fun x H3 ⟨e3, y⟩ => ?_⟩
  subst e3
  have := y vs f2.sq
  rw [ev] at this; cases this
  exact ⟨Keep.refl, S, rv⟩
theorem walks_str (z : Str) : Walks K ca L H (signs z, none) (Its z) := fun L2 s2 H2 k S g i => by
  unfold signs
  refine ⟨fun d ed => ?_, fun hl => ?_⟩
  · rw [List.getElem?_map, Array.getElem?_toList] at ed
    cases q : z.cps[i]? with
    | none => rw [q] at ed; cases ed
    | some c =>
      rw [q] at ed
      have ed : D.str ⟨#[c]⟩ = d := by simpa using ed
      subst ed
      refine ⟨(Array.getElem?_eq_some_iff.mp q).1, fun x H3 ⟨e3, c', ec, ex⟩ => ?_⟩
      subst e3; subst ex
      rw [q] at ec; cases ec
      exact ⟨Keep.refl, S, rfl⟩
  · show z.cps.size ≤ i
    simpa using hl
theorem walks_live {l : Nat} {a : Addr} {ds : List D} (ea : L.rho[l]? = some a) : Walks K ca L H (ds, some l) (Itl K a) := fun L2 s2 H2 k S g i => by
  have e2 := prefix_get k.rho ea
  obtain ⟨vs, h1, rs⟩ := S.cell l a _ e2 (g l rfl)
  refine ⟨fun d ed => ?_, fun hl => ⟨vs, SqL.of h1, by rw [← rs.length]; exact hl⟩⟩
  obtain ⟨v, ev, rv⟩ := rs.get ed
  refine ⟨⟨vs, v, SqL.of h1, ev⟩, fun x H3 ⟨e3, y⟩ => ?_⟩
  subst e3
  have := y vs (SqL.of h1)
  rw [ev] at this; cases this
  exact ⟨Keep.refl, S, rv⟩
theorem walks_scr {a : Addr} {ns : List Int} (f : FzS K L H a (ns.map V.int)) : Walks K ca L H (ns.map D.int, none) (Itl K a) := fun L2 s2 H2 k S g i => by
  have f2 := f.mono k
  have rs2 : RDs K L2 H2 (ns.map D.int) (ns.map V.int) := rds_ints
  refine ⟨fun d ed => ?_, fun hl => ⟨_, f2.sq, by rw [← rs2.length]; exact hl⟩⟩
  obtain ⟨v, ev, rv⟩ := rs2.get ed
  refine ⟨⟨_, v, f2.sq, ev⟩, fun x H3 ⟨e3, y⟩ => ?_⟩
  subst e3
  have := y _ f2.sq
  rw [ev] at this; cases this
  exact ⟨Keep.refl, S, rv⟩
end
/-- walked: a list, a tuple, a text, a live list (not the script itself) -/
def itV' (m : EM) : IM := fun env s => (m env s).bind fun d s => match d with
  | .tup xs => .ok (xs, none) s
  | .lst xs => .ok (xs, none) s
  | .str z => .ok (signs z, none) s
  | .ref l => match s[l]? with
    | some (.lst xs) => .ok (xs, some l) s
    | _ => .bad
  | .scr ns => .ok (ns.map .int, none) s
  | _ => .bad
theorem di_any (h : DE X ca W e m) : DI X ca W tg e (itV' m) := PI.imp (pi_any h) fun σ H Q ⟨L, env, s, S, e, p⟩ =>
  ⟨L, env, s, S, e, p.bind.imp fun v H1 ⟨L1, s1, d, k1, S1, r1, p1⟩ => by
    split at p1
    · simp only [RD] at r1
      obtain ⟨a, vs, rfl, f, rs⟩ := r1
      exact .inr (.inl ⟨a, rfl, ⟨vs, f.sq⟩, p1 L1 _ H1 Keep.refl S1 (walks_tup f rs)⟩)
    · simp only [RD] at r1
      obtain ⟨a, vs, rfl, f, rs⟩ := r1
      exact .inl ⟨a, rfl, ⟨vs, f.sq⟩, p1 L1 _ H1 Keep.refl S1 (walks_list f rs)⟩
    · simp only [RD] at r1
      subst r1
      exact .inr (.inr ⟨_, rfl, p1 L1 _ H1 Keep.refl S1 (walks_str _)⟩)
    · simp only [RD] at r1
      obtain ⟨a, rfl, ea⟩ := r1
      split at p1
      · rename_i es
        obtain ⟨vs, h1, rs⟩ := S1.cell _ a _ ea es
        exact .inl ⟨a, rfl, ⟨vs, SqL.of h1⟩, p1 L1 _ H1 Keep.refl S1 (walks_live ea)⟩
      · exact p1.elim
    · simp only [RD] at r1
      obtain ⟨a, rfl, f⟩ := r1
      exact .inl ⟨a, rfl, ⟨_, f.sq⟩, p1 L1 _ H1 Keep.refl S1 (walks_scr f)⟩
    · exact p1.elim⟩
/-- range(j), range(i, j) -/
def rangeL (i j : Int) : List D := (List.range (j - i).toNat).map fun k => .int (i + (k : Nat))
def P62 : Int := 4611686018427387904
noncomputable def itR1 (ms : AM) : IM := fun env s => (ms env s).bind fun ds s => match ds with
  | [.int j] => @ite (R _) (-P62 ≤ j ∧ j < P62) (Classical.propDecidable _) (.ok (rangeL 0 j, none) s) .bad
  | _ => .bad
noncomputable def itR2 (ms : AM) : IM := fun env s => (ms env s).bind fun ds s => match ds with
  | [.int i, .int j] => @ite (R _) (-P62 ≤ i ∧ i < P62 ∧ -P62 ≤ j ∧ j < P62) (Classical.propDecidable _) (.ok (rangeL i j, none) s) .bad
  | _ => .bad
theorem walks_range {K : PySem.W.Frag} {L : Lv} {H : Hp} (i j : Int) : Walks K ca L H (rangeL i j, none) (Itr i (j - i).toNat) := fun L2 s2 H2 k S g n => by
  unfold rangeL
  refine ⟨fun d ed => ?_, fun hl => by simp only [List.length_map, List.length_range] at hl; exact hl⟩
  rw [List.getElem?_map] at ed
  by_cases hn : n < (j - i).toNat
  · rw [List.getElem?_range hn] at ed
    have ed : D.int (i + (n : Nat)) = d := by simpa using ed
    subst ed
    exact ⟨hn, fun x H3 ⟨e3, ex⟩ => by subst e3; subst ex; exact ⟨Keep.refl, S, rfl⟩⟩
  · rw [List.getElem?_eq_none (by simpa using hn)] at ed; cases ed
theorem di_range1 (hm : X.mg "range" = none) (ha : DA X ca W [a] ms) (hg : Gl X "range" := by rfl) (hs : starEach [a] X.env = [(false, eval a X.env)] := by rfl) : DI X ca W tg (.Call (.Name "range" p) [a] [] pos) (itR1 ms) :=
  PI.imp (pi_range1 hg hm ha hs) fun σ H Q ⟨L, env, s, S, e, p⟩ => ⟨L, env, s, S, e, p.bind.imp fun vs H1 ⟨L1, s1, ds, k1, S1, r1, p1⟩ => by
    split at p1
    · split at p1
      · rename_i j hj
        obtain ⟨v, rfl, r⟩ := r1.one
        simp only [RD] at r
        subst r
        have hw : Walks X.K ca L1 H1 (rangeL 0 j, none) (Itr 0 (j - 0).toNat) := walks_range 0 j
        rw [Int.sub_zero] at hw
        exact ⟨_, rfl, hj.1, hj.2, p1 L1 _ H1 Keep.refl S1 hw⟩
      · exact p1.elim
    · exact p1.elim⟩
theorem di_range2 (hm : X.mg "range" = none) (ha : DA X ca W [a, b] ms) (hg : Gl X "range" := by rfl) (hs : starEach [a, b] X.env = [(false, eval a X.env), (false, eval b X.env)] := by rfl) (hs2 : starEach [b] X.env = [(false, eval b X.env)] := by rfl) :
    DI X ca W tg (.Call (.Name "range" p) [a, b] [] pos) (itR2 ms) :=
  PI.imp (pi_range2 hg hm ha hs hs2) fun σ H Q ⟨L, env, s, S, e, p⟩ => ⟨L, env, s, S, e, p.bind.imp fun vs H1 ⟨L1, s1, ds, k1, S1, r1, p1⟩ => by
    split at p1
    · split at p1
      · rename_i hj
        obtain ⟨v, w, rfl, r, r2⟩ := r1.two
        simp only [RD] at r r2
        subst r; subst r2
        exact ⟨_, _, rfl, hj, p1 L1 _ H1 Keep.refl S1 (walks_range _ _)⟩
      · exact p1.elim
    · exact p1.elim⟩

/-! ### for -/
def okG (a : List D × Option Nat) (s : Store) : Prop := ∀ l, a.2 = some l → s[l]? = some (.lst a.1)
@[simp] theorem okG_none (ds : List D) (s : Store) : okG (ds, none) s ↔ True := ⟨fun _ => trivial, fun _ l h => nomatch h⟩
@[simp] theorem okG_some (ds : List D) (l : Nat) (s : Store) : okG (ds, some l) s ↔ s[l]? = some (.lst ds) := ⟨fun h => h l rfl, fun h l' e => by cases e; exact h⟩
def loopB (r : RS) (k : SM) : RS := match r with
  | .next e s => k e s
  | .cnt e s => k e s
  | .brk e s => .next e s
  | .ret d s => .ret d s
  | .exc c s => .exc c s
  | .bad => .bad
@[simp] theorem loopB_next (e : Env) (s : Store) (k : SM) : loopB (.next e s) k = k e s := rfl
@[simp] theorem loopB_cnt (e : Env) (s : Store) (k : SM) : loopB (.cnt e s) k = k e s := rfl
@[simp] theorem loopB_brk (e : Env) (s : Store) (k : SM) : loopB (.brk e s) k = .next e s := rfl
@[simp] theorem loopB_ret (e : D) (s : Store) (k : SM) : loopB (.ret e s) k = .ret e s := rfl
@[simp] theorem loopB_exc (e : Nat) (s : Store) (k : SM) : loopB (.exc e s) k = .exc e s := rfl
@[simp] theorem loopB_bad (k : SM) : loopB .bad k = .bad := rfl
open Classical in
noncomputable def forD (g : GM) (body : SM) (a : List D × Option Nat) : List D → SM
  | [] => fun env s => if okG a s then .next env s else .bad
  | d :: r => fun env s => if okG a s then (g d env s).bindS fun env s => loopB (body env s) (forD g body a r) else .bad
noncomputable def sFor (im : IM) (g : GM) (body : SM) : SM := fun env s => (im env s).bindS fun a s => forD g body a a.1 env s
theorem postS.loop {K : PySem.W.Frag} {L : Lv} {H : Hp} {r : RS} {k : SM} {T : Ends} {E E2 : Nat → Hp → Prop} {N : St → Hp → Prop} (p : postS K ca L H (loopB r k) T E) (hE : ∀ c H', E c H' → E2 c H')
    (hN : ∀ L' σ' H' env s, Keep L H L' H' → SR K ca L' s H' → ER K L' H' env σ' → postS K ca L' H' (k env s) T E → N σ' H') : postS K ca L H r { T with nx := N, ct := N, bk := T.nx } E2 := by
  cases r with
  | next e s => exact fun L' σ' H' kk S' e' => hN _ _ _ _ _ kk S' e' (postS.from (r := k e s) p kk)
  | cnt e s => exact fun L' σ' H' kk S' e' => hN _ _ _ _ _ kk S' e' (postS.from (r := k e s) p kk)
  | brk e s => exact p
  | ret d s => exact p
  | exc c s => exact fun L' H' kk S' => hE _ _ (p L' H' kk S')
  | bad => exact p
theorem ds_for {im : IM} {gm : GM} (hW : Wid W) (hp : PassesOwn (model X.prog X.w) X.A X.env X.xe) (hc : X.calm = true) (hi : DI X ca W tg iter im) (hg : DG X ca W tg gm) (hb : DSs X ca W body sm)
    (hs : ∀ x, foldedSetIterable iter X.env x = pure x := by intro _; rfl) : DS X ca W (.For tg iter body [] pos) (sFor im gm sm) := PS.imp (ps_for hp hc hi hg hb hs) fun T σ H ⟨L, env, s, S, e, p⟩ =>
  ⟨L, env, s, S, e, p.ofR.imp fun J H1 ⟨L1, s1, a, k1, S1, w1, p1⟩ => by
    refine ⟨fun i m σ2 H2 => ∃ L2 env2 s2, m = a.1.length - i ∧ i ≤ a.1.length ∧ Keep L1 H1 L2 H2 ∧ SR X.K ca L2 s2 H2 ∧ ER X.K L2 H2 env2 σ2 ∧ postS X.K ca L2 H2 (forD gm sm a (a.1.drop i) env2 s2) T (wE ca W σ2),
      ⟨a.1.length, L1, env, s1, by simp, Nat.zero_le _, Keep.refl, S1, e.mono k1.mono, p1⟩, ?_⟩
    rintro i m σ2 H2 ⟨L2, env2, s2, rfl, hi, k2, S2, e2, p2⟩
    by_cases hlt : i < a.1.length
    · have hd : a.1.drop i = a.1[i] :: a.1.drop (i + 1) := List.drop_eq_getElem_cons hlt
      rw [hd] at p2
      unfold forD at p2
      split at p2
      · rename_i hG
        obtain ⟨go, yl⟩ := (w1 L2 s2 H2 k2.mono S2 hG i).1 a.1[i] (List.getElem?_eq_getElem hlt)
        refine .inr ⟨go, fun σ3 H3 => ∃ L3 env3 s3, Keep L1 H1 L3 H3 ∧ SR X.K ca L3 s3 H3 ∧ ER X.K L3 H3 env3 σ3 ∧ postS X.K ca L3 H3 (forD gm sm a (a.1.drop (i + 1)) env3 s3) T (wE ca W σ3), ?_, fun x H' hy => ?_⟩
        · rintro σ3 H3 ⟨L3, env3, s3, k3, S3, e3, p3⟩
          exact ⟨a.1.length - (i + 1), by omega, L3, env3, s3, rfl, hlt, k3, S3, e3, p3⟩
        · obtain ⟨k', S', r'⟩ := yl x H' hy
          refine ⟨L2, env2, s2, a.1[i], S', e2.mono k'.mono, r', (p2.from k').ofR.imp fun σ4 H4 ⟨L4, s4, env4, k4, S4, e4, p4⟩ => ⟨L4, env4, s4, S4, e4, ?_⟩⟩
          exact p4.loop (fun c H' h => hW _ _ _ _ _ h) fun L5 σ5 H5 env5 s5 k5 S5 e5 p5 => ⟨L5, env5, s5, ((k2.trans k').trans k4).trans k5, S5, e5, p5.impE fun c H' h => hW _ _ _ _ _ h⟩
      · exact p2.elim
    · have hi' : i = a.1.length := by omega
      subst hi'
      rw [List.drop_length] at p2
      unfold forD at p2
      split at p2
      · rename_i hG
        exact .inl ⟨(w1 L2 s2 H2 k2.mono S2 hG _).2 (Nat.le_refl _), p2 L2 σ2 H2 Keep.refl S2 e2⟩
      · exact p2.elim⟩

/-! ### while -/
def whileN (c : TM) (b : SM) : Nat → SM
  | 0 => fun _ _ => .bad
  | n + 1 => fun env s => (c env s).bindS fun v s => if v = true then loopB (b env s) (whileN c b n) else .next env s
open Classical in
noncomputable def sWhile (c : TM) (b : SM) : SM := fun env s => if h : ∃ n, whileN c b n env s ≠ .bad then whileN c b h.choose env s else .bad
theorem while_up (c : TM) (b : SM) : ∀ (n : Nat) (env : Env) (s : Store), whileN c b n env s ≠ .bad → whileN c b (n + 1) env s = whileN c b n env s := by
  intro n
  induction n with
  | zero => intro env s h; exact absurd rfl h
  | succ n ih =>
    intro env s h
    have h1 : whileN c b (n + 1) env s = (c env s).bindS fun v s => if v = true then loopB (b env s) (whileN c b n) else .next env s := rfl
    have h2 : whileN c b (n + 1 + 1) env s = (c env s).bindS fun v s => if v = true then loopB (b env s) (whileN c b (n + 1)) else .next env s := rfl
    rw [h1] at h
    rw [h2, h1]
    cases q : c env s with
    | ok v s1 =>
      rw [q] at h
      simp only [R.bindS_ok] at h ⊢
      cases v with
      | false => rfl
      | true =>
        simp only [if_true] at h ⊢
        cases q2 : b env s1 with
        | next e2 s2 => rw [q2] at h; exact ih e2 s2 h
        | cnt e2 s2 => rw [q2] at h; exact ih e2 s2 h
        | _ => rfl
    | exc c s => rfl
    | bad => rfl
theorem while_le (c : TM) (b : SM) {n m : Nat} (hm : n ≤ m) {env : Env} {s : Store} (h : whileN c b n env s ≠ .bad) : whileN c b m env s = whileN c b n env s := by
  induction m with
  | zero => have : n = 0 := by omega
            subst this; rfl
  | succ m ih =>
    by_cases e : n = m + 1
    · subst e; rfl
    · have := ih (by omega)
      rw [← this] at h ⊢
      exact while_up c b m env s h
theorem sWhile_of {c : TM} {b : SM} {n : Nat} {env : Env} {s : Store} (h : whileN c b n env s ≠ .bad) : sWhile c b env s = whileN c b n env s := by
  unfold sWhile
  have hx : ∃ n, whileN c b n env s ≠ .bad := ⟨n, h⟩
  rw [dif_pos hx]
  have h2 := hx.choose_spec
  rcases Nat.le_total n hx.choose with q | q
  · exact while_le c b q h
  · exact (while_le c b q h2).symm
theorem sWhile_bad {c : TM} {b : SM} {env : Env} {s : Store} (h : ∀ n, whileN c b n env s = .bad) : sWhile c b env s = .bad := by
  unfold sWhile
  rw [dif_neg (fun ⟨n, q⟩ => q (h n))]
theorem sWhile_eq (c : TM) (b : SM) (env : Env) (s : Store) : sWhile c b env s = (c env s).bindS fun v s => if v = true then loopB (b env s) (sWhile c b) else .next env s := by
  by_cases h : ∃ n, whileN c b n env s ≠ .bad
  · obtain ⟨n, h⟩ := h
    rw [sWhile_of h]
    cases n with
    | zero => exact absurd rfl h
    | succ n =>
      have h1 : whileN c b (n + 1) env s = (c env s).bindS fun v s => if v = true then loopB (b env s) (whileN c b n) else .next env s := rfl
      rw [h1] at h ⊢
      cases q : c env s with
      | ok v s1 =>
        rw [q] at h
        simp only [R.bindS_ok] at h ⊢
        cases v with
        | false => rfl
        | true =>
          simp only [if_true] at h ⊢
          cases q2 : b env s1 with
          | next e2 s2 => rw [q2] at h; exact (sWhile_of h).symm
          | cnt e2 s2 => rw [q2] at h; exact (sWhile_of h).symm
          | _ => rfl
      | exc c s => rfl
      | bad => rfl
  · have h' : ∀ n, whileN c b n env s = .bad := fun n => by
      cases q : whileN c b n env s with
      | bad => rfl
      | _ => exact absurd ⟨n, by rw [q]; intro z; cases z⟩ h
    rw [sWhile_bad h']
    cases q : c env s with
    | ok v s1 =>
      simp only [R.bindS_ok]
      cases v with
      | false =>
        have := h' 1
        unfold whileN at this
        rw [q] at this
        simp at this
      | true =>
        simp only [if_true]
        have hh : ∀ n, loopB (b env s1) (whileN c b n) = .bad := fun n => by
          have := h' (n + 1)
          have h1 : whileN c b (n + 1) env s = (c env s).bindS fun v s => if v = true then loopB (b env s) (whileN c b n) else .next env s := rfl
          rw [h1, q] at this
          simpa using this
        cases q2 : b env s1 with
        | next e2 s2 => exact (sWhile_bad fun n => by have := hh n; rw [q2] at this; exact this).symm
        | cnt e2 s2 => exact (sWhile_bad fun n => by have := hh n; rw [q2] at this; exact this).symm
        | brk e2 s2 => have := hh 0; rw [q2] at this; cases this
        | ret d s2 => have := hh 0; rw [q2] at this; cases this
        | exc c s2 => have := hh 0; rw [q2] at this; cases this
        | bad => rfl
    | exc c' s1 =>
      have := h' 1
      unfold whileN at this
      rw [q] at this
      cases this
    | bad => rfl
theorem ds_while (hW : Wid W) (hp : PassesOwn (model X.prog X.w) X.A X.env X.xe) (hc : DT X ca W c tc) (hb : DSs X ca W body sm) : DS X ca W (.While c body [] pos) (sWhile tc sm) := PS.imp (ps_while hp hc hb) fun T σ H ⟨L, env, s, S, e, p⟩ => by
  have hx : ∃ n, whileN tc sm n env s ≠ .bad := Classical.byContradiction fun hn => by
    unfold sWhile at p
    rw [dif_neg hn] at p
    exact p
  obtain ⟨n, hn⟩ := hx
  rw [sWhile_of hn] at p
  refine ⟨fun m σ2 H2 => ∃ L2 env2 s2, SR X.K ca L2 s2 H2 ∧ ER X.K L2 H2 env2 σ2 ∧ postS X.K ca L2 H2 (whileN tc sm m env2 s2) T (wE ca W σ2), ⟨n, L, env, s, S, e, p⟩, ?_⟩
  rintro m σ2 H2 ⟨L2, env2, s2, S2, e2, p2⟩
  cases m with
  | zero => exact p2.elim
  | succ m =>
    have p2 : postS X.K ca L2 H2 ((tc env2 s2).bindS fun v s => if v = true then loopB (sm env2 s) (whileN tc sm m) else .next env2 s) T (wE ca W σ2) := p2
    refine ⟨L2, env2, s2, S2, e2, p2.ofR.imp fun b H3 ⟨L3, s3, b', k3, S3, r3, p3⟩ => ?_⟩
    subst r3
    cases b' with
    | true =>
      refine iteT ⟨fun σ4 H4 => ∃ L4 env4 s4, SR X.K ca L4 s4 H4 ∧ ER X.K L4 H4 env4 σ4 ∧ postS X.K ca L4 H4 (whileN tc sm m env4 s4) T (wE ca W σ4), fun σ4 H4 h4 => ⟨m, Nat.lt_succ_self _, h4⟩, L3, env2, s3, S3, e2.mono k3.mono, ?_⟩
      rw [if_pos rfl] at p3
      exact p3.loop (fun c H' h => hW _ _ _ _ _ h) fun L5 σ5 H5 env5 s5 k5 S5 e5 p5 => ⟨L5, env5, s5, S5, e5, p5.impE fun c H' h => hW _ _ _ _ _ h⟩
    | false =>
      rw [if_neg Bool.false_ne_true] at p3
      exact iteF (p3 L3 σ2 H3 Keep.refl S3 (e2.mono k3.mono))
end
end DE
/-! DE7: comprehensions -/
namespace DE
open PySem PySem.Spec PyProof.Rows L2

inductive Tgt where
  | one (i : Nat) | two (i j : Nat)
def setT : Tgt → D → Env → Option Env
  | .one i, d, env => some (env.set i (some d))
  | .two i j, d, env => match d with
    | .tup [x, y] => some ((env.set i (some x)).set j (some y))
    | _ => none
def gT (K : PySem.W.Frag) : Tgt → TG
  | .one i => gName i
  | .two i j => gTup K 2 (gCons (gName i) (gCons (gName j) gNil))
def inT (vs : List Nat) : Tgt → Prop
  | .one i => i ∈ vs
  | .two i j => i ∈ vs ∧ j ∈ vs
def wipeE (env : Env) : List Nat → Env
  | [] => env
  | v :: vs => (wipeE env vs).set v none
abbrev W0 : WX := fun _ _ _ _ => False
def tYesM : TM := fun _ s => .ok true s
open Classical in
noncomputable def lcD (t : Tgt) (tt : TM) (elt : EM) (a : List D × Option Nat) (env : Env) : List D → Store → R (List D)
  | [], s => if okG a s then .ok [] s else .bad
  | d :: r, s => if okG a s then match setT t d env with
      | none => .bad
      | some env1 => (tt env1 s).bind fun b s => if b = true then (elt env1 s).bind fun y s => (lcD t tt elt a env r s).bind fun ys s => .ok (y :: ys) s else lcD t tt elt a env r s
    else .bad
def finL : R (List D) → R D
  | .ok zs s => if zs.length ≤ LINE then .ok (.lst zs) s else .bad
  | _ => .bad
def finN : R (List D) → R D
  | .ok zs s => if zs.length ≤ LINE then .ok (.ref s.length) (s ++ [.lst zs]) else .bad
  | _ => .bad
noncomputable def eLc (im : IM) (t : Tgt) (vs : List Nat) (tt : TM) (elt : EM) : EM := fun env s => (im env s).bind fun a s => finL (lcD t tt elt a (wipeE env vs) a.1 s)
noncomputable def eLcN (im : IM) (t : Tgt) (vs : List Nat) (tt : TM) (elt : EM) : EM := fun env s => (im env s).bind fun a s => finN (lcD t tt elt a (wipeE env vs) a.1 s)
theorem wipe_set {σ : St} {i : Nat} {x : Option V} : ∀ {vs : List Nat}, i ∈ vs → wipe (σ.set i x) vs = wipe σ vs
  | v :: vs, h => by
    show (wipe (σ.set i x) vs).set v none = (wipe σ vs).set v none
    by_cases hm : i ∈ vs
    · rw [wipe_set hm]
    · have hv : i = v := by simpa [hm] using h
      subst hv
      have q : ∀ (ws : List Nat), i ∉ ws → wipe (σ.set i x) ws = (wipe σ ws).set i x := by
        intro ws
        induction ws with
        | nil => intro _; rfl
        | cons w ws ih =>
          intro hn
          simp only [List.mem_cons, not_or] at hn
          show (wipe (σ.set i x) ws).set w none = ((wipe σ ws).set w none).set i x
          rw [ih hn.2, List.set_comm _ _ hn.1]
      rw [q vs hm, List.set_set]
theorem wipe_wipe (σ : St) : ∀ vs : List Nat, wipe (wipe σ vs) vs = wipe σ vs := by
  have q : ∀ (ws : List Nat) (τ : St), (∀ w ∈ ws, τ[w]? = some none ∨ τ[w]? = none) → wipe τ ws = τ := by
    intro ws
    induction ws with
    | nil => intro _ _; rfl
    | cons w ws ih =>
      intro τ h
      show (wipe τ ws).set w none = τ
      rw [ih τ fun v hv => h v (List.mem_cons_of_mem _ hv)]
      rcases h w List.mem_cons_self with h | h
      · obtain ⟨hl, e⟩ := List.getElem?_eq_some_iff.mp h
        conv => rhs; rw [← List.set_getElem_self hl]
        rw [e]
      · exact List.set_eq_of_length_le (List.getElem?_eq_none_iff.mp h)
  intro vs
  refine q vs _ fun w hw => ?_
  cases e : (wipe σ vs)[w]? with
  | none => exact .inr rfl
  | some o =>
    cases o with
    | none => exact .inl rfl
    | some x => exact absurd hw (wipe_some e).2
section
variable {K : PySem.W.Frag} {ca : Nat → Addr} {L : Lv} {H : Hp} {s : Store} {env : Env} {σ : St}
theorem ER.wipe (e : ER K L H env σ) : ∀ vs : List Nat, ER K L H (wipeE env vs) (L2.wipe σ vs)
  | [] => e
  | v :: vs => by
    have ih := ER.wipe e vs
    refine ⟨by simp [wipeE, L2.wipe, ih.1], fun i d h => ?_⟩
    unfold wipeE at h
    by_cases hv : v = i
    · subst hv
      by_cases hl : v < (wipeE env vs).length
      · rw [List.getElem?_set_self hl] at h; cases h
      · rw [List.getElem?_eq_none (by simpa using hl)] at h; cases h
    · rw [List.getElem?_set_ne hv] at h
      obtain ⟨x, h1, h2⟩ := ih.2 i d h
      exact ⟨x, by unfold L2.wipe; rw [List.getElem?_set_ne hv]; exact h1, h2⟩
theorem gT_ok {t : Tgt} {vs : List Nat} {d : D} {x : V} {env1 : Env} {Q : St → Hp → Prop} (hv : inT vs t) (e : ER K L H env σ) (r : RD K L H d x) (he : setT t d env = some env1) (q : ∀ σ2, ER K L H env1 σ2 → L2.wipe σ2 vs = L2.wipe σ vs → Q σ2 H) : gT K t x σ H Q := by
  cases t with
  | one i =>
    cases he
    exact q _ (e.set r) (wipe_set hv)
  | two i j =>
    unfold setT at he
    simp only at he
    split at he
    · rename_i x1 x2
      cases he
      simp only [RD] at r
      obtain ⟨a, vs', rfl, f, rs⟩ := r
      obtain ⟨v, w, rfl, q1, q2⟩ := rs.two
      exact ⟨a, _, rfl, f.sq, rfl, v, _, rfl, w, _, rfl, rfl, q _ ((e.set q1).set q2) (by rw [wipe_set hv.2, wipe_set hv.1])⟩
    · cases he
theorem mo_open {rho pi : List Addr} {p : Addr} : Mono (⟨rho, p :: pi⟩ : Lv) H ⟨rho, pi⟩ H := ⟨List.prefix_refl _, fun b' o eb h1 h2 => ⟨eb, h1, fun z => h2 (List.mem_cons_of_mem _ z)⟩⟩
theorem SR.open {rho pi : List Addr} {p : Addr} (S : SR K ca ⟨rho, p :: pi⟩ s H) : SR K ca ⟨rho, pi⟩ s H := ⟨S.len, S.nd, fun l b c e1 e2 => (S.cell l b c e1 e2).mono mo_open rfl, fun b hb => S.pi b (List.mem_cons_of_mem _ hb)⟩
theorem mo_adopt {rho pi : List Addr} {p : Addr} : Mono (⟨rho, p :: pi⟩ : Lv) H ⟨rho ++ [p], pi⟩ H := ⟨List.prefix_append _ _, fun b' o eb h1 h2 => ⟨eb, fun z => by
  rcases List.mem_append.mp z with z | z
  · exact h1 z
  · exact h2 (by simp at z; subst z; exact List.mem_cons_self), fun z => h2 (List.mem_cons_of_mem _ z)⟩⟩
/-- what was shut away becomes a live cell -/
theorem SR.adopt {rho pi : List Addr} {p : Addr} (S : SR K ca ⟨rho, p :: pi⟩ s H) (hp : p ∉ pi) {c : Cell} (hc : CellOk K ca ⟨rho ++ [p], pi⟩ H p c) : SR K ca ⟨rho ++ [p], pi⟩ (s ++ [c]) H := by
  have hr := (S.pi p List.mem_cons_self).1
  refine ⟨by have := S.len; simp at this ⊢; exact this, ?_, fun l a c' e1 e2 => ?_, fun b hb => ?_⟩
  · show (rho ++ [p]).Nodup
    rw [List.nodup_append]
    exact ⟨S.nd, by simp, fun a ha b hb => by simp at hb; subst hb; rintro rfl; exact hr ha⟩
  · have hlen : rho.length = s.length := S.len
    by_cases hl : l < rho.length
    · have e1' : rho[l]? = some a := by rw [← e1]; exact (List.getElem?_append_left hl).symm
      have e2' : s[l]? = some c' := by rw [← e2]; exact (List.getElem?_append_left (by rw [← hlen]; exact hl)).symm
      exact (S.cell l a c' e1' e2').mono mo_adopt rfl
    · have hl2 : l = rho.length := by
        have := (List.getElem?_eq_some_iff.mp e1).1
        simp at this; omega
      subst hl2
      have e1' : p = a := by simpa using e1
      have e2' : c = c' := by rw [hlen] at e2; simpa using e2
      subst e1'; subst e2'
      exact hc
  · obtain ⟨h1, h2⟩ := S.pi b (List.mem_cons_of_mem _ hb)
    refine ⟨fun hm => ?_, h2⟩
    rcases List.mem_append.mp hm with hm | hm
    · exact h1 hm
    · simp at hm; subst hm; exact hp hb
/-- what is shut away is written -/
theorem SR.poke (S : SR K ca L s H) {p : Addr} (hp : p ∈ L.pi) (o : HO) : SR K ca L s (upd H p o) ∧ Mono L H L (upd H p o) := by
  have k : Mono L H L (upd H p o) := ⟨List.prefix_refl _, fun b u e h1 h2 => ⟨by rw [upd_ne (show b ≠ p from fun z => h2 (by rw [z]; exact hp))]; exact e, h1, h2⟩⟩
  refine ⟨⟨S.len, S.nd, fun l a c e1 e2 => ?_, fun b hb => ?_⟩, k⟩
  · refine (S.cell l a c e1 e2).mono k ?_
    rw [upd_ne (show a ≠ p from fun z => (S.pi p hp).1 (by rw [← z]; exact List.mem_of_getElem? e1))]
  · obtain ⟨h1, u, hu⟩ := S.pi b hb
    by_cases hb' : b = p
    · subst hb'; exact ⟨h1, o, upd_same⟩
    · exact ⟨h1, u, by rw [upd_ne hb']; exact hu⟩
end
section
variable {X : Cx} {ca : Nat → Addr} {W : WX} {tg iter elt : Expr} {ifs : List Expr} {pos spos py : Pos}
/-- the reading of a comprehension, of any end -/
theorem lc_of {t : Tgt} {vs : List Nat} {tt : TM} {em : EM} {im : IM} (hv : inT vs t) {L : Lv} {env : Env} {s : Store} {σ : St} {H : Hp} {Q : VK} (S : SR X.K ca L s H) (e : ER X.K L H env σ)
    (p : post X.K ca (fun L' H' a J => Walks X.K ca L' H' a J) L H (im env s) (fun J H1 => ∃ L1 s1 a, Keep L H L1 H1 ∧ SR X.K ca L1 s1 H1 ∧ Walks X.K ca L1 H1 a J ∧
      ∃ zs s2, lcD t tt em a (wipeE env vs) a.1 s1 = .ok zs s2 ∧ zs.length ≤ LINE ∧ ∀ Dd, H1 Dd = none → ∀ rho2 H2 vs2, Keep L1 H1 ⟨rho2, L1.pi⟩ H2 → SR X.K ca ⟨rho2, Dd :: L1.pi⟩ s2 H2 → RDs X.K ⟨rho2, Dd :: L1.pi⟩ H2 zs vs2 → H2 Dd = some (.lst vs2) → Dd ∉ rho2 → Dd ∉ L1.pi → Q (.ref Dd) H2) (wE ca W σ)) :
    tLc (tI X.K ca W im) (gT X.K t) (tT X.K ca W0 tt) (tE X.K ca W0 em) vs σ H Q := by
  refine ⟨L, env, s, S, e, p.imp fun J H1 ⟨L1, s1, a, k1, S1, w1, zs, sE, ez, hz, q⟩ => fun Dd hD => ?_⟩
  have fD := S1.fresh hD
  -- the invariant
  refine ⟨fun i m H2 => ∃ rho2 s2 acc accV ys, m = a.1.length - i ∧ i ≤ a.1.length ∧ H2 Dd = some (.lst accV) ∧ Dd ∉ rho2 ∧ RDs X.K ⟨rho2, Dd :: L1.pi⟩ H2 acc accV ∧ SR X.K ca ⟨rho2, Dd :: L1.pi⟩ s2 H2 ∧ L1.rho <+: rho2 ∧
      (∀ b o, H1 b = some o → b ∉ L1.rho → H2 b = some o ∧ b ∉ rho2) ∧ lcD t tt em a (wipeE env vs) (a.1.drop i) s2 = .ok ys sE ∧ zs = acc ++ ys, ⟨a.1.length, L1.rho, s1, [], [], zs, by simp, Nat.zero_le _, upd_same, fD.1, .nil, ?_, List.prefix_refl _, fun b o eb hb => ⟨by rw [upd_ne (ne_of_none eb hD)]; exact eb, hb⟩, ez, rfl⟩, ?_⟩
  · obtain ⟨kk, SS⟩ := S1.new hD (.lst [])
    exact ⟨SS.len, SS.nd, fun l b c e1 e2 => (S1.cell l b c e1 e2).mono (L2 := ⟨L1.rho, Dd :: L1.pi⟩) ⟨List.prefix_refl _, fun b' o eb h1 h2 => ⟨by rw [upd_ne (ne_of_none eb hD)]; exact eb, h1, by
        simp only [List.mem_cons, not_or]; exact ⟨ne_of_none eb hD, h2⟩⟩⟩ (by
        obtain ⟨u, hu⟩ := (S1.cell l b c e1 e2).some
        rw [upd_ne (ne_of_none hu hD)]), fun b hb => by
        rcases List.mem_cons.mp hb with rfl | hb
        · exact ⟨fD.1, _, upd_same⟩
        · exact SS.pi b hb⟩
  rintro i m H2 ⟨rho2, s2, acc, accV, ys, rfl, hi, hDd, hDr, rA, S2, kr, kp, el, eq⟩
  have mono12 : Mono L1 H1 ⟨rho2, Dd :: L1.pi⟩ H2 := ⟨kr, fun b o eb h1 h2 => ⟨(kp b o eb h1).1, (kp b o eb h1).2, by simp only [List.mem_cons, not_or]; exact ⟨ne_of_none eb hD, h2⟩⟩⟩
  have pD : Dd ∈ (⟨rho2, Dd :: L1.pi⟩ : Lv).pi := List.mem_cons_self
  by_cases hlt : i < a.1.length
  · have hd : a.1.drop i = a.1[i] :: a.1.drop (i + 1) := List.drop_eq_getElem_cons hlt
    rw [hd] at el
    unfold lcD at el
    split at el
    case isFalse => cases el
    rename_i hG
    cases et : setT t a.1[i] (wipeE env vs) with
    | none => rw [et] at el; cases el
    | some env1 =>
      rw [et] at el
      simp only at el
      obtain ⟨go, yl⟩ := (w1 _ s2 H2 mono12 S2 hG i).1 a.1[i] (List.getElem?_eq_getElem hlt)
      refine .inr ⟨go, fun H3 => ∃ rho3 s3 acc3 accV3 ys3, H3 Dd = some (.lst accV3) ∧ Dd ∉ rho3 ∧ RDs X.K ⟨rho3, Dd :: L1.pi⟩ H3 acc3 accV3 ∧ SR X.K ca ⟨rho3, Dd :: L1.pi⟩ s3 H3 ∧ L1.rho <+: rho3 ∧
        (∀ b o, H1 b = some o → b ∉ L1.rho → H3 b = some o ∧ b ∉ rho3) ∧ lcD t tt em a (wipeE env vs) (a.1.drop (i + 1)) s3 = .ok ys3 sE ∧ zs = acc3 ++ ys3, ?_, fun x H' hy => ?_⟩
      · rintro H3 ⟨rho3, s3, acc3, accV3, ys3, h1, h2, h3, h4, h5, h6, h7, h8⟩
        exact ⟨a.1.length - (i + 1), by omega, rho3, s3, acc3, accV3, ys3, rfl, hlt, h1, h2, h3, h4, h5, h6, h7, h8⟩
      obtain ⟨k', S', r'⟩ := yl x H' hy
      have eW : ER X.K ⟨rho2, Dd :: L1.pi⟩ H' (wipeE env vs) (L2.wipe σ vs) := (((e.mono k1.mono).wipe vs).mono mono12).mono k'.mono
      refine gT_ok hv eW r' et fun σ2 e2 hw => ⟨by rw [hw, wipe_wipe], ?_⟩
      -- the test
      cases eb : tt env1 s2 with
      | exc c s => rw [eb] at el; cases el
      | bad => rw [eb] at el; cases el
      | ok b s3 =>
        rw [eb] at el
        simp only [R.bind_ok] at el
        refine ⟨_, env1, s2, S', e2, ?_⟩
        rw [eb]
        intro L3 b' H3 k3 S3 hb
        have hb : b = b' := hb
        subst hb
        have kD : Keep ⟨rho2, Dd :: L1.pi⟩ H2 L3 H3 := k'.trans k3
        have D3 := kD.keep Dd _ hDd hDr
        have pi3 : L3.pi = Dd :: L1.pi := kD.pi
        obtain ⟨rho3, pi3'⟩ := L3
        cases pi3
        have old3 : ∀ b o, H1 b = some o → b ∉ L1.rho → H3 b = some o ∧ b ∉ rho3 := fun b o eb hb => kD.keep b o (kp b o eb hb).1 (kp b o eb hb).2
        cases b with
        | false =>
          rw [if_neg Bool.false_ne_true] at el
          exact iteF ⟨rho3, s3, acc, accV, ys, D3.1, D3.2, RDs.mono kD.mono _ _ rA, S3, kr.trans kD.rho, old3, el, eq⟩
        | true =>
          rw [if_pos rfl] at el
          refine iteT ?_
          cases ey : em env1 s3 with
          | exc c s => rw [ey] at el; cases el
          | bad => rw [ey] at el; cases el
          | ok y s4 =>
            rw [ey] at el
            simp only [R.bind_ok] at el
            cases er : lcD t tt em a (wipeE env vs) (a.1.drop (i + 1)) s4 with
            | exc c s => rw [er] at el; cases el
            | bad => rw [er] at el; cases el
            | ok ys4 s5 =>
              rw [er] at el
              simp only [R.bind_ok] at el
              cases el
              refine ⟨_, env1, s3, S3, e2.mono k3.mono, ?_⟩
              rw [ey]
              intro L4 v4 H4 k4 S4 r4
              have kD4 : Keep ⟨rho2, Dd :: L1.pi⟩ H2 L4 H4 := kD.trans k4
              have D4 := kD4.keep Dd _ hDd hDr
              have pi4 : L4.pi = Dd :: L1.pi := kD4.pi
              obtain ⟨rho4, pi4'⟩ := L4
              cases pi4
              have pD4 : Dd ∈ (⟨rho4, Dd :: L1.pi⟩ : Lv).pi := List.mem_cons_self
              obtain ⟨S5, m5⟩ := S4.poke pD4 (.lst (accV ++ [v4]))
              have rA4 := RDs.mono kD4.mono _ _ rA
              refine ⟨accV, D4.1, ?_, rho4, s4, acc ++ [y], accV ++ [v4], ys4, upd_same, D4.2, RDs.mono m5 _ _ (rA4.append (.cons r4 .nil)), S5, kr.trans kD4.rho, fun b o eb hb => ?_, er, by rw [List.append_assoc]; exact eq⟩
              · rw [← rA.length, line_eq]
                rw [eq] at hz
                simp at hz
                omega
              · have q := kD4.keep b o (kp b o eb hb).1 (kp b o eb hb).2
                exact ⟨by rw [upd_ne (ne_of_none eb hD)]; exact q.1, q.2⟩
  · have hi' : i = a.1.length := by omega
    subst hi'
    rw [List.drop_length] at el
    unfold lcD at el
    split at el
    case isFalse => cases el
    rename_i hG
    cases el
    rw [List.append_nil] at eq
    subst eq
    refine .inl ⟨(w1 _ sE H2 mono12 S2 hG _).2 (Nat.le_refl _), ?_⟩
    exact q Dd hD rho2 H2 accV ⟨rfl, kr, kp⟩ S2 rA hDd hDr fD.2
variable {scope : Scope} {own : List (Str × Nat)} {t : Tgt} {tt : TM} {em : EM} {im : IM}
/-- targets of a comprehension -/
def TgOk (X : Cx) (tg : Expr) (t : Tgt) : Prop := PG X tg (gT X.K t)
theorem tg_one (i : Nat) {x : Str} {pos : Pos} (hN : X.N.Nodup) (hi : X.N[i]? = some x := by rfl) (hx : Loc X.env.scope x := by first | exact Or.inl rfl | exact Or.inr rfl) (hf : X.fn x = true ∨ X.env.scope.names.lookup x = some .local := by first | exact .inl rfl | exact .inr rfl | assumption) : TgOk X (.Name x pos) (.one i) := pg_name hN hi hx hf
theorem tg_two (i j : Nat) {x y : Str} {pos p1 p2 : Pos} {k : Nat} (hc : X.calm = true) (hN : X.N.Nodup) (hi : X.N[i]? = some x := by rfl) (hj : X.N[j]? = some y := by rfl) (hx : Loc X.env.scope x := by first | exact Or.inl rfl | exact Or.inr rfl) (hf : X.fn x = true ∨ X.env.scope.names.lookup x = some .local := by first | exact .inl rfl | exact .inr rfl | assumption)
    (hy : Loc X.env.scope y := by first | exact Or.inl rfl | exact Or.inr rfl) (hfy : X.fn y = true ∨ X.env.scope.names.lookup y = some .local := by first | exact .inl rfl | exact .inr rfl | assumption) : TgOk X (.Tuple [.Name x p1, .Name y p2] k pos) (.two i j) :=
  pg_tup hc (pgs_cons (pg_name hN hi hx hf) (pgs_cons (pg_name hN hj hy hfy) pgs_nil))
def DTs (X : Cx) (ca : Nat → Addr) (W : WX) (ifs : List Expr) (m : TM) : Prop := PTs X ifs (tT X.K ca W m)
theorem PTs.imp {X : Cx} {e : List Expr} {t t' : TT} (h : PTs X e t) (i : ∀ σ H Q, t' σ H Q → t σ H Q) : PTs X e t' := ⟨fun pins s σ H Q I q => h.run pins s σ H Q I (i σ H Q q)⟩
theorem dts_nil : DTs X ca W [] tYesM := PTs.imp pts_nil fun σ H Q ⟨L, env, s, S, e, p⟩ => p L true H Keep.refl S rfl
theorem dts_one {c : Expr} {tc : TM} (h : DT X ca W c tc) : DTs X ca W [c] tc := pts_one h
abbrev Blk (X : Cx) (scope : Scope) (P : Cx → Prop) : Prop := ∀ (s : Shared) (H : Hp) (C : Addr) (cl : List (Str × Addr)) (fp : List Addr), P (X.blk s H scope (compEnvC scope cl C X.env) fp)
theorem lc_post {L : Lv} {env : Env} {s : Store} {σ : St} {H : Hp} {vs : List Nat} {Q : VK} (p : post X.K ca (RD X.K) L H (eLc im t vs tt em env s) Q (wE ca W σ)) :
    post X.K ca (fun L' H' a J => Walks X.K ca L' H' a J) L H (im env s) (fun J H1 => ∃ L1 s1 a, Keep L H L1 H1 ∧ SR X.K ca L1 s1 H1 ∧ Walks X.K ca L1 H1 a J ∧
      ∃ zs s2, lcD t tt em a (wipeE env vs) a.1 s1 = .ok zs s2 ∧ zs.length ≤ LINE ∧ ∀ Dd, H1 Dd = none → ∀ rho2 H2 vs2, Keep L1 H1 ⟨rho2, L1.pi⟩ H2 → SR X.K ca ⟨rho2, Dd :: L1.pi⟩ s2 H2 → RDs X.K ⟨rho2, Dd :: L1.pi⟩ H2 zs vs2 → H2 Dd = some (.lst vs2) → Dd ∉ rho2 → Dd ∉ L1.pi → Q (.ref Dd) H2) (wE ca W σ) :=
  p.bind.imp fun J H1 ⟨L1, s1, a, k1, S1, w1, p1⟩ => by
    refine ⟨L1, s1, a, k1, S1, w1, ?_⟩
    cases q : lcD t tt em a (wipeE env vs) a.1 s1 with
    | exc c s => rw [q] at p1; exact p1.elim
    | bad => rw [q] at p1; exact p1.elim
    | ok zs s2 =>
      rw [q] at p1
      have p2 : post X.K ca (RD X.K) L1 H1 (if zs.length ≤ LINE then R.ok (D.lst zs) s2 else R.bad) Q (wE ca W σ) := p1
      split at p2
      · rename_i hz
        refine ⟨_, _, rfl, hz, fun Dd hD rho2 H2 vs2 k S2 rs h1 h2 h3 => p2 _ _ _ k S2.open ?_⟩
        simp only [RD]
        exact ⟨Dd, vs2, rfl, ⟨h2, h3, h1⟩, RDs.mono mo_open _ _ rs⟩
      · exact p2.elim
theorem lc_postN {L : Lv} {env : Env} {s : Store} {σ : St} {H : Hp} {vs : List Nat} {Q : VK} (p : post X.K ca (RD X.K) L H (eLcN im t vs tt em env s) Q (wE ca W σ)) :
    post X.K ca (fun L' H' a J => Walks X.K ca L' H' a J) L H (im env s) (fun J H1 => ∃ L1 s1 a, Keep L H L1 H1 ∧ SR X.K ca L1 s1 H1 ∧ Walks X.K ca L1 H1 a J ∧
      ∃ zs s2, lcD t tt em a (wipeE env vs) a.1 s1 = .ok zs s2 ∧ zs.length ≤ LINE ∧ ∀ Dd, H1 Dd = none → ∀ rho2 H2 vs2, Keep L1 H1 ⟨rho2, L1.pi⟩ H2 → SR X.K ca ⟨rho2, Dd :: L1.pi⟩ s2 H2 → RDs X.K ⟨rho2, Dd :: L1.pi⟩ H2 zs vs2 → H2 Dd = some (.lst vs2) → Dd ∉ rho2 → Dd ∉ L1.pi → Q (.ref Dd) H2) (wE ca W σ) :=
  p.bind.imp fun J H1 ⟨L1, s1, a, k1, S1, w1, p1⟩ => by
    refine ⟨L1, s1, a, k1, S1, w1, ?_⟩
    cases q : lcD t tt em a (wipeE env vs) a.1 s1 with
    | exc c s => rw [q] at p1; exact p1.elim
    | bad => rw [q] at p1; exact p1.elim
    | ok zs s2 =>
      rw [q] at p1
      have p2 : post X.K ca (RD X.K) L1 H1 (if zs.length ≤ LINE then R.ok (D.ref s2.length) (s2 ++ [Cell.lst zs]) else R.bad) Q (wE ca W σ) := p1
      split at p2
      · rename_i hz
        refine ⟨_, _, rfl, hz, fun Dd hD rho2 H2 vs2 k S2 rs h1 h2 h3 => ?_⟩
        have k' : Keep L1 H1 ⟨rho2 ++ [Dd], L1.pi⟩ H2 := ⟨rfl, k.rho.trans (List.prefix_append _ _), fun b o eb hb => ⟨(k.keep b o eb hb).1, fun hm => by
          rcases List.mem_append.mp hm with hm | hm
          · exact (k.keep b o eb hb).2 hm
          · simp at hm; rw [hm, hD] at eb; cases eb⟩⟩
        refine p2 _ _ _ k' (S2.adopt h3 (c := .lst zs) ⟨vs2, h1, RDs.mono mo_adopt _ _ rs⟩) ?_
        simp only [RD]
        exact ⟨Dd, rfl, by have := S2.len; rw [← this]; simp⟩
      · exact p2.elim
theorem de_lc (hc : X.calm = true) (hN : X.N.Nodup) (hi : DI X ca W tg iter im) (ok : BlkOk X.N X.env.scope scope own) (hv : inT (own.map (·.2)) t) (hg : Blk X scope fun Y => TgOk Y tg t) (ht : Blk X scope fun Y => DTs Y ca W0 ifs tt) (he : Blk X scope fun Y => DE Y ca W0 elt em)
    (hs : ∀ x, foldedSetIterable iter X.env x = pure x := by intro _; rfl) : DE X ca W (.ListComp elt [⟨tg, iter, ifs, 0⟩] scope pos) (eLc im t (own.map (·.2)) tt em) :=
  PE.imp (pe_lc (g := gT X.K t) (tt := tT X.K ca W0 tt) (te := tE X.K ca W0 em) hc hN hi ok hg ht he hs) fun σ H Q ⟨L, env, s, S, e, p⟩ => lc_of hv S e (lc_post p)
theorem de_lcN (hc : X.calm = true) (hN : X.N.Nodup) (hi : DI X ca W tg iter im) (ok : BlkOk X.N X.env.scope scope own) (hv : inT (own.map (·.2)) t) (hg : Blk X scope fun Y => TgOk Y tg t) (ht : Blk X scope fun Y => DTs Y ca W0 ifs tt) (he : Blk X scope fun Y => DE Y ca W0 elt em)
    (hs : ∀ x, foldedSetIterable iter X.env x = pure x := by intro _; rfl) : DE X ca W (.ListComp elt [⟨tg, iter, ifs, 0⟩] scope pos) (eLcN im t (own.map (·.2)) tt em) :=
  PE.imp (pe_lc (g := gT X.K t) (tt := tT X.K ca W0 tt) (te := tE X.K ca W0 em) hc hN hi ok hg ht he hs) fun σ H Q ⟨L, env, s, S, e, p⟩ => lc_of hv S e (lc_postN p)
theorem ds_setLc (i : Nat) {y : Str} (hc : X.calm = true) (hN : X.N.Nodup) (hi : DI X ca W tg iter im) (ok : BlkOk X.N X.env.scope scope own) (hv : inT (own.map (·.2)) t) (hg : Blk X scope fun Y => TgOk Y tg t) (ht : Blk X scope fun Y => DTs Y ca W0 ifs tt) (he : Blk X scope fun Y => DE Y ca W0 elt em)
    (hy : X.N[i]? = some y := by rfl) (hyl : X.env.scope.names.lookup y = some .local := by rfl) (hsw : swapsWith (.ListComp elt [⟨tg, iter, ifs, 0⟩] scope pos) (some (.Name y py)) spos.line X.env = pure true := by exact sw_true rfl rfl rfl (by decide +kernel))
    (hs : ∀ x, foldedSetIterable iter X.env x = pure x := by intro _; rfl) : DS X ca W (.Assign [.Name y py] (.ListComp elt [⟨tg, iter, ifs, 0⟩] scope pos) spos) (sSet i (eLc im t (own.map (·.2)) tt em)) :=
  PS.imp (ps_setLc (g := gT X.K t) (tt := tT X.K ca W0 tt) (te := tE X.K ca W0 em) hc hN hy hyl hsw hi ok hg ht he hs) fun T σ H ⟨L, env, s, S, e, p⟩ =>
    lc_of hv S e (lc_post (p.ofR.imp fun v H1 ⟨L1, s1, d, k1, S1, r1, p1⟩ => p1 L1 _ H1 Keep.refl S1 ((e.mono k1.mono).set r1)))
end
end DE
/-! DE8: raise; a law's end -/
namespace DE
open PySem PySem.Spec PyProof.Rows L2
theorem takes0N {X : Cx} : L2N.Takes X W0 := fun _ _ x => by
  obtain ⟨_, _, _, _, _, _, _, _, _, _, _, _, _, _, _, _, z⟩ := x
  exact z.elim
/-- what is known of an own class of refusals -/
structure ExT (K : PySem.W.Frag) (mg : Str → Option Value) (x : Str) (C : Addr) : Prop where
  g : mg x = some (.ref C)
  x : PySem.W.excIn K C [.type "ValueError", .type "Exception", .type "BaseException", .type "object"] "ValueError.__new__" = true
  k : PySem.W.keepIn K (.ref C) = true
  b : PySem.W.subIn K (.ref C) (.type "BaseException") = some true
  t : PySem.W.typeIn K (.ref C) = some (.type "type")
section
variable {X : Cx} {ca : Nat → Addr} {W : WX} {pos p p2 pos2 : Pos}
def sRaise (c : Nat) : SM := fun _ s => .exc c s
theorem ds_raise {x m : Str} {j c : Nat} (T : ExT X.K X.mg x (ca c)) (hc : X.calm = true) (tk : L2N.Takes X W) (hg : Gl X x := by rfl) (hdb : (x == ("__debug__" : Str)) = false := by decide) :
    DS X ca W (.Raise (some (.Call (.Name x p) [.Constant (.str m) j p2] [] pos)) none pos2) (sRaise c) :=
  PS.imp (L2N.ps_raise hc tk (L2N.pmk_own PySem.F.excBase_ValueError T.x T.g T.k (raises_own T.b T.t) hg hdb)) fun T σ H ⟨L, env, s, S, e, p⟩ => p L H Keep.refl S
end
theorem wid_fn {E : XK} : Wid (fun cls d _ H => E cls d H) := fun _ _ _ _ _ h => h
theorem wid_0 : Wid W0 := fun _ _ _ _ _ h => h
section
variable {K : PySem.W.Frag} {ca : Nat → Addr} {L L2 : Lv} {H H2 : Hp} {s s2 : Store} {n : Nat}
mutual
/-- what was read before and is read now needs no later cell -/
theorem RD.narrow (w : Within L L2 n) : ∀ (d : D) (v0 v : V), RD K L H d v0 → RD K L2 H2 d v → RD K L H2 d v
  | .tup xs, v0, v, h, r => by
    simp only [RD] at h r ⊢
    obtain ⟨a0, vs0, e0, f0, rs0⟩ := h
    obtain ⟨a, vs, e, f, rs⟩ := r
    exact ⟨a, vs, e, f.within w, RDs.narrow w xs vs0 vs rs0 rs⟩
  | .lst xs, v0, v, h, r => by
    simp only [RD] at h r ⊢
    obtain ⟨a0, vs0, e0, f0, rs0⟩ := h
    obtain ⟨a, vs, e, f, rs⟩ := r
    exact ⟨a, vs, e, ⟨w.out f.1, w.outp f.2.1, f.2.2⟩, RDs.narrow w xs vs0 vs rs0 rs⟩
  | .dct ks xs, v0, v, h, r => by
    simp only [RD] at h r ⊢
    obtain ⟨a0, vs0, e0, f0, l0, rs0⟩ := h
    obtain ⟨a, vs, e, f, l, rs⟩ := r
    exact ⟨a, vs, e, ⟨w.out f.1, w.outp f.2.1, f.2.2⟩, l, RDs.narrow w xs vs0 vs rs0 rs⟩
  | .ref l, v0, v, h, r => by
    simp only [RD] at h r ⊢
    obtain ⟨a0, e0, q0⟩ := h
    obtain ⟨a, e, q⟩ := r
    refine ⟨a, e, ?_⟩
    have := prefix_get w.rho q0
    rw [q] at this; cases this
    exact q0
  | .scr ns, v0, v, h, r => by
    simp only [RD] at r ⊢
    obtain ⟨a, e, f⟩ := r
    exact ⟨a, e, f.within w⟩
  | .exc _ _, _, _, _, r => r
  | .non, _, _, _, r => r
  | .bl _, _, _, _, r => r
  | .int _, _, _, _, r => r
  | .str _, _, _, _, r => r
theorem RDs.narrow (w : Within L L2 n) : ∀ (ds : List D) (vs0 vs : List V), RDs K L H ds vs0 → RDs K L2 H2 ds vs → RDs K L H2 ds vs
  | [], _, _, _, r => r
  | x :: xs, _, _, h, r => by
    simp only [RDs] at h r
    obtain ⟨w0, ws0, rfl, r0, rs0⟩ := h
    obtain ⟨w1, ws1, rfl, r1, rs1⟩ := r
    exact .cons (RD.narrow w x w0 w1 r0 r1) (RDs.narrow w xs ws0 ws1 rs0 rs1)
end
theorem CellOk.narrow (w : Within L L2 n) {a : Addr} {c : Cell} (h : CellOk K ca L H a c) (r : CellOk K ca L2 H2 a c) : CellOk K ca L H2 a c := by
  cases c with
  | lst xs => obtain ⟨v0, _, h0⟩ := h; obtain ⟨v, e, h1⟩ := r; exact ⟨v, e, RDs.narrow w _ _ _ h0 h1⟩
  | dK ks xs => obtain ⟨v0, _, _, h0⟩ := h; obtain ⟨v, e, l, h1⟩ := r; exact ⟨v, e, l, RDs.narrow w _ _ _ h0 h1⟩
  | dT ks xs => obtain ⟨v0, _, _, h0⟩ := h; obtain ⟨v, e, l, h1⟩ := r; exact ⟨v, e, l, RDs.narrow w _ _ _ h0 h1⟩
  | ins k fs xs => obtain ⟨d0, v0, _, _, h0⟩ := h; obtain ⟨d, v, e, l, h1⟩ := r; exact ⟨d, v, e, l, RDs.narrow w _ _ _ h0 h1⟩
/-- behind a call that left the old cells as they were -/
theorem SR.back (S : SR K ca L s H) (k : Keep L H L2 H2) (S2 : SR K ca L2 s2 H2) (e : s2.take s.length = s) : Within L L2 s.length ∧ Keep L H L H2 ∧ SR K ca L s H2 := by
  have w : Within L L2 s.length := ⟨k.rho, S.len, k.pi⟩
  refine ⟨w, ⟨rfl, List.prefix_refl _, fun b o eb hb => ⟨(k.keep b o eb hb).1, hb⟩⟩, S.len, S.nd, fun l a c e1 e2 => ?_, fun b hb => ?_⟩
  · have hl : l < s.length := (List.getElem?_eq_some_iff.mp e2).1
    have e2' : s2[l]? = some c := by
      rw [← e, List.getElem?_take_of_lt hl] at e2
      exact e2
    exact (S.cell l a c e1 e2).narrow w (S2.cell l a c (prefix_get k.rho e1) e2')
  · obtain ⟨h1, o, h2⟩ := S.pi b hb
    exact ⟨h1, o, (k.keep b o h2 h1).1⟩
open Classical in
/-- without what it made: the result by itself, the store as it was -/
noncomputable def pureRet (fn : Fn) : Fn := fun ds s => match fn ds s with
  | .ok d s' => match frz s' s.length d with
    | some d' => if s'.take s.length = s then .ok d' s else .bad
    | none => .bad
  | .exc c s' => if s'.take s.length = s then .exc c s else .bad
  | .bad => .bad
theorem sp_pure {m : Nat} {fn : Fn} : ∀ vs H Q E, spOf K ca m (pureRet fn) vs H Q E → spOf K ca m fn vs H Q E := fun vs H Q E ⟨L, ds, s, hn, S, r, p⟩ => by
  refine ⟨L, ds, s, hn, S, r, ?_⟩
  unfold pureRet at p
  cases q : fn ds s with
  | bad => rw [q] at p; exact p.elim
  | exc c s2 =>
    rw [q] at p
    simp only at p
    split at p
    · rename_i ht
      intro L2 H2 k S2
      obtain ⟨w, k', S'⟩ := S.back k S2 ht
      exact p L H2 k' S'
    · exact p.elim
  | ok d s2 =>
    rw [q] at p
    simp only at p
    split at p
    · rename_i d' ef
      split at p
      · rename_i ht
        intro L2 v H2 k S2 rv
        obtain ⟨w, k', S'⟩ := S.back k S2 ht
        exact p L v H2 k' S' (frz_ok w S2 ef rv)
      · exact p.elim
    · exact p.elim
end
section
variable {P : Program} {w : World} {K : PySem.W.Frag} {mg : Str → Option Value} {base : Heap} {ca : Nat → Addr} {CX : CXT}
theorem fn_pure {k m : Nat} {f : Addr} {fd : FuncData} {ps : List Str} {fn : Fn} (F : FnOk P w K mg base CX k f fd ps (spOf K ca m fn)) : FnOk P w K mg base CX k f fd ps (spOf K ca m (pureRet fn)) := F.imp sp_pure
/-- at no level nothing is promised -/
theorem fn_zero {m k : Nat} {f : Addr} {fd : FuncData} {ps : List Str} : FnOk P w K mg base CX k f fd ps (spOf K ca m fun _ _ => .bad) :=
  ⟨fun vs H Q E ⟨_, _, _, _, _, _, p⟩ => p.elim, fun _ _ _ _ _ _ _ _ _ _ _ _ _ ⟨_, _, _, _, _, _, p⟩ => p.elim⟩
end
end DE
/-! DE9: small words for the printed derivations -/
namespace DE
open PySem PySem.Spec PyProof.Rows L2
theorem hu200 {k : Nat} {A : Around} (hr : Room k A) : A.units + 200 < cLine := by have := hr.un; omega
def GlobD (K : PySem.W.Frag) (mg : Str → Option Value) (x : Str) (d : D) : Prop := ∃ u v, mg x = some u ∧ RelV v u ∧ ∀ L H, RD K L H d v
section
variable {X : Cx} {ca : Nat → Addr} {W : WX} {pos : Pos}
theorem de_globD {x : Str} {d : D} (hg : Gl X x) (h : GlobD X.K X.mg x d) (hd : (x == ("__debug__" : Str)) = false := by decide) : DE X ca W (.Name x pos) (eC d) := by
  obtain ⟨u, v, h1, h2, h3⟩ := h
  exact de_glob hg h1 h2 h3 hd
theorem imp_lt : Imp2 X.K ca ltD (rI0 fun i j => .bl (decide (i < j))) := imp_cmp _
theorem imp_le : Imp2 X.K ca leD (rI0 fun i j => .bl (decide (i ≤ j))) := imp_cmp _
theorem imp_gt : Imp2 X.K ca gtD (rI0 fun i j => .bl (decide (j < i))) := imp_cmp _
theorem imp_ge : Imp2 X.K ca geD (rI0 fun i j => .bl (decide (j ≤ i))) := imp_cmp _
end
section
variable {P : Program} {w : World} {K : PySem.W.Frag} {mg : Str → Option Value} {base : Heap} {N : List Str} {qual : Str} {scope : Scope} {f : Addr} {cd : Value} {A : Around} {outer : List PySem.Env} {s : Shared} {H : Hp} {E : XK}
theorem tk_fn : L2N.Takes (cxOf (L2N.CX P w) P w K mg base N qual scope f cd A outer s H E) (fun cls d _ H => E cls d H) := L2N.takes_of rfl rfl rfl rfl
theorem hp_fn : PassesOwn (model P w) (cxOf (L2N.CX P w) P w K mg base N qual scope f cd A outer s H E).A (cxOf (L2N.CX P w) P w K mg base N qual scope f cd A outer s H E).env (cxOf (L2N.CX P w) P w K mg base N qual scope f cd A outer s H E).xe := passes_of rfl
end
namespace B
theorem max : bootBuiltins "max" = some (.builtin "max") := by decide +kernel
theorem min : bootBuiltins "min" = some (.builtin "min") := by decide +kernel
theorem abs : bootBuiltins "abs" = some (.builtin "abs") := by decide +kernel
theorem list : bootBuiltins "list" = some (.type "list") := by decide +kernel
theorem tuple : bootBuiltins "tuple" = some (.type "tuple") := by decide +kernel
theorem int : bootBuiltins "int" = some (.type "int") := by decide +kernel
theorem str : bootBuiltins "str" = some (.type "str") := by decide +kernel
theorem bool : bootBuiltins "bool" = some (.type "bool") := by decide +kernel
theorem dict : bootBuiltins "dict" = some (.type "dict") := by decide +kernel
end B
end DE
/-! DEH: within an except suite: the ends of a list and of a tuple that is unpacked, a comprehension over a list -/
namespace DE
open PySem PySem.Spec PyProof.Rows L2 HotX
section
variable {prog : Program} {w : World} {A : Around} {E : Value → Shared → Prop} {s : Shared}
theorem list_end_hot {it l x1 : Addr} {i : Nat} {items : Array Value} {Q : Option Value → Shared → Prop} (hot : HotAt A x1 s.heap) (hne : it ≠ x1) (hit : s.heap.IsListIter it l i) (hl : s.heap.IsList l items) (hx : items[i]? = none)
    (hQ : ∀ h', (∀ b o, b ≠ it → s.heap.get? b = some o → h'.get? b = some o) → Q none { s with heap := h' }) : wpAny (model prog w) A (pyNext (.ref it)) Q E s := by
  obtain ⟨o, ho, hc, hd⟩ := id hit
  obtain ⟨ol, hol, _, nl, hdl⟩ := hl
  obtain ⟨hh, o1, vs1, h1, d1, c1⟩ := hot
  unfold pyNext
  refine wpAny_bind (wpAny_attempt (wpAny_callSpecial?_slot (name := Str.ofString "__next__") hit.typeIs slot_listiter_next
    (wpAny_call_entry slot_listiter_next hit.typeIs entry_listiter_next ?_ (args_listiter_next _))))
  show wpAny _ _ (field (.ref it) 0 >>= _) _ _ s
  refine wpAny_bind (wpAny_field ho hd (x := .ref l) rfl ?_)
  show wpAny _ _ (if (Value.ref l == Value.none) = true then _ else _) _ _ s
  rw [if_neg (show ¬ ((Value.ref l == Value.none) = true) from Bool.false_ne_true)]
  show wpAny _ _ (field (.ref it) 1 >>= _) _ _ s
  refine wpAny_bind (wpAny_field ho hd (x := .int i 0) rfl ?_)
  show wpAny _ _ (seqItems? (.ref l) >>= _) _ _ s
  refine wpAny_bind (wpAny_seqItems hol hdl ?_)
  simp only [Int.toNat_natCast, hx]
  refine wpAny_bind (wpAny_rule (wpAny_bind (wpAny_setField ho hd (by simp) ?_)))
  show wpAny _ _ (newExc (.type "StopIteration") [] >>= _) _ _ _
  refine wpAny_bind ?_
  simp only [newExc, newTuple]
  refine wpAny_bind (wpAny_newObj_type ?_ (by size_fits))
  refine wpAny_bind (m := firstArgMember _ _) (wpAny_of_eq (a := Value.none) (by first | rfl | (simp only [firstArgMember]; rfl)) ?_)
  refine wpAny_newObj_type ?_ (by size_fits)
  have u1 : (s.heap.update it (Obj.mapFields (·.setIfInBounds 0 .none))).get? x1 = some o1 := by
    rw [Heap.get?_update_other _ _ hne]; exact h1
  refine raiseNew_hot ⟨hh, o1, vs1, Heap.get?_push_of_some _ (Heap.get?_push_of_some _ u1), d1, c1⟩ (Nat.ne_of_lt (Heap.lt_size (Heap.get?_push_of_some _ u1))) (Heap.get?_push_size _ rfl) rfl (by first | (simp; done) | (simp; omega) | (simp only [Array.size_append]; simp; omega)) ?_
  refine wpAny_bind (wpAny_isInstance (T := "StopIteration") (b := true) ⟨_, Heap.get?_update_self _ (Heap.get?_push_size _ rfl) rfl, rfl⟩ isSubtype_stop ?_)
  refine wpAny_pure (hQ _ fun b o hb e => ?_)
  have e2 : (s.heap.update it (Obj.mapFields (·.setIfInBounds 0 .none))).get? b = some o := by
    rw [Heap.get?_update_other _ _ (Ne.symm hb)]; exact e
  rw [Heap.get?_update_other _ _ (Nat.ne_of_gt (Heap.lt_size (Heap.get?_push_of_some _ e2)))]
  exact Heap.get?_push_of_some _ (Heap.get?_push_of_some _ e2)
theorem tuple_end_hot {it l x1 : Addr} {i : Nat} {items : Array Value} {Q : Option Value → Shared → Prop} (hot : HotAt A x1 s.heap) (hne : it ≠ x1) (hit : IsTupIter s.heap it l i) (hl : IsTup s.heap l items) (hx : items[i]? = none)
    (hQ : ∀ h', (∀ b o, b ≠ it → s.heap.get? b = some o → h'.get? b = some o) → Q none { s with heap := h' }) : wpAny (model prog w) A (pyNext (.ref it)) Q E s := by
  obtain ⟨o, ho, hc, hd⟩ := id hit
  obtain ⟨ol, hol, _, nl, hdl⟩ := hl
  obtain ⟨hh, o1, vs1, h1, d1, c1⟩ := hot
  unfold pyNext
  refine wpAny_bind (wpAny_attempt (wpAny_callSpecial?_slot (name := Str.ofString "__next__") (T := "tuple_iterator") ⟨o, ho, hc⟩ F.slot_tuple_iterator_next
    (wpAny_call_entry F.slot_tuple_iterator_next (T := "tuple_iterator") ⟨o, ho, hc⟩ F.entry_tuple_iterator_next ?_ (F.args_tuple_iterator_next_1 _))))
  show wpAny _ _ (field (.ref it) 0 >>= _) _ _ s
  refine wpAny_bind (wpAny_field ho hd (x := .ref l) rfl ?_)
  show wpAny _ _ (if (Value.ref l == Value.none) = true then _ else _) _ _ s
  rw [if_neg (show ¬ ((Value.ref l == Value.none) = true) from Bool.false_ne_true)]
  show wpAny _ _ (field (.ref it) 1 >>= _) _ _ s
  refine wpAny_bind (wpAny_field ho hd (x := .int i 0) rfl ?_)
  show wpAny _ _ (seqItems? (.ref l) >>= _) _ _ s
  refine wpAny_bind (wpAny_seqItems hol hdl ?_)
  simp only [Int.toNat_natCast, hx]
  refine wpAny_bind (wpAny_rule (wpAny_bind (wpAny_setField ho hd (by simp) ?_)))
  show wpAny _ _ (newExc (.type "StopIteration") [] >>= _) _ _ _
  refine wpAny_bind ?_
  simp only [newExc, newTuple]
  refine wpAny_bind (wpAny_newObj_type ?_ (by size_fits))
  refine wpAny_bind (m := firstArgMember _ _) (wpAny_of_eq (a := Value.none) (by first | rfl | (simp only [firstArgMember]; rfl)) ?_)
  refine wpAny_newObj_type ?_ (by size_fits)
  have u1 : (s.heap.update it (Obj.mapFields (·.setIfInBounds 0 .none))).get? x1 = some o1 := by
    rw [Heap.get?_update_other _ _ hne]; exact h1
  refine raiseNew_hot ⟨hh, o1, vs1, Heap.get?_push_of_some _ (Heap.get?_push_of_some _ u1), d1, c1⟩ (Nat.ne_of_lt (Heap.lt_size (Heap.get?_push_of_some _ u1))) (Heap.get?_push_size _ rfl) rfl (by first | (simp; done) | (simp; omega) | (simp only [Array.size_append]; simp; omega)) ?_
  refine wpAny_bind (wpAny_isInstance (T := "StopIteration") (b := true) ⟨_, Heap.get?_update_self _ (Heap.get?_push_size _ rfl) rfl, rfl⟩ isSubtype_stop ?_)
  refine wpAny_pure (hQ _ fun b o hb e => ?_)
  have e2 : (s.heap.update it (Obj.mapFields (·.setIfInBounds 0 .none))).get? b = some o := by
    rw [Heap.get?_update_other _ _ (Ne.symm hb)]; exact e
  rw [Heap.get?_update_other _ _ (Nat.ne_of_gt (Heap.lt_size (Heap.get?_push_of_some _ e2)))]
  exact Heap.get?_push_of_some _ (Heap.get?_push_of_some _ e2)
theorem hot_keep {x1 : Addr} {h h' : Heap} (hot : HotAt A x1 h) (k : ∀ o, h.get? x1 = some o → h'.get? x1 = some o) : HotAt A x1 h' := by
  obtain ⟨hh, o1, vs1, h1, d1, c1⟩ := hot
  exact ⟨hh, o1, vs1, k _ h1, d1, c1⟩
theorem hot_some {x1 : Addr} {h : Heap} (hot : HotAt A x1 h) : ∃ o, h.get? x1 = some o := by
  obtain ⟨hh, o1, vs1, h1, d1, c1⟩ := hot
  exact ⟨o1, h1⟩
theorem unpack_hot {t x1 : Addr} {items : Array Value} {Q : List Value → Shared → Prop} (hot : HotAt A x1 s.heap) (ht : IsTup s.heap t items)
    (hQ : ∀ h', Heap.ExtBut s.heap.objs.size s.heap h' → Q items.toList { s with heap := h' }) : wpAny (model prog w) A (unpackItems (.ref t) items.size none) Q E s := by
  have hlt : t ≠ s.heap.objs.size := by obtain ⟨o, ho, _⟩ := ht; exact Nat.ne_of_lt (Heap.lt_size ho)
  have hx : s.heap.objs.size ≠ x1 := by obtain ⟨o, ho⟩ := hot_some hot; exact Nat.ne_of_gt (Heap.lt_size ho)
  unfold unpackItems
  refine wpAny_bind ?_
  · unfold notIterableAtAll
    refine wpAny_bind (wpAny_specialOf ht.typeIs slot_tuple_iter.lookup ?_)
    refine wpAny_pure ?_
    simp only [Bool.false_eq_true, if_false]
    refine wpAny_bind (wpAny_holding (iter_tuple ht ?_))
    refine wpAny_bind (wpAny_holding (draw_tuple hlt items.size 0 _ _ ⟨_, Heap.get?_push_size _ rfl, rfl, rfl⟩ (ht.push _) (by omega) fun h₁ hit₁ hs₁ => ?_))
    have hall : List.take items.size (List.drop 0 items.toList) = items.toList := by
      rw [List.drop_zero]; exact List.take_of_length_le (by simp)
    rw [hall]
    rw [if_neg (by simp)]
    have ht₁ : IsTup h₁ t items := (ht.push _).extBut hs₁.extBut hlt
    refine wpAny_bind (wpAny_holding (tuple_end_hot (hot_keep hot (h' := h₁) fun o e => hs₁.extBut _ _ (Ne.symm hx) (Heap.get?_push_of_some _ e)) hx hit₁ ht₁ (by simp) fun h₂ he₂ => ?_))
    simp only [Option.isSome_none, Bool.false_eq_true, if_false]
    refine wpAny_pure (hQ h₂ fun b o hb e => he₂ b o hb (hs₁.extBut b o hb (Heap.get?_push_of_some _ e)))
theorem assign_hot {env : PySem.Env} {elts : List Expr} {x1'} {pos : Pos} {t x1 : Addr} {items : Array Value} {Q : Unit → Shared → Prop} (hot : HotAt A x1 s.heap) (ht : IsTup s.heap t items)
    (hn : (assignEach elts env).length = items.size) (hstar : (assignEach elts env).findIdx? (·.1) = none)
    (h : ∀ h', Heap.ExtBut s.heap.objs.size s.heap h' → wpAny (model prog w) A (assignInOrder ((assignEach elts env).map (·.2)) items.toList) Q E { s with heap := h' }) :
    wpAny (model prog w) A (assign (.Tuple elts x1' pos) env (.ref t)) Q E s := by
  rw [assign_Tuple]
  refine wpAny_bind (wpAny_standAt ?_)
  unfold unpack
  rw [hn, hstar]
  exact wpAny_bind (wpAny_holding (unpack_hot hot ht h))
end
/-- the handled exception at p, out of a block's reach -/
structure HotB (p : Addr × Obj) (s : Shared) (H : Hp) (fs fp : List Addr) : Prop where
  get : s.heap.get? p.1 = some p.2
  free : H p.1 = none
  nofs : p.1 ∉ fs
  nofp : p.1 ∉ fp
  ctx : ∃ vs : Array Value, p.2.data = .fields vs ∧ vs[2]? = some .none
theorem HotB.at {X : Cx} {p : Addr × Obj} {s0 : Shared} {H0 : Hp} {scope : Scope} {ce : PySem.Env} {fp : List Addr} (b : HotB p s0 H0 (frs X.stack) fp) (hh : X.A.handled = some (.ref p.1)) {pins : List (Addr × Obj)} {σ : St} {H : Hp} {s : Shared} (I : Inv (X.blk s0 H0 scope ce fp) pins σ H s) : HotAt X.A p.1 s.heap := by
  obtain ⟨vs, d, c⟩ := b.ctx
  exact ⟨hh, p.2, vs, I.base.keep p.1 p.2 b.get b.free b.nofs b.nofp, d, c⟩
structure TurnH (P : Program) (w : World) (K : PySem.W.Frag) (tg : Expr) (J : It) (fp : List Addr) (it : Addr) (tn : Nat → Heap → Prop) : Prop where
  mem : it ∈ fp
  obj : ∀ i h, tn i h → ∀ b ∈ fp, ∃ o, h.get? b = some o ∧ ∀ v, o.data ≠ .cell v
  keep : ∀ i h h', tn i h → (∀ b ∈ fp, ∀ o, h.get? b = some o → h'.get? b = some o) → tn i h'
  item : ∀ (X : Cx), X.prog = P → X.w = w → X.K = K → ∀ (i : Nat) (pins : List (Addr × Obj)) (s : Shared) (σ : St) (H : Hp) (E : Value → Shared → Prop), Inv X pins σ H s → (∀ b ∈ fp, FpOk X pins H b) → tn i s.heap → J.go i H →
    wpAny (model P w) X.A (pyNext (.ref it)) (fun r s1 => ∃ u, r = some u ∧
      wpAny (model P w) X.A (letOwnedTupleGo tg (.ref it) u) (fun _ s2 => ∃ x H', Inv X pins σ H' s2 ∧ RelV x u ∧ J.yld i H x H' ∧ tn (i + 1) s2.heap ∧ ∀ b ∈ fp, H' b = none) E s1) E s
  done : ∀ (X : Cx), X.prog = P → X.w = w → X.K = K → ∀ (i : Nat) (pins : List (Addr × Obj)) (s : Shared) (σ : St) (H : Hp) (E : Value → Shared → Prop) {x1 : Addr}, HotAt X.A x1 s.heap → x1 ∉ fp → Inv X pins σ H s → (∀ b ∈ fp, FpOk X pins H b) → tn i s.heap → J.stop i H →
    wpAny (model P w) X.A (pyNext (.ref it)) (fun r s1 => r = none ∧ Inv X pins σ H s1) E s
  self : ∀ (A : Around) (i : Nat) (s : Shared) (Q : Value → Shared → Prop) (E : Value → Shared → Prop), tn i s.heap → Q (.ref it) s → wpAny (model P w) A (pyIter (.ref it)) Q E s
def PIEH (X : Cx) (pins : List (Addr × Obj)) (σ : St) (tg : Expr) (R : It → Hp → Prop) (itv : Value) (s2 : Shared) : Prop :=
  ∃ (it : Addr) (fp : List Addr) (tn : Nat → Heap → Prop) (J : It) (H' : Hp), itv = .ref it ∧ Inv X pins σ H' s2 ∧ TurnH X.prog X.w X.K tg J fp it tn ∧ tn 0 s2.heap ∧ (∀ b ∈ fp, FpOk X pins H' b) ∧ R J H'
structure PIH (X : Cx) (tg iter : Expr) (wi : TI) : Prop where
  run : ∀ (pins : List (Addr × Obj)) (s : Shared) (σ : St) (H : Hp) (R : It → Hp → Prop), Inv X pins σ H s → wi σ H R →
    wpAny (model X.prog X.w) X.A (eval iter X.env) (fun v s1 => wpAny (model X.prog X.w) X.A (pyIter v) (PIEH X pins σ tg R) X.xe s1) X.xe s
theorem turnH_list {P : Program} {w : World} {K : PySem.W.Frag} {tg : Expr} (a it : Addr) : TurnH P w K tg (Itl K a) [it] it (fun i h => h.IsListIter it a i) where
  mem := (turn_list (P := P) (w := w) (K := K) (tg := tg) a it).mem
  obj := (turn_list (P := P) (w := w) (K := K) (tg := tg) a it).obj
  keep := (turn_list (P := P) (w := w) (K := K) (tg := tg) a it).keep
  item := by
    intro X hP hw hK i pins s σ H E I hf st hg
    subst hP hw hK
    obtain ⟨xs, x, hq, hx⟩ := hg
    obtain ⟨its, rv, p, hz⟩ := I.list hq
    obtain ⟨u, hu, ru⟩ := rv.get hx
    obtain ⟨f0, f1, f2, f3, f4, f5⟩ := hf it (by simp)
    refine wpAny_pyNext_list_item st p.isList (x := u) (by simpa using hu) fun h' st' sb => ?_
    have I1 : Inv X pins σ H { s with heap := h' } := I.turned (t' := s.toks) (fun b o hb e => (sb.2 b hb).trans e) f0 f1 f3 f4 f5
    obtain ⟨o, e, c, d⟩ := id st'
    exact ⟨u, rfl, go_of (s := { s with heap := h' }) e c d (by decide) ⟨x, H, I1, ru, ⟨rfl, fun ys hy => by rw [I.list_inj hy hq]; exact hx⟩, st', fun b hb => (hf b hb).1⟩⟩
  done := by
    intro X hP hw hK i pins s σ H E x1 hot hne I hf st hg
    subst hP hw hK
    obtain ⟨xs, hq, hx⟩ := hg
    obtain ⟨its, rv, p, hz⟩ := I.list hq
    obtain ⟨f0, f1, f2, f3, f4, f5⟩ := hf it (by simp)
    have hl := rv.length
    exact list_end_hot hot (fun z => hne (by simp [z])) st p.isList (by simp; omega) fun h' eb => ⟨rfl, I.turned (t' := s.toks) (fun b o hb e => eb b o hb e) f0 f1 f3 f4 f5⟩
  self := fun _ _ _ _ _ st h => wpAny_pyIter_listiter st h
section
variable {X : Cx} {tg : Expr}
theorem pi_listH {l : Expr} {tl : TE} (hl : PE X l tl) : PIH X tg l (iList X.K tl) := by
  refine ⟨fun pins s σ H R I h => ?_⟩
  refine thn (hl.run pins s σ H _ I h) fun v s1 ⟨x, H1, I1, r1, q1⟩ => ?_
  obtain ⟨a, e, ⟨xs, hq⟩, q⟩ := q1
  subst e
  cases r1
  obtain ⟨its, rv, p, hz⟩ := I1.list hq
  refine wpAny_pyIter_list p.isList ?_
  refine ⟨s1.heap.objs.size, [s1.heap.objs.size], _, _, H1, rfl, I1.kept (t' := s1.toks) fun b o e => Heap.get?_push_of_some _ e, turnH_list a _, ⟨_, Heap.get?_push_size _ rfl, rfl, rfl⟩, fun b hb => ?_, q⟩
  have e : b = s1.heap.objs.size := by simpa using hb
  subst e
  exact I1.fpOk (Nat.le_refl _) (I1.hok.fresh (Nat.le_refl _))
theorem pg_tupH {p : Addr × Obj} {s0 : Shared} {H0 : Hp} {scope : Scope} {ce : PySem.Env} {fp : List Addr} {es : List Expr} {k : Nat} {t : TGs} {n : Nat} {pos : Pos} (b : HotB p s0 H0 (frs X.stack) fp) (hh : X.A.handled = some (.ref p.1)) (h : PGs (X.blk s0 H0 scope ce fp) es t)
    (hn : (assignEach es (X.blk s0 H0 scope ce fp).env).length = n := by rfl) (hst : (assignEach es (X.blk s0 H0 scope ce fp).env).findIdx? (·.1) = none := by rfl) : PG (X.blk s0 H0 scope ce fp) (.Tuple es k pos) (gTup X.K n t) := by
  refine ⟨fun pins s σ H v u Q I r hw => ?_⟩
  obtain ⟨a, xs, e1, hq, hl, hw⟩ := hw
  subst e1
  cases r
  obtain ⟨its, rv, ht, hz⟩ := I.tuple hq
  refine assign_hot (b.at hh I) ht (by simp [hn, ← hl, rv.length]) hst fun h' hx => ?_
  have I1 : Inv (X.blk s0 H0 scope ce fp) pins σ H { s with heap := h' } := I.kept (t' := s.toks) fun b o e => hx b o (Nat.ne_of_lt (Heap.lt_size e)) e
  exact h.run pins _ σ H xs _ Q I1 (by simpa using rv) hw
theorem lc_coreH {p : Addr × Obj} {pins : List (Addr × Obj)} {s : Shared} {σ : St} {H : Hp} {Q : VK} {elt tg iter : Expr} {ifs : List Expr} {scope : Scope} {own : List (Str × Nat)} {pos pos' : Pos} {wi : TI} {g : TG} {tt : TT} {te : TE} {use : Option (Value → Sem Unit)} {Qf : Value → Shared → Prop}
    (hh : X.A.handled = some (.ref p.1)) (hv : ∃ vs : Array Value, p.2.data = .fields vs ∧ vs[2]? = some .none) (hpn : p ∈ X.pn) (hN : X.N.Nodup) (I : Inv X pins σ H s) (hi : PIH X tg iter wi) (ok : BlkOk X.N X.env.scope scope own)
    (hg : ∀ (s : Shared) (H : Hp) (C : Addr) (cl : List (Str × Addr)) (fp : List Addr), HotB p s H (frs X.stack) fp → PG (X.blk s H scope (compEnvC scope cl C X.env) fp) tg g) (ht : ∀ (s : Shared) (H : Hp) (C : Addr) (cl : List (Str × Addr)) (fp : List Addr), PTs (X.blk s H scope (compEnvC scope cl C X.env) fp) ifs tt)
    (he : ∀ (s : Shared) (H : Hp) (C : Addr) (cl : List (Str × Addr)) (fp : List Addr), PE (X.blk s H scope (compEnvC scope cl C X.env) fp) elt te) (hs : ∀ x, foldedSetIterable iter X.env x = pure x)
    (h : tLc wi g tt te (own.map (·.2)) σ H Q)
    (hRR : ∀ D C s' m H', Inv X pins σ H' s' → Q (.ref D) H' → s'.heap.Ns C m → FpOk X pins H' C → compPost (model X.prog X.w) X.A X.xe use Qf (.ref D) C (.ok .next) s') :
    wpAny (model X.prog X.w) X.A (comprehension (.ListComp elt [⟨tg, iter, ifs, 0⟩] scope pos) scope X.env pos' (newList []) false (eval iter X.env) use) Qf X.xe s := by
  have hfree : ∀ y ∈ scope.names, y.2 = .free → ∃ c, X.env.cells.lookup y.1 = some c := fun y hy e => by
    rcases ok.free y hy e with k | k
    · exact I.ok.has _ (.inl k)
    · exact I.ok.has _ (.inr k)
  refine wpAny_comprehension_free (use := use) rfl hs (closure_ok hfree) ok.kind (fun y hy e => by rw [ok.uniq y hy, e])
    (thn (hi.run pins s σ H _ I h) fun xv s1 hx => thn hx fun itv s2 h2 => ?_)
  obtain ⟨it, fp, tn, J, H2, e, I2, T, st2, f2, q⟩ := h2
  subst e
  refine wpAny_newObj_type (newEnv_comp ?_) (by show 0 ≤ sizeLine; decide)
  generalize hD : s2.heap.objs.size = D
  have hDn : H2 D = none := I2.hok.fresh (Nat.le_of_eq hD)
  obtain ⟨W, ⟨m0, w0⟩, turn⟩ := q D hDn
  -- the new list
  generalize hs3 : ({ s2 with heap := s2.heap.push { cls := .type "list", data := .seq ([] : List Value).toArray } } : Shared) = s3
  have I3 : Inv X pins σ (upd H2 D (.lst [])) s3 := by
    rw [← hs3]
    refine I2.laid (t' := s2.toks) (fun b o e => Heap.get?_push_of_some _ e) (Nat.le_of_eq hD) ⟨Nat.zero_le _, [], 0, .nil, ?_⟩
    rw [← hD]
    exact Heap.get?_push_size _ rfl
  have h3 : s3.heap = s2.heap.push { cls := .type "list", data := .seq ([] : List Value).toArray } := by rw [← hs3]
  have sz : ∀ b ∈ fp, b < s2.heap.objs.size := fun b hb => by
    obtain ⟨o, e, _⟩ := T.obj _ _ st2 b hb
    exact Heap.lt_size e
  have f3 : ∀ b ∈ fp, FpOk X pins (upd H2 D (.lst [])) b ∧ b < s3.heap.objs.size := fun b hb => by
    have hlt := sz b hb
    refine ⟨⟨?_, (f2 b hb).2⟩, by rw [h3, Heap.size_push]; exact Nat.lt_succ_of_lt hlt⟩
    rw [upd_ne (by rw [← hD]; exact Nat.ne_of_lt hlt)]
    exact (f2 b hb).1
  have st3 : tn 0 s3.heap := T.keep _ _ _ st2 fun b _ o e => by rw [h3]; exact Heap.get?_push_of_some _ e
  have I4 := block_start I3 ok hN f3
  have hb3 : HotB p s3 (upd H2 D (.lst [])) (frs X.stack) fp := by
    obtain ⟨e, n, ne, nf, d⟩ := I3.pin p (List.mem_append_left _ hpn)
    refine ⟨e, n, fun z => ?_, fun z => ?_, hv⟩
    · rcases List.mem_cons.mp (I3.stkSub p.1 z) with q | q
      · exact ne q
      · exact nf q
    · exact (f3 p.1 z).1.2.2.2.2.2 p (List.mem_append_left _ hpn) rfl
  have pg := hg s3 (upd H2 D (.lst [])) s3.heap.objs.size (cellsFrom (s3.heap.objs.size + 1) scope.names (cloFrom X.env.cells scope.names [])) fp hb3
  have pt := ht s3 (upd H2 D (.lst [])) s3.heap.objs.size (cellsFrom (s3.heap.objs.size + 1) scope.names (cloFrom X.env.cells scope.names [])) fp
  have pe := he s3 (upd H2 D (.lst [])) s3.heap.objs.size (cellsFrom (s3.heap.objs.size + 1) scope.names (cloFrom X.env.cells scope.names [])) fp
  show codeAny _ _ (.compStart (.ListComp elt [⟨tg, iter, ifs, 0⟩] scope pos) 0 (.ref it) (.ref D) (compEnvC scope (cellsFrom (s3.heap.objs.size + 1) scope.names (cloFrom X.env.cells scope.names [])) s3.heap.objs.size X.env)) (compPost (model X.prog X.w) X.A X.xe use Qf (.ref D) s3.heap.objs.size) { s3 with heap := pushCells (s3.heap.push { cls := .type "dict", data := .dict #[] }) scope.names }
  have nfp : ∀ b ∈ fp, (upd H2 D (.lst [])) b = none := fun b hb => (f3 b hb).1.1
  generalize hce : compEnvC scope (cellsFrom (s3.heap.objs.size + 1) scope.names (cloFrom X.env.cells scope.names [])) s3.heap.objs.size X.env = ce at I4 pg pt pe ⊢
  have cL : ce.locals = s3.heap.objs.size := by subst hce; rfl
  generalize hH3 : upd H2 D (.lst []) = H3 at I3 I4 pg pt pe w0 nfp f3 hb3
  generalize hs4 : ({ s3 with heap := pushCells (s3.heap.push { cls := .type "dict", data := .dict #[] }) scope.names } : Shared) = s4 at I4 ⊢
  have st4 : tn 0 s4.heap := T.keep _ _ _ st3 fun b _ o e => by rw [← hs4]; exact pushCells_keeps _ _ _ _ (Heap.get?_push_of_some _ e)
  have stat : ∀ {σ' : St} {H' : Hp} {s' : Shared}, Inv (X.blk s3 H3 scope ce fp) [] σ' H' s' → (∀ b ∈ fp, H' b = none) → ∀ b ∈ fp, FpOk (X.blk s3 H3 scope ce fp) [] H' b := fun {σ' H' s'} I' hn b hb =>
    ⟨hn b hb, (I'.ok.exf b hb).1, I'.ok.exfs b hb, .inl hb, fun x c e => (I'.ok.exf b hb).2 x c e, fun p hp => absurd (show p ∈ ([] : List (Addr × Obj)) ++ [] from hp) (by simp)⟩
  have loop : codeAny (model X.prog X.w) X.A (.compLoop (.ListComp elt [⟨tg, iter, ifs, 0⟩] scope pos) 0 (.ref it) (.ref D) ce) (compPost (model X.prog X.w) X.A X.xe use Qf (.ref D) s3.heap.objs.size) s4 := by
    refine compLoop_any (fun n s' => ∃ i H', Inv (X.blk s3 H3 scope ce fp) [] (wipe σ (own.map (·.2))) H' s' ∧ tn i s'.heap ∧ (∀ b ∈ fp, H' b = none) ∧ W i n H') ?_ m0 ⟨0, H3, I4, st4, nfp, w0⟩
    rintro n s5 ⟨i, H5, I5, st5, n5, w5⟩
    rcases turn i n H5 w5 with ⟨stop, qq⟩ | ⟨go, Nx, hNx, step⟩
    · have td := T.done (X.blk s3 H3 scope ce fp) rfl rfl rfl i [] s5 _ H5 (fun _ _ => False) (hb3.at hh I5) hb3.nofp I5 (stat I5 n5) st5 stop
      refine thnF td fun r s6 ⟨hr, I6⟩ => ?_
      subst hr
      -- back in the def's context
      have I7 : Inv X pins σ H5 s6 := I3.call' (ch := fp) I6.os I6.base I6.hok I6.bare fun b hb => ⟨(f3 b hb).1.2.2.2.1, (f3 b hb).1.2.1, (f3 b hb).1.2.2.2.2.1, (f3 b hb).1.2.2.2.2.2⟩
      have nC : H5 s3.heap.objs.size = none := by
        have z : H5 ce.locals = none := I6.free
        rw [cL] at z
        exact z
      obtain ⟨m, hn, _⟩ := I6.loc
      have hn : s6.heap.Ns ce.locals m := hn
      rw [cL] at hn
      exact hRR D s3.heap.objs.size s6 m H5 I7 qq hn (I3.fpOk (Nat.le_refl _) nC)
    · have ti := T.item (X.blk s3 H3 scope ce fp) rfl rfl rfl i [] s5 _ H5 (fun _ _ => False) I5 (stat I5 n5) st5 go
      refine thnF ti fun r s6 ⟨u, hr, h6⟩ => ?_
      subst hr
      refine thnF h6 fun _ s7 ⟨x, H7, I7, r7, y7, st7, n7⟩ => ?_
      have I7' := I7.pinned (stat I7 n7) (T.obj _ _ st7)
      refine thnF (pg.run _ s7 _ H7 x u _ I7' r7 (step x H7 y7)) fun _ s8 ⟨σ8, H8, I8, hw8, q8⟩ => ?_
      refine thnF (pt.run _ s8 σ8 H8 _ I8 q8) fun b s9 ⟨H9, I9, q9⟩ => ?_
      -- the turn's end
      have fin : ∀ {s' : Shared} {H' : Hp}, Inv (X.blk s3 H3 scope ce fp) ([] ++ pinsAt fp s7.heap) σ8 H' s' → Nx H' → ∃ m, m < n ∧ ∃ i H', Inv (X.blk s3 H3 scope ce fp) [] (wipe σ (own.map (·.2))) H' s' ∧ tn i s'.heap ∧ (∀ b ∈ fp, H' b = none) ∧ W i m H' := fun {s' H'} I' nx => by
        obtain ⟨m', hm, w'⟩ := hNx H' nx
        have pin' : ∀ b ∈ fp, ∀ o, s7.heap.get? b = some o → s'.heap.get? b = some o ∧ H' b = none := fun b hb o e =>
          let z := I'.pin (b, o) (List.mem_append_right _ (List.mem_append_right _ (mem_pinsAt hb e)))
          ⟨z.1, z.2.1⟩
        have hl : (wipe σ (own.map (·.2))).length = σ8.length := by rw [← hw8, wipe_length]
        refine ⟨m', hm, i + 1, H', (I'.unpinned (pins := [])).weak hl (fun j v e => ?_), T.keep _ _ _ st7 fun b hb o e => (pin' b hb o e).1, fun b hb => ?_, w'⟩
        · rw [← hw8] at e
          exact (wipe_some e).1
        · obtain ⟨o, e, _⟩ := T.obj _ _ st7 b hb
          exact (pin' b hb o e).2
      cases b with
      | false =>
        simp only [Bool.false_eq_true, if_false] at q9 ⊢
        exact fin I9 q9
      | true =>
        simp only [if_true] at q9 ⊢
        refine thnF (pe.run _ s9 σ8 H9 _ I9 q9) fun z s10 ⟨yv, H10, I10, r10, acc, hD10, hz10, nx⟩ => ?_
        exact app_ok (X := X.blk s3 H3 scope ce fp) I10 hD10 hz10 r10 fun s11 I11 => fin I11 nx
  exact codeAny_compStart_list loop (T.self X.A 0 _ _ _ st4 loop)

theorem pe_lcH {p : Addr × Obj} {elt tg iter : Expr} {ifs : List Expr} {scope : Scope} {own : List (Str × Nat)} {pos : Pos} {wi : TI} {g : TG} {tt : TT} {te : TE} (hh : X.A.handled = some (.ref p.1)) (hv : ∃ vs : Array Value, p.2.data = .fields vs ∧ vs[2]? = some .none) (hpn : p ∈ X.pn) (hN : X.N.Nodup) (hi : PIH X tg iter wi) (ok : BlkOk X.N X.env.scope scope own)
    (hg : ∀ (s : Shared) (H : Hp) (C : Addr) (cl : List (Str × Addr)) (fp : List Addr), HotB p s H (frs X.stack) fp → PG (X.blk s H scope (compEnvC scope cl C X.env) fp) tg g) (ht : ∀ (s : Shared) (H : Hp) (C : Addr) (cl : List (Str × Addr)) (fp : List Addr), PTs (X.blk s H scope (compEnvC scope cl C X.env) fp) ifs tt)
    (he : ∀ (s : Shared) (H : Hp) (C : Addr) (cl : List (Str × Addr)) (fp : List Addr), PE (X.blk s H scope (compEnvC scope cl C X.env) fp) elt te) (hs : ∀ x, foldedSetIterable iter X.env x = pure x := by intro _; rfl) :
    PE X (.ListComp elt [⟨tg, iter, ifs, 0⟩] scope pos) (tLc wi g tt te (own.map (·.2))) := by
  refine ⟨fun pins s σ H Q I h => ?_⟩
  rw [eval_ListComp]
  refine lc_coreH hh hv hpn hN I hi ok hg ht he hs h fun D C s' m H' I' q hn f => ⟨m, hn, fun h'' sb => ?_⟩
  obtain ⟨f0, f1, f2, f3, f4, f5⟩ := f
  exact ⟨.ref D, H', I'.turned (t' := s'.toks) (fun b o hb e => (sb.2 b hb).trans e) f0 f1 f3 f4 f5, rfl, q⟩
theorem ps_setLcH {p : Addr × Obj} {i : Nat} {y : Str} {py : Pos} {elt tg iter : Expr} {ifs : List Expr} {scope : Scope} {own : List (Str × Nat)} {pos spos : Pos} {wi : TI} {g : TG} {tt : TT} {te : TE} (hh : X.A.handled = some (.ref p.1)) (hv : ∃ vs : Array Value, p.2.data = .fields vs ∧ vs[2]? = some .none) (hpn : p ∈ X.pn) (hN : X.N.Nodup) (hy : X.N[i]? = some y) (hyl : X.env.scope.names.lookup y = some .local)
    (hsw : swapsWith (.ListComp elt [⟨tg, iter, ifs, 0⟩] scope pos) (some (.Name y py)) spos.line X.env = pure true) (hi : PIH X tg iter wi) (ok : BlkOk X.N X.env.scope scope own)
    (hg : ∀ (s : Shared) (H : Hp) (C : Addr) (cl : List (Str × Addr)) (fp : List Addr), HotB p s H (frs X.stack) fp → PG (X.blk s H scope (compEnvC scope cl C X.env) fp) tg g) (ht : ∀ (s : Shared) (H : Hp) (C : Addr) (cl : List (Str × Addr)) (fp : List Addr), PTs (X.blk s H scope (compEnvC scope cl C X.env) fp) ifs tt)
    (he : ∀ (s : Shared) (H : Hp) (C : Addr) (cl : List (Str × Addr)) (fp : List Addr), PE (X.blk s H scope (compEnvC scope cl C X.env) fp) elt te) (hs : ∀ x, foldedSetIterable iter X.env x = pure x := by intro _; rfl) :
    PS X (.Assign [.Name y py] (.ListComp elt [⟨tg, iter, ifs, 0⟩] scope pos) spos) (tAsg (tLc wi g tt te (own.map (·.2))) (gName i)) := by
  refine ⟨fun pins s σ H D I h => ?_⟩
  rw [exec_Assign_Name_used _ _ _ _ hsw]
  refine wpAny_bind (wpAny_standAt (wpAny_bind ?_))
  show wpAny _ X.A (do let _ ← comprehension (.ListComp elt [⟨tg, iter, ifs, 0⟩] scope pos) scope X.env (firstIterPos [⟨tg, iter, ifs, 0⟩] pos) (newList []) false (eval iter X.env) (some (assign (.Name y py) X.env))) _ _ s
  have h : tLc wi g tt te (own.map (·.2)) σ H (fun x H1 => gName i x σ H1 D.nx) := h
  refine wpAny_bind (thn (lc_coreH (Qf := fun _ s' => SP X pins D .next s') hh hv hpn hN I hi ok hg ht he hs h fun L C s' m H' I' q hn f => ?_) fun _ s' hq => wpAny_pure (wpAny_pure hq))
  show wpAny _ _ (assign (.Name y py) X.env (.ref L)) _ _ _
  refine wpAny_assign_Name (store_ok2 (v := V.ref L) I' hN hy (.inl hyl) rfl (fun s2 I2 ⟨a, sb, ha⟩ => ?_) (.inr hyl))
  obtain ⟨f0, f1, f2, f3, f4, f5⟩ := f
  have haC : C ≠ a := by
    rcases ha with z | z
    · rw [z]; exact f1
    · exact fun e => f4 y a z e.symm
  refine ⟨m, hn.sameBut sb haC, fun h3 sb3 => ?_⟩
  exact ⟨_, H', I2.turned (t' := s2.toks) (fun b o hb e => (sb3.2 b hb).trans e) f0 f1 f3 f4 f5, q⟩
end
end DE
/-! DET: try: return .. except X as e: return kind(e) -/
namespace DE
open PySem PySem.Spec PyProof.Rows L2 HotX
/-- a def called where p is handled -/
structure FnP (P : Program) (w : World) (K : PySem.W.Frag) (mg : Str → Option Value) (base : Heap) (CX : CXT) (k : Nat) (f : Addr) (fd : FuncData) (ps : List Str) (sp : (Addr × Obj) → Sp) : Prop where
  len : ∀ p vs H Q E, sp p vs H Q E → vs.length = ps.length
  run : ∀ (A : Around) (outer : List PySem.Env) (s : Shared) (H : Hp) (args : Args) (us : List Value) (vs : List V) (Q : VK) (E : XK) (p : Addr × Obj), L2H.RoomH k A → L2H.Hot1 A p → L2H.PinOk outer H s p → Env0 P w K mg base A outer s H → BindsTo s fd args (ps.zip us) → Vals vs us → sp p vs H Q E →
    codeAny (model P w) A (.call (.ref f) args) (CR CX outer P w H s Q E) s
theorem fn_ofP {CX : CXT} {P : Program} {w : World} {K : PySem.W.Frag} {mg : Str → Option Value} {base : Heap} {k : Nat} {f : Addr} {name qual : Str} {params : Arguments} {body : List Stmt} {scope : Scope} {dV kV doc pm cdv ct oc : Value} {an od : Option Addr}
    {osl : Array (Option Value)} {N ps : List Str} {sp : (Addr × Obj) → Sp} (lk : K.lookup f = some ⟨oc, od, .func (PySem.W.fnOf name qual params body scope dV kV doc pm an cdv ct), osl⟩) (hcd : PySem.W.codeIn K cdv qual = true) (S : FnScope N ps scope)
    (len : ∀ p vs H Q E, sp p vs H Q E → vs.length = ps.length)
    (hbody : ∀ (A : Around) (outer : List PySem.Env) (s : Shared) (H : Hp) (vs : List V) (Q : VK) (E : XK) (p : Addr × Obj), L2H.Hot1 A p → L2H.RoomH k (A.deeper (envOfC qual scope s.heap.objs.size f cdv)) → sp p vs H Q E →
      ∃ t, PSs (L2H.cxH CX P w K mg base N qual scope f cdv A outer s H E p) body t ∧ t { nx := fun _ H' => Q .non H', rt := Q } (L2.start N vs) H) :
    FnP P w K mg base CX (k + 1) f (PySem.W.fnOf name qual params body scope dV kV doc pm an cdv ct) ps sp := by
  refine ⟨len, fun A outer s H args us vs Q E p hr hot hpin e0 hb r hsp => ?_⟩
  have hl := len _ _ _ _ _ hsp
  have KX : K.In s.heap := e0.mod.kin.keeps fun b o e => (e0.bs b o e).1
  have lim : s.heap.NoLimit := e0.mod.nolimit.keeps fun b o e => (e0.bs b o e).1
  have hkind : ∀ y ∈ ps.zip us, scope.names.lookup y.1 = some .local ∨ (scope.names.lookup y.1 = some .cell ∧ ((cellsFrom (s.heap.objs.size + 1) scope.names []).lookup y.1).isSome = true) := fun ⟨n, v⟩ hy => by
    rcases S.par n (List.of_mem_zip hy).1 with q | q
    · exact .inl q
    · exact .inr ⟨q, PySem.W.cellsFrom_some _ _ _ (.inl q)⟩
  refine codeAny_call_function hr.depth (KX _ _ lk) rfl S.co S.gen rfl (PySem.W.codeRec_of KX hcd) (hb _ _ _ _ ?_)
  refine wpAny_newFunctionEnv_cells S.kind hkind fun env he s1 x => ?_
  subst he
  refine ⟨lim.keeps x.toInCall.keep, codeAny_func ?_⟩
  obtain ⟨t, ht, hq⟩ := hbody A outer s H vs Q E p hot (hr.deeper _) hsp
  have I : Inv (L2H.cxH CX P w K mg base N qual scope f cdv A outer s H E p) [] (L2.start N vs) H s1 := L2H.inv_startH S hpin e0 hl r x
  refine wpAny_mono (ht.run [] s1 (L2.start N vs) H _ I hq) (fun fl s' hs => ?_) fun e s' hs => hs
  have fin : ∀ {σ' : St} {H' : Hp} {v : V} {u : Value}, Inv (L2H.cxH CX P w K mg base N qual scope f cdv A outer s H E p) [] σ' H' s' → RelV v u → Q v H' → CE outer P w H s Q u s' :=
    fun {σ' H' v u} J rv q => ⟨v, H', J.os, J.bare, J.base, J.hok, rv, q⟩
  cases fl with
  | ret u =>
    obtain ⟨v, σ', H', J, rv, q⟩ := hs
    exact fin J rv q
  | next =>
    obtain ⟨σ', H', J, q⟩ := hs
    exact fin (v := V.non) (u := Value.none) J rfl q
  | brk =>
    obtain ⟨_, _, _, q⟩ := hs
    exact False.elim q
  | cont =>
    obtain ⟨_, _, _, q⟩ := hs
    exact False.elim q
section
variable {X : Cx} {CX : CXT} {k : Nat} {f C : Addr} {fd : FuncData} {ps : List Str} {sp : (Addr × Obj) → Sp} {E : XK} {x m : Str} {q pos apos : Pos} {e o : Expr} {es : List Expr} {ta : TE} {t : TA} {p : Addr × Obj}
theorem pe_callP (F : FnP X.prog X.w X.K X.mg X.base CX k f fd ps sp) (hr : L2H.RoomH k X.A) (hot : L2H.Hot1 X.A p) (hp : p ∈ X.pn) (hg : Gl X x) (hm : X.mg x = some (.ref f)) (hk : PySem.W.keepIn X.K (.ref f) = true) (hb : Binds X.K fd ps []) (hx : ∀ σ, PassesAt CX X σ E)
    (ha : PA X (e :: es) t) (hdb : (x == ("__debug__" : Str)) = false := by decide) (he : starEach (e :: es) X.env = (false, eval e X.env) :: starEach es X.env := by rfl) (hpl : (backTo pos (starEach es X.env)).any (·.1) = false := by rfl) :
    PE X (.Call (.Name x q) (e :: es) [] pos) (fun σ H Q => t σ H fun vs H1 => sp p vs H1 Q E) := by
  refine ⟨fun pins s σ H Q I h => ?_⟩
  refine wpAny_Call_Name_kw (ld_glob I hg hm ?_ hdb)
  refine PySem.W.callWith_K (h₀ := X.base) I.ok.mod.kin hk (thn (ha.run pos pins s σ H _ I h) fun us s1 ⟨vs, H1, I1, r, q⟩ => ⟨I1.kIn, ?_⟩) he hpl
  have hl : us.length = ps.length := by rw [← r.length]; exact F.len _ _ _ _ _ q
  have b := hb s1 us I1.kIn (by rw [List.append_nil]; exact hl)
  rw [List.append_nil] at b
  have P1 := I1.pin p (List.mem_append_left _ hp)
  have hpin : L2H.PinOk X.stack H1 s1 p := ⟨P1.1, P1.2.1, fun hm => (List.mem_cons.mp (I1.stkSub p.1 hm)).elim P1.2.2.1 P1.2.2.2.1, P1.2.2.2.2⟩
  refine wpAny_call (codeAny_mono (F.run X.A X.stack s1 H1 ⟨us, []⟩ us vs Q E p hr hot hpin I1.env0 b r q) fun r s' hq => ?_)
  cases r with
  | error e => exact hx σ pins H1 s1 e s' I1 hq
  | ok fl =>
    cases fl with
    | ret u => exact I1.after hq
    | next => exact False.elim hq
    | brk => exact False.elim hq
    | cont => exact False.elim hq
end
/-! ### isinstance of the handled exception -/
section
variable {X : Cx} {ca : Nat → Addr} {W : WX} {e : Expr} {m : EM} {pos p1 p2 : Pos}
theorem call_isP {p : Addr × Obj} {D : Addr} (C : ExcC X.K D) (hp : p ∈ X.pn) (hz : Zc (.ref D) none p.2) (hf : ∃ vs, p.2.data = .fields vs) : CallR X (.builtin "isinstance") (rIsE X.K D p.1) := by
  intro pins s σ H xs us Q I r h
  obtain ⟨c, cv, b, rfl, hcv, e, q⟩ := h
  cases r with
  | cons rx rr =>
    cases rr with
    | cons rt rr =>
      cases rr
      cases rx
      have ec := hcv _ rt
      subst ec
      obtain ⟨hget, _⟩ := I.pin p (List.mem_append.mpr (.inl hp))
      obtain ⟨vs, hv⟩ := hf
      have J : PySem.W.InstAt s.heap p.1 p.2 D none := by
        obtain ⟨a, oc, od, oda, osl⟩ := p
        obtain ⟨h1, h2⟩ := hz
        dsimp only at h1 h2 hv hget
        subst h1 h2 hv
        exact ⟨hget, rfl, rfl, trivial⟩
      exact PySem.W.kia_one (PySem.W.handS_kitx_exc C.hg C.hk C.hs C.hd C.ha C.hn C.ht C.hm) I.kIn J e (fun z => nomatch z) fun tk => ⟨.bl b, H, I.kept (t' := tk) fun _ _ z => z, rfl, q⟩
/-- the answer b of isinstance(e, X) for an exception of the class c at a -/
def isE (c : Nat) (a : Addr) (b : Bool) (m : EM) : EM := fun env s => (m env s).bind fun d s => match d with
  | .exc c' a' => if c' = c ∧ a' = a then .ok (.bl b) s else .bad
  | _ => .bad
theorem de_isE {p : Addr × Obj} {c : Nat} {b : Bool} {T : Str} {C : Addr} (hT : X.mg T = some (.ref C)) (hC : ExcC X.K (ca c)) (hp : p ∈ X.pn) (hz : Zc (.ref (ca c)) none p.2) (hf : ∃ vs, p.2.data = .fields vs) (hk : PySem.W.kitOne X.K (.ref (ca c)) (.ref C) = some b) (hm : X.mg "isinstance" = none) (he : DE X ca W e m)
    (hg : Gl X "isinstance" := by rfl) (hgT : Gl X T := by rfl) (hTd : (T == ("__debug__" : Str)) = false := by decide)
    (h1 : starEach (.Name T p2 :: []) X.env = (false, eval (.Name T p2) X.env) :: starEach [] X.env := by rfl) (h2 : starEach (e :: [.Name T p2]) X.env = (false, eval e X.env) :: starEach [.Name T p2] X.env := by rfl) (hpl : (backTo pos (starEach [.Name T p2] X.env)).any (·.1) = false := by rfl) :
    DE X ca W (.Call (.Name "isinstance" p1) [e, .Name T p2] [] pos) (isE c p.1 b m) :=
  PE.imp (pe_callB (call_isP hC hp hz hf) hg hm boot_isinstance (pa_cons he (pa_cons (pe_glob (v := .ref C) hgT hT rfl hTd) pa_nil h1) h2) (by decide) (by decide) h2 hpl) fun σ H Q ⟨L, env, s, S, e, q⟩ =>
    ⟨L, env, s, S, e, q.bind.imp fun v H1 ⟨L1, s1, d, k1, S1, r1, q1⟩ => by
      split at q1
      · split at q1
        · rename_i hh
          simp only [RD] at r1
          subst r1
          exact ⟨.ref C, .ref C, b, by rw [hh.2], fun u hu => hu, hk, q1 L1 _ H1 Keep.refl S1 rfl⟩
        · exact q1.elim
      · exact q1.elim⟩
theorem de_isEV {p : Addr × Obj} {c : Nat} (hC : ExcC X.K (ca c)) (hp : p ∈ X.pn) (hz : Zc (.ref (ca c)) none p.2) (hf : ∃ vs, p.2.data = .fields vs) (hk : PySem.W.kitOne X.K (.ref (ca c)) (.type "ValueError") = some true) (hm : X.mg "isinstance" = none) (hT : X.mg "ValueError" = none) (he : DE X ca W e m)
    (hg : Gl X "isinstance" := by rfl) (hgT : Gl X "ValueError" := by rfl)
    (h1 : starEach (.Name "ValueError" p2 :: []) X.env = (false, eval (.Name "ValueError" p2) X.env) :: starEach [] X.env := by rfl) (h2 : starEach (e :: [.Name "ValueError" p2]) X.env = (false, eval e X.env) :: starEach [.Name "ValueError" p2] X.env := by rfl) (hpl : (backTo pos (starEach [.Name "ValueError" p2] X.env)).any (·.1) = false := by rfl) :
    DE X ca W (.Call (.Name "isinstance" p1) [e, .Name "ValueError" p2] [] pos) (isE c p.1 true m) :=
  PE.imp (pe_callB (call_isP hC hp hz hf) hg hm boot_isinstance (pa_cons he (pa_cons (pe_bltn (v := .ty "ValueError") hgT hT (by decide +kernel) rfl (by decide) (by decide)) pa_nil h1) h2) (by decide) (by decide) h2 hpl) fun σ H Q ⟨L, env, s, S, e, q⟩ =>
    ⟨L, env, s, S, e, q.bind.imp fun v H1 ⟨L1, s1, d, k1, S1, r1, q1⟩ => by
      split at q1
      · split at q1
        · rename_i hh
          simp only [RD] at r1
          subst r1
          exact ⟨.ty "ValueError", .type "ValueError", true, by rw [hh.2], fun u hu => hu, hk, q1 L1 _ H1 Keep.refl S1 rfl⟩
        · exact q1.elim
      · exact q1.elim⟩
end

/-! ### the law's kind of a refusal -/
/-- what is known of the five refusals 1 to 5 under 0 -/
structure ExK (K : PySem.W.Frag) (ca : Nat → Addr) : Prop where
  c : ∀ i, 1 ≤ i → i ≤ 5 → ExcC K (ca i)
  ko : ∀ i j, 1 ≤ i → i ≤ 5 → 1 ≤ j → j ≤ 5 → PySem.W.kitOne K (.ref (ca i)) (.ref (ca j)) = some (decide (i = j))
  kv : ∀ i, 1 ≤ i → i ≤ 5 → PySem.W.kitOne K (.ref (ca i)) (.type "ValueError") = some true
  xm : ∀ i, 1 ≤ i → i ≤ 5 → PySem.W.exmOne K (.ref (ca i)) (.ref (ca 0)) = some true
def kw (c : Nat) : Str := match c with | 1 => "letters" | 2 => "pattern" | 3 => "great" | 4 => "text" | _ => "room"
def kindD (c : Nat) : D := .lst [.str (kw c)]
def itL (m : EM) : IM := fun env s => (m env s).bind fun d s => match d with
  | .lst xs => .ok (xs, none) s
  | _ => .bad
section
variable {X : Cx} {ca : Nat → Addr} {W : WX} {e tg : Expr} {m : EM}
theorem PIH.imp {X : Cx} {tg e : Expr} {t t' : TI} (h : PIH X tg e t) (i : ∀ σ H Q, t' σ H Q → t σ H Q) : PIH X tg e t' := ⟨fun pins s σ H Q I q => h.run pins s σ H Q I (i σ H Q q)⟩
theorem dih_list (h : DE X ca W e m) : PIH X tg e (tI X.K ca W (itL m)) := PIH.imp (pi_listH h) fun σ H Q ⟨L, env, s, S, e, p⟩ =>
  ⟨L, env, s, S, e, p.bind.imp fun v H1 ⟨L1, s1, d, k1, S1, r1, p1⟩ => by
    split at p1
    · simp only [RD] at r1
      obtain ⟨a, vs, rfl, f, rs⟩ := r1
      exact ⟨a, rfl, ⟨vs, f.sq⟩, p1 L1 _ H1 Keep.refl S1 (walks_list f rs)⟩
    · exact p1.elim⟩
end
noncomputable def m_kind (c : Nat) (a : Addr) : SM :=
  (sSeq (sSet 1 (eLst (aCons (eTup (aCons (eC (.str "letters")) (aCons (isE c a (decide (c = 1)) (eVar 0)) aNil))) (aCons (eTup (aCons (eC (.str "pattern")) (aCons (isE c a (decide (c = 2)) (eVar 0)) aNil))) aNil))))
  (sSeq (sSet 1 (e2 addD (eVar 1) (eLst (aCons (eTup (aCons (eC (.str "great")) (aCons (isE c a (decide (c = 3)) (eVar 0)) aNil))) (aCons (eTup (aCons (eC (.str "text")) (aCons (isE c a (decide (c = 4)) (eVar 0)) aNil))) aNil)))))
  (sSeq (sSet 1 (eLc (itL (e2 addD (eVar 1) (eLst (aCons (eTup (aCons (eC (.str "room")) (aCons (isE c a (decide (c = 5)) (eVar 0)) aNil))) aNil)))) (.two 2 3) [2, 3] (tVal (eVar 3)) (eVar 2)))
  (sRet (e2 mulD (eVar 1) (eCall intD (aCons (eAnd (e2 (eqD false) (eCall lenD (aCons (eVar 1) aNil)) (eC (.int 1))) (isE c a true (eVar 0))) aNil)))))))
theorem kind_eval (c : Nat) (a : Addr) (s : Store) (h1 : 1 ≤ c) (h5 : c ≤ 5) : pureRet (bodyF 4 (m_kind c a)) [.exc c a] s = .ok (kindD c) s := by
  have hc : c = 1 ∨ c = 2 ∨ c = 3 ∨ c = 4 ∨ c = 5 := by omega
  rcases hc with rfl | rfl | rfl | rfl | rfl <;>
    simp [pureRet, bodyF, m_kind, env0, sSeq, sSet, eLst, aCons, aNil, eTup, eC, isE, eVar, R.bind, R.bindS, RS.bind, LINE, e2, addD, rdL, line_eq, eLc, itL, lcD, finL, setT, wipeE, tVal, sRet, mulD, eCall, intD, eAnd, eqD, res, frz, sub, lenD, rdS, layD, depD, eqv, pyOf, PyData.eqv, kindD, kw, repL, subs, BIG]
end DE
/-! DEU: the body of the law's kind, try .. except -/
namespace DE
open PySem PySem.Spec PyProof.Rows L2 HotX
section
variable {X : Cx} {ca : Nat → Addr} {W : WX} {tg iter elt : Expr} {ifs : List Expr} {pos spos py : Pos}
variable {scope : Scope} {own : List (Str × Nat)} {t : Tgt} {tt : TM} {em : EM} {im : IM}
theorem ds_setLcH {p : Addr × Obj} (i : Nat) {y : Str} (hot : L2H.Hot1 X.A p) (hpn : p ∈ X.pn) (hN : X.N.Nodup) (hi : PIH X tg iter (tI X.K ca W im)) (ok : BlkOk X.N X.env.scope scope own) (hv : inT (own.map (·.2)) t)
    (hg : ∀ (s : Shared) (H : Hp) (C : Addr) (cl : List (Str × Addr)) (fp : List Addr), HotB p s H (frs X.stack) fp → PG (X.blk s H scope (compEnvC scope cl C X.env) fp) tg (gT X.K t)) (ht : Blk X scope fun Y => DTs Y ca W0 ifs tt) (he : Blk X scope fun Y => DE Y ca W0 elt em)
    (hy : X.N[i]? = some y := by rfl) (hyl : X.env.scope.names.lookup y = some .local := by rfl) (hsw : swapsWith (.ListComp elt [⟨tg, iter, ifs, 0⟩] scope pos) (some (.Name y py)) spos.line X.env = pure true := by exact sw_true rfl rfl rfl (by decide +kernel))
    (hs : ∀ x, foldedSetIterable iter X.env x = pure x := by intro _; rfl) : DS X ca W (.Assign [.Name y py] (.ListComp elt [⟨tg, iter, ifs, 0⟩] scope pos) spos) (sSet i (eLc im t (own.map (·.2)) tt em)) :=
  PS.imp (ps_setLcH (g := gT X.K t) (tt := tT X.K ca W0 tt) (te := tE X.K ca W0 em) hot.1 hot.2 hpn hN hy hyl hsw hi ok hg ht he hs) fun T σ H ⟨L, env, s, S, e, p⟩ =>
    lc_of hv S e (lc_post (p.ofR.imp fun v H1 ⟨L1, s1, d, k1, S1, r1, p1⟩ => p1 L1 _ H1 Keep.refl S1 ((e.mono k1.mono).set r1)))
theorem tg_twoH {p : Addr × Obj} (i j : Nat) {s0 : Shared} {H0 : Hp} {ce : PySem.Env} {fp : List Addr} {x y : Str} {p1 p2 : Pos} {k : Nat} (hh : X.A.handled = some (.ref p.1)) (b : HotB p s0 H0 (frs X.stack) fp) (hN : X.N.Nodup) (hi : X.N[i]? = some x := by rfl) (hj : X.N[j]? = some y := by rfl)
    (hx : Loc (X.blk s0 H0 scope ce fp).env.scope x := by first | exact Or.inl rfl | exact Or.inr rfl) (hf : (X.blk s0 H0 scope ce fp).fn x = true ∨ (X.blk s0 H0 scope ce fp).env.scope.names.lookup x = some .local := by first | exact .inl rfl | exact .inr rfl | assumption)
    (hy : Loc (X.blk s0 H0 scope ce fp).env.scope y := by first | exact Or.inl rfl | exact Or.inr rfl) (hfy : (X.blk s0 H0 scope ce fp).fn y = true ∨ (X.blk s0 H0 scope ce fp).env.scope.names.lookup y = some .local := by first | exact .inl rfl | exact .inr rfl | assumption) : PG (X.blk s0 H0 scope ce fp) (.Tuple [.Name x p1, .Name y p2] k pos) (gT X.K (.two i j)) :=
  pg_tupH b hh (pgs_cons (pg_name hN hi hx hf) (pgs_cons (pg_name hN hj hy hfy) pgs_nil))
end
theorem huH {k : Nat} {A : Around} (hr : L2H.RoomH k A) : A.units + 200 < cLine := by have := hr.un; omega
/-! ### its promise -/
def spKind (K : PySem.W.Frag) (ca : Nat → Addr) : (Addr × Obj) → Sp := fun p vs H Q _ => ∃ L s c, 1 ≤ c ∧ c ≤ 5 ∧ vs = [.ref p.1] ∧ L2N.Zn (.ref (ca c)) none p.2 ∧ SR K ca L s H ∧ ∀ L' v H', Keep L H L' H' → SR K ca L' s H' → RD K L' H' (kindD c) v → Q v H'
section
variable {P : Program} {w : World} {K : PySem.W.Frag} {mg : Str → Option Value} {base : Heap} {ca : Nat → Addr}
theorem fn_kind {x qual : Str} {st : Stmt} {f : Addr} {fd : FuncData} {N : List Str} {nm : Str} {k : Nat} (hn : N.length = 4) (F : Fun K x qual st f fd) (S : FnScope N [nm] (defScope st))
    (hbody : ∀ (X : Cx) (p : Addr × Obj) (c : Nat), (∃ cdv A outer s H E, X = L2H.cxH (L2N.CX P w) P w K mg base N qual (defScope st) f cdv A outer s H E p) → L2H.RoomH k X.A → L2H.Hot1 X.A p → p ∈ X.pn → 1 ≤ c → c ≤ 5 → Zc (.ref (ca c)) none p.2 → DSs X ca W0 (defBody st) (m_kind c p.1)) :
    FnP P w K mg base (L2N.CX P w) (k + 1) f fd [nm] (spKind K ca) := by
  obtain ⟨oc, od, kV, doc, pm, an, cdv, ct, osl, rfl, lk, hcd⟩ := F.ex
  refine fn_ofP lk hcd S (fun p vs H Q E h => ?_) (fun A outer s H vs Q E p hot hr h => ?_)
  · obtain ⟨L, s, c, _, _, rfl, _⟩ := h
    rfl
  · obtain ⟨L, s', c, h1, h5, rfl, hz, SS, q⟩ := h
    have hsp : spOf K ca 1 (pureRet (bodyF 4 (m_kind c p.1))) [.ref p.1] H Q (fun _ _ _ => False) := by
      refine ⟨L, [.exc c p.1], s', rfl, SS, .cons ?_ .nil, ?_⟩
      · simp only [RD]
      · rw [kind_eval c p.1 s' h1 h5]
        exact q
    obtain ⟨L2, ds, s2, hd, S2, r2, p2⟩ := sp_pure _ _ _ _ hsp
    refine ⟨_, hbody _ p c ⟨cdv, A, outer, s, H, E, rfl⟩ hr hot (List.mem_singleton.mpr rfl) h1 h5 hz.zc, L2, env0 N.length ds, s2, S2, er_start r2, ?_⟩
    rw [hn]
    unfold bodyF at p2
    cases q : m_kind c p.1 (env0 4 ds) s2 with
    | next env' s1 =>
      rw [q] at p2
      exact fun L' σ' H' k' S' _ => p2 L' .non H' k' S' rfl
    | brk env s => rw [q] at p2; exact p2.elim
    | cnt env s => rw [q] at p2; exact p2.elim
    | ret d s => rw [q] at p2; exact p2
    | exc c s => rw [q] at p2; exact p2
    | bad => rw [q] at p2; exact p2.elim
end
/-! ### try: .. except X as e: return kind(e) -/
def WL (n : Nat) (W : WX) : WX := fun c d _ H => ∀ σ', σ'.length = n → W c d σ' H
theorem wid_WL {n : Nat} {W : WX} : Wid (WL n W) := fun _ _ _ _ _ h => h
theorem takes_WL {X : Cx} {W : WX} (t : L2N.Takes X W) : L2N.Takes X (WL X.N.length W) := fun u s' ⟨a, B, sI, pins, σ, H, cls, d, e, I, nb, up, sky, na, os, ag, w⟩ =>
  t u s' ⟨a, B, sI, pins, σ, H, cls, d, e, I, nb, up, sky, na, os, ag, w σ I.len⟩
def sTry (i : Nat) (m : SM) : SM := fun env s => if i < env.length then (match m env s with
  | .exc c s' => if 1 ≤ c ∧ c ≤ 5 then .ret (kindD c) s' else .bad
  | r => r) else .bad
def tKind (K : PySem.W.Frag) (ca : Nat → Addr) (i : Nat) (a : Addr) (c : Nat) : TS := fun D σ H => 1 ≤ c ∧ c ≤ 5 ∧ σ[i]? = some (some (.ref a)) ∧ ∃ L s, SR K ca L s H ∧ ∀ L' v H', Keep L H L' H' → SR K ca L' s H' → RD K L' H' (kindD c) v → D.rt v H'
section
variable {X : Cx} {ca : Nat → Addr} {W : WX} {m : SM} {pos p1 p2 p3 p4 : Pos}
/-- the suite -/
theorem suite_kind {i : Nat} {x n : Str} {j : Nat} {f a : Addr} {fd : FuncData} {nm : Str} {oe : Obj} {pn : List (Addr × Obj)} {c : Nat} (F : FnP X.prog X.w X.K X.mg X.base (L2N.CX X.prog X.w) 1 f fd [nm] (spKind X.K ca)) (hr : Room (j + 1) X.A) (hm : X.mg x = some (.ref f)) (hk : PySem.W.keepIn X.K (.ref f) = true) (hb : Binds X.K fd [nm] [])
    (hz : L2N.Zn (.ref (ca c)) none oe) (hv : ∃ vs, oe.data = .fields vs) (hg : Gl X x := by rfl) (hi : X.N[i]? = some n := by rfl) (hvs : Vis X.env.scope n := by first | exact Or.inl rfl | exact Or.inr (Or.inl rfl) | exact Or.inr (Or.inr rfl)) (hdb : (x == ("__debug__" : Str)) = false := by decide) (hd : (n == ("__debug__" : Str)) = false := by decide)
    (hcd : (n == ("__classdict__" : Str)) = false := by decide) (he : starEach [.Name n p2] X.env = [(false, eval (.Name n p2) X.env)] := by rfl) :
    PSs (X.suite a ((a, oe) :: pn)) [.Return (some (.Call (.Name x p1) [.Name n p2] [] p3)) p4] (tKind X.K ca i a c) := by
  have hot : L2H.Hot1 (X.suite a ((a, oe) :: pn)).A (a, oe) := ⟨rfl, by obtain ⟨vs, e⟩ := hv; exact ⟨vs, e, hz.2.2 vs e⟩⟩
  have hr' : L2H.RoomH 1 (X.suite a ((a, oe) :: pn)).A := ⟨by have := hr.dp; show X.A.depth + 3 * 1 + 5 < _; omega, by have := hr.un; show X.A.units + 16 * 1 + 200 < _; omega⟩
  have hv2 : PE (X.suite a ((a, oe) :: pn)) (.Name n p2) (tVar i) := pe_var hi hvs hd hcd
  have hc := pe_callP (X := X.suite a ((a, oe) :: pn)) (E := fun _ _ _ => False) (pos := p3) (q := p1) F hr' hot List.mem_cons_self hg hm hk hb (fun σ pins H s e s' I cx => by
    obtain ⟨_, _, _, _, _, _, _, _, _, _, _, _, z⟩ := cx
    exact z.elim) (pa_cons hv2 pa_nil he) hdb he (by rfl)
  refine PSs.imp (pss_one (ps_ret hc)) fun D σ H h => ?_
  obtain ⟨h1, h5, hs, L, s, S, q⟩ := h
  exact ⟨_, hs, L, s, c, h1, h5, rfl, hz, S, q⟩
theorem ds_try {x n : Str} (i : Nat) {body suite : List Stmt} {b₀ : Stmt} (hN : X.N.Nodup) (hs : X.stack = X.env :: X.outer) (hf : X.env.frame = some X.env.locals) (hm : X.mg x = some (.ref (ca 0))) (hW : Wid W) (tk : L2N.Takes X W) (ek : ExK X.K ca)
    (hsu : ∀ (a : Addr) (oe : Obj) (c : Nat) (pn : List (Addr × Obj)), L2N.Zn (.ref (ca c)) none oe → (∃ vs, oe.data = .fields vs) → PSs (X.suite a ((a, oe) :: pn)) (b₀ :: suite) (tKind X.K ca i a c))
    (hb : ∀ (W' : WX) (pn : List (Addr × Obj)) (xe : Value → Shared → Prop), Wid W' → L2N.Takes (X.tr pn xe) W' → PassesOwn (model X.prog X.w) X.A X.env xe → DSs (X.tr pn xe) ca W' body m)
    (hi : X.N[i]? = some n := by rfl) (hln : X.env.kindOf n = some .local := by rfl) (hg : Gl X x := by rfl) (hdb : (x == ("__debug__" : Str)) = false := by decide) :
    DS X ca W (.Try body [.ExceptHandler (some (.Name x p1)) (some n) (b₀ :: suite) p2] [] [] pos) (sTry i m) := by
  refine PS.imp (L2N.ps_try_as (c := .ref (ca 0)) (Wout := W) (ts := fun a cls d D σ H => ∃ c, cls = .ref (ca c) ∧ d = none ∧ tKind X.K ca i a c D σ H) (tb := fun W' => tS X.K ca (WL X.N.length W') m) hs hf hN hi hln ⟨hg, hdb, .inl hm⟩ tk
    (fun W' pn xe tk' ho => hb _ pn xe wid_WL (takes_WL (X := X.tr pn xe) tk') ho) (fun a oe cls d pn hz hv => ⟨fun pins s σ H D I h => ?_⟩)) fun D σ H h => ?_
  · obtain ⟨c, rfl, rfl, h⟩ := h
    exact (hsu a oe c pn hz hv).run pins s σ H D I h
  · obtain ⟨L, env, s, S, e, p⟩ := h
    refine ⟨L, env, s, S, e, ?_⟩
    unfold sTry at p
    split at p
    case isFalse => exact p.elim
    rename_i hil
    cases q : m env s with
    | next env' s1 => rw [q] at p; exact p
    | brk env s => rw [q] at p; exact p
    | cnt env s => rw [q] at p; exact p
    | ret d s => rw [q] at p; exact p
    | bad => rw [q] at p; exact p.elim
    | exc c s' =>
      rw [q] at p
      simp only at p
      split at p
      case isFalse => exact p.elim
      rename_i hc
      intro L' H' k' S' σ' hl
      refine ⟨true, ek.xm c hc.1 hc.2, fun _ a ha => ⟨c, rfl, rfl, hc.1, hc.2, ?_, L', s', S', fun L2 v H2 k2 S2 r => p L2 v H2 (k'.trans k2) S2 r⟩, fun h => by cases h⟩
      have : i < X.N.length := by
        rcases List.getElem?_eq_some_iff.mp hi with ⟨h, _⟩
        exact h
      simp [List.getElem?_set, hl, this]
end
/-! ### small dicts -/
section
variable {X : Cx} {ca : Nat → Addr} {W : WX} {pos p1 p2 : Pos}
theorem new_dct {K : PySem.W.Frag} {L : Lv} {s : Store} {H : Hp} {Q : VK} {E : Nat → Hp → Prop} (S : SR K ca L s H) {ks : List Key} {ds : List D} {vs : List V} (hl : ks.length = vs.length) (r : RDs K L H ds vs) (p : post K ca (RD K) L H (.ok (.dct ks ds) s) Q E) : ∀ q, H q = none → Q (.ref q) (upd H q (.dK (ks.zip vs))) := fun q hq => by
  obtain ⟨k, S'⟩ := S.new hq (.dK (ks.zip vs))
  have f := S.fresh hq
  refine p L _ _ k S' ?_
  simp only [RD]
  exact ⟨q, vs, rfl, ⟨f.1, f.2, upd_same⟩, hl, RDs.mono k.mono _ _ r⟩
theorem de_dct0 : DE X ca W (.Dict [] [] pos) (eC (.dct [] [])) := PE.imp pe_dnewK fun σ H Q ⟨L, env, s, S, e, p⟩ => new_dct (ks := []) S rfl .nil p
theorem upd_upd {H : Hp} {p : Addr} {a b : HO} : upd (upd H p a) p b = upd H p b := by
  funext q
  unfold upd
  split <;> rfl
theorem de_dct1 {x : Str} {n : Int} {k1 k2 : Nat} : DE X ca W (.Dict [some (.Constant (.str x) k1 p1)] [.Constant (.int n) k2 p2] pos) (eC (.dct [.inr x] [.int n])) :=
  PE.imp (pe_disp (pps_cons pe_str pe_int pps_nil) rfl rfl (List.cons_ne_nil _ _) (Nat.le_of_ble_eq_true rfl)) fun σ H Q ⟨L, env, s, S, e, p⟩ => fun q hq =>
    ⟨upd_same, [(.inr x, .int n)], rfl, Nat.le_of_ble_eq_true rfl, by
      show Q _ (upd (upd H q _) q _)
      rw [upd_upd]
      exact new_dct (ks := [.inr x]) (vs := [.int n]) S rfl (.cons (by simp only [RD]) .nil) p q hq⟩
end
end DE
/-! DEV: how the combinators evaluate -/
namespace DE
open PySem PySem.Spec PyProof.Rows L2
theorem ofS_list (a : String) : (Str.ofString a).cps = (a.toList.map Char.toNat).toArray := by rw [Str.ofString_eq_toList]
theorem ofS_inj (a b : String) : (Str.ofString a = Str.ofString b) ↔ a = b := by
  refine ⟨fun h => ?_, fun h => by rw [h]⟩
  have h1 := congrArg Str.cps h
  rw [ofS_list, ofS_list] at h1
  have h2 : a.toList.map Char.toNat = b.toList.map Char.toNat := by simpa using h1
  have mi : ∀ x y : List Char, x.map Char.toNat = y.map Char.toNat → x = y := by
    intro x
    induction x with
    | nil => intro y h; cases y with | nil => rfl | cons _ _ => cases h
    | cons c r ih => intro y h; cases y with
      | nil => cases h
      | cons d t =>
        simp only [List.map_cons, List.cons.injEq] at h
        rw [Char.toNat_inj.mp h.1, ih t h.2]
  have h3 : a.toList = b.toList := mi _ _ h2
  exact String.toList_inj.mp h3
theorem ofS_ok (a : String) : strOk' (Str.ofString a) = true := by
  unfold strOk'
  rw [ofS_list]
  rw [List.all_toArray, List.all_eq_true]
  intro x hx
  obtain ⟨c, _, rfl⟩ := List.mem_map.mp hx
  have := c.valid
  unfold UInt32.isValidChar Nat.isValidChar at this
  have e : c.toNat = c.val.toNat := rfl
  rw [decide_eq_true_eq, e]
  omega
theorem res_non (s : Store) : res s .non = some .non := by simp [sub]
theorem res_bl (s : Store) (b : Bool) : res s (.bl b) = some (.bl b) := by simp [sub]
theorem res_int (s : Store) (b : Int) : res s (.int b) = some (.int b) := by simp [sub]
theorem res_str (s : Store) (b : Str) : res s (.str b) = some (.str b) := by simp [sub]
theorem eqD_int (neg : Bool) (i j : Int) (s : Store) : eqD neg (.int i) (.int j) s = .ok (.bl (if neg then !decide (i = j) else decide (i = j))) s := by
  unfold eqD
  rw [res_int, res_int]
  simp only [layD, depD, eqv, pyOf, PyData.eqv]
  have e : (i == j) = decide (i = j) := by by_cases h : i = j <;> simp [h]
  rw [e]
  simp
theorem eqD_str (neg : Bool) (a b : Str) (s : Store) (ha : strOk' a = true) (hb : strOk' b = true) : eqD neg (.str a) (.str b) s = .ok (.bl (if neg then !decide (a = b) else decide (a = b))) s := by
  unfold eqD
  rw [res_str, res_str]
  simp only [layD, depD, eqv, pyOf, PyData.eqv, ha, hb]
  have e : (a == b) = decide (a = b) := by by_cases h : a = b <;> simp [h]
  rw [e]
  simp
/-- an own member of words -/
theorem strs_sub (f : Nat → Option D) : ∀ ws : List Str, subs f (ws.map D.str) = some (ws.map D.str)
  | [] => by simp [subs]
  | w :: ws => by simp only [List.map_cons, subs, sub]; rw [strs_sub f ws]
theorem strs_lay : ∀ ws : List Str, (∀ w ∈ ws, strOk' w = true) → layDs (ws.map D.str) = true
  | [], _ => by simp [layDs]
  | w :: ws, h => by
    simp only [List.map_cons, layDs, layD, Bool.and_eq_true]
    exact ⟨h w List.mem_cons_self, strs_lay ws fun x hx => h x (List.mem_cons_of_mem _ hx)⟩
theorem strs_any (a : Str) : ∀ ws : List Str, (ws.map D.str).any (fun y => eqv y (.str a)) = decide (a ∈ ws)
  | [] => by simp
  | w :: ws => by
    have ih := strs_any a ws
    rw [List.map_cons, List.any_cons, ih]
    simp only [eqv, pyOf, PyData.eqv, List.mem_cons]
    have e : (w == a) = decide (a = w) := by
      by_cases h : a = w
      · rw [h]; simp
      · have : ¬ w = a := fun q => h q.symm
        simp [h, this]
    rw [e]
    simp
theorem inD_strs (neg : Bool) (a : Str) (ws : List Str) (s : Store) (ha : strOk' a = true) (hw : ∀ w ∈ ws, strOk' w = true) :
    inD neg (.str a) (.tup (ws.map D.str)) s = .ok (.bl (if neg then !decide (a ∈ ws) else decide (a ∈ ws))) s := by
  have e2 : res s (.tup (ws.map D.str)) = some (.tup (ws.map D.str)) := by
    show sub _ _ = _
    simp only [sub]
    rw [strs_sub]
    rfl
  have e3 : inD neg (.str a) (.tup (ws.map D.str)) s = (match res s (.str a), res s (.tup (ws.map D.str)) with
    | some a, some (.tup ys) => if layD a = true ∧ layDs ys = true ∧ depD a ≤ 190 then .ok (.bl (if neg then !ys.any (fun y => eqv y a) else ys.any (fun y => eqv y a))) s else .bad
    | some a, some (.lst ys) => if layD a = true ∧ layDs ys = true ∧ depD a ≤ 190 then .ok (.bl (if neg then !ys.any (fun y => eqv y a) else ys.any (fun y => eqv y a))) s else .bad
    | _, _ => .bad) := rfl
  rw [e3, e2, res_str]
  simp only [layD, ha, strs_lay ws hw, depD, strs_any]
  simp
theorem inD3 (neg : Bool) (a x y z : Str) (s : Store) (ha : strOk' a = true) (hx : strOk' x = true) (hy : strOk' y = true) (hz : strOk' z = true) :
    inD neg (.str a) (.tup [.str x, .str y, .str z]) s = .ok (.bl (if neg then !decide (a = x ∨ a = y ∨ a = z) else decide (a = x ∨ a = y ∨ a = z))) s := by
  have := inD_strs neg a [x, y, z] s ha (by simp [hx, hy, hz])
  simpa using this
theorem inD2 (neg : Bool) (a x y : Str) (s : Store) (ha : strOk' a = true) (hx : strOk' x = true) (hy : strOk' y = true) :
    inD neg (.str a) (.tup [.str x, .str y]) s = .ok (.bl (if neg then !decide (a = x ∨ a = y) else decide (a = x ∨ a = y))) s := by
  have := inD_strs neg a [x, y] s ha (by simp [hx, hy])
  simpa using this
theorem eqD_ss (neg : Bool) (a b : String) (s : Store) : eqD neg (.str (Str.ofString a)) (.str (Str.ofString b)) s = .ok (.bl (if neg then !decide (a = b) else decide (a = b))) s := by
  rw [eqD_str neg _ _ s (ofS_ok a) (ofS_ok b)]
  simp only [ofS_inj]
theorem inD3_ss (neg : Bool) (a x y z : String) (s : Store) : inD neg (.str (Str.ofString a)) (.tup [.str (Str.ofString x), .str (Str.ofString y), .str (Str.ofString z)]) s = .ok (.bl (if neg then !decide (a = x ∨ a = y ∨ a = z) else decide (a = x ∨ a = y ∨ a = z))) s := by
  rw [inD3 neg _ _ _ _ s (ofS_ok a) (ofS_ok x) (ofS_ok y) (ofS_ok z)]
  simp only [ofS_inj]
theorem inD2_ss (neg : Bool) (a x y : String) (s : Store) : inD neg (.str (Str.ofString a)) (.tup [.str (Str.ofString x), .str (Str.ofString y)]) s = .ok (.bl (if neg then !decide (a = x ∨ a = y) else decide (a = x ∨ a = y))) s := by
  rw [inD2 neg _ _ _ s (ofS_ok a) (ofS_ok x) (ofS_ok y)]
  simp only [ofS_inj]
/-- a comprehension whose items are made one by one, nothing is stored -/
theorem lcD_map {t : Tgt} {tt : TM} {em : EM} {a : List D × Option Nat} {env : Env} {s : Store} (g : okG a s) (f : D → D) : ∀ xs : List D,
    (∀ x ∈ xs, ∃ env1, setT t x env = some env1 ∧ tt env1 s = .ok true s ∧ em env1 s = .ok (f x) s) → lcD t tt em a env xs s = .ok (xs.map f) s
  | [], _ => by unfold lcD; rw [if_pos g]; rfl
  | x :: xs, h => by
    obtain ⟨env1, e1, e2, e3⟩ := h x List.mem_cons_self
    unfold lcD
    rw [if_pos g, e1]
    simp only [e2, R.bind_ok, if_true, e3, lcD_map g f xs fun y hy => h y (List.mem_cons_of_mem _ hy), List.map_cons]
theorem lcD_filter {t : Tgt} {tt : TM} {em : EM} {a : List D × Option Nat} {env : Env} {s : Store} (g : okG a s) (p : D → Bool) (f : D → D) : ∀ xs : List D,
    (∀ x ∈ xs, ∃ env1, setT t x env = some env1 ∧ tt env1 s = .ok (p x) s ∧ em env1 s = .ok (f x) s) → lcD t tt em a env xs s = .ok ((xs.filter p).map f) s
  | [], _ => by unfold lcD; rw [if_pos g]; rfl
  | x :: xs, h => by
    obtain ⟨env1, e1, e2, e3⟩ := h x List.mem_cons_self
    have ih := lcD_filter g p f xs fun y hy => h y (List.mem_cons_of_mem _ hy)
    unfold lcD
    rw [if_pos g, e1]
    simp only [e2, R.bind_ok]
    cases q : p x with
    | true =>
      rw [if_pos rfl, e3, List.filter_cons_of_pos q]
      simp only [R.bind_ok, ih, List.map_cons]
    | false =>
      rw [if_neg Bool.false_ne_true, List.filter_cons_of_neg (by rw [q]; exact Bool.false_ne_true)]
      exact ih
theorem bools_map {α : Type} (f : α → Bool) : ∀ xs : List α, bools (xs.map fun x => D.bl (f x)) = some (xs.map f)
  | [] => rfl
  | x :: xs => by simp only [List.map_cons, bools, bools_map f xs]; rfl
theorem intsD_map {α : Type} (f : α → Int) : ∀ xs : List α, intsD (xs.map fun x => D.int (f x)) = some (xs.map f)
  | [] => rfl
  | x :: xs => by simp only [List.map_cons, intsD, intsD_map f xs]; rfl
theorem strsD_map {α : Type} (f : α → Str) : ∀ xs : List α, strsD (xs.map fun x => D.str (f x)) = some (xs.map f)
  | [] => rfl
  | x :: xs => by simp only [List.map_cons, strsD, strsD_map f xs]; rfl
theorem isD_true (x : Bool) (s : Store) : isD false (.bl x) (.bl true) s = .ok (.bl x) s := by cases x <;> rfl
theorem isnD_true (x : Bool) (s : Store) : isD true (.bl x) (.bl true) s = .ok (.bl (!x)) s := by cases x <;> rfl
theorem isnD_false (x : Bool) (s : Store) : isD true (.bl x) (.bl false) s = .ok (.bl x) s := by cases x <;> rfl
theorem atI_nat {α : Type} (xs : List α) (i : Nat) (h : i < xs.length) : atI xs (i : Int) = xs[i]? := by
  unfold atI ixN
  rw [if_pos (by omega), if_pos (by omega)]
  simp
theorem atI_0 {α : Type} (x : α) (xs : List α) : atI (x :: xs) 0 = some x := atI_nat (x :: xs) 0 (by simp)
theorem atI_1 {α : Type} (x y : α) (xs : List α) : atI (x :: y :: xs) 1 = some y := atI_nat (x :: y :: xs) 1 (by simp)
theorem atI_int {α : Type} (xs : List α) (i : Int) (h0 : 0 ≤ i) (h : i < xs.length) : ∃ x ∈ xs, atI xs i = some x := by
  unfold atI ixN
  rw [if_pos h0, if_pos h]
  have hl : i.toNat < xs.length := by omega
  refine ⟨xs[i.toNat], List.getElem_mem hl, ?_⟩
  show xs[i.toNat]? = _
  exact List.getElem?_eq_getElem hl
theorem sg_len (c : Nat) : Str.length ⟨#[c]⟩ = 1 := rfl
theorem sg_of {z : Str} (h : z.length = 1) : ∃ c, z = ⟨#[c]⟩ := by
  obtain ⟨⟨a⟩⟩ := z
  match a, h with
  | [c], _ => exact ⟨c, rfl⟩
theorem lenD_str {z : Str} {s : Store} (h : z.length ≤ 1000) : lenD [.str z] s = .ok (.int z.length) s := by
  show (if z.length ≤ LINE then (R.ok (D.int z.length) s : R D) else .bad) = _
  rw [if_pos (by unfold LINE; omega)]
theorem lenD_tup {xs : List D} {s : Store} : lenD [.tup xs] s = .ok (.int xs.length) s := rfl
theorem lenD_lst {xs : List D} {s : Store} : lenD [.lst xs] s = .ok (.int xs.length) s := rfl
theorem ixD_t0 {x : D} {xs : List D} {s : Store} : ixD (.tup (x :: xs)) (.int 0) s = .ok x s := by
  simp [ixD, atI_0]
theorem ixD_t1 {x y : D} {xs : List D} {s : Store} : ixD (.tup (x :: y :: xs)) (.int 1) s = .ok y s := by
  simp [ixD, atI_1]
theorem ixD_int {xs : List D} {i : Int} {s : Store} (h0 : 0 ≤ i) (h : i < xs.length) : ∃ x ∈ xs, ixD (.lst xs) (.int i) s = .ok x s := by
  obtain ⟨x, hx, e⟩ := atI_int xs i h0 h
  refine ⟨x, hx, ?_⟩
  simp [ixD, rdS, e]
theorem finL_ok {zs : List D} {s : Store} (h : zs.length ≤ 1000) : finL (.ok zs s) = .ok (.lst zs) s := by
  unfold finL
  simp only
  rw [if_pos (by unfold LINE; omega)]
theorem allD_map {α : Type} (f : α → Bool) (ys : List α) (s : Store) : allD [.lst (ys.map fun y => .bl (f y))] s = .ok (.bl (ys.all f)) s := by
  simp only [allD, rdS, bools_map, List.all_map]
  rfl
theorem anyD_map {α : Type} (f : α → Bool) (ys : List α) (s : Store) : anyD [.lst (ys.map fun y => .bl (f y))] s = .ok (.bl (ys.any f)) s := by
  simp only [anyD, rdS, bools_map, List.any_map]
  rfl
theorem sumD_map {α : Type} (f : α → Int) (ys : List α) (s : Store) : sumD [.lst (ys.map fun y => .int (f y))] s = .ok (.int (ys.map f).sum) s := by
  simp only [sumD, rdS, intsD_map]
theorem mulD_int {i j : Int} {s : Store} (h : 0 ≤ i ∧ i < 1000) : mulD (.int i) (.int j) s = .ok (.int (i * j)) s := by
  unfold mulD
  simp only
  rw [if_pos (.inl (by unfold BIG; omega))]
theorem fdivD_int {i j : Int} {s : Store} (h : 0 < j ∧ j ≤ 1000) : fdivD (.int i) (.int j) s = .ok (.int (i / j)) s := by
  unfold fdivD
  simp only
  rw [if_pos ⟨h.1, by omega⟩]
theorem modD_int {i j : Int} {s : Store} (h : 0 < j) : modD (.int i) (.int j) s = .ok (.int (i % j)) s := by
  unfold modD
  simp only
  rw [if_pos h]
theorem addD_int {i j : Int} {s : Store} : addD (.int i) (.int j) s = .ok (.int (i + j)) s := rfl
theorem subD_int {i j : Int} {s : Store} : subD (.int i) (.int j) s = .ok (.int (i - j)) s := rfl
theorem seq_ret {A B : SM} {env env1 : Env} {s s1 s2 : Store} {d : D} (h1 : A env s = .next env1 s1) (h2 : B env1 s1 = .ret d s2) : sSeq A B env s = .ret d s2 := by
  unfold sSeq
  rw [h1]
  exact h2
theorem body_ret {n : Nat} {m : SM} {ds : List D} {s s2 : Store} {d : D} (h : m (env0 n ds) s = .ret d s2) : bodyF n m ds s = .ok d s2 := by
  unfold bodyF
  rw [h]
theorem eqD_kind (neg : Bool) (a b : String) (s : Store) : eqD neg (.lst [.str (Str.ofString a)]) (.lst [.str (Str.ofString b)]) s = .ok (.bl (if neg then !decide (a = b) else decide (a = b))) s := by
  have e1 : ∀ a : String, res s (.lst [.str (Str.ofString a)]) = some (.lst [.str (Str.ofString a)]) := fun a => by simp [sub, subs]
  unfold eqD
  rw [e1, e1]
  simp only [layD, layDs, ofS_ok, depD, depDs, eqv, pyOf, pyOfs, PyData.eqv, PyData.eqvAll]
  have e : (Str.ofString a == Str.ofString b) = decide (a = b) := by
    by_cases h : a = b
    · rw [h]; simp
    · have : ¬ Str.ofString a = Str.ofString b := fun q => h ((ofS_inj a b).mp q)
      simp [h, this]
  rw [e]
  simp
theorem eqD_non (neg : Bool) (s : Store) : eqD neg .non .non s = .ok (.bl (!neg)) s := by
  unfold eqD
  rw [res_non]
  cases neg <;> simp [layD, depD, eqv, pyOf, PyData.eqv]
theorem joinD_all {z : Str} {zs : List Str} {s : Store} (h : (zs.map (·.length)).sum + zs.length * z.length ≤ 16777216) : joinD z (.lst (zs.map D.str)) s = .ok (.str (Txt.join z zs)) s := by
  have := strsD_map (fun x : Str => x) zs
  simp only [List.map_id'] at this
  simp only [joinD, rdS, this]
  rw [if_pos (show _ ≤ LINE from h)]
/-- a loop that keeps an invariant -/
theorem for_inv {g : GM} {body : SM} {a : List D × Option Nat} {s : Store} (ok : okG a s) (I : Env → Prop) : ∀ (xs : List D) (env : Env), I env →
    (∀ x ∈ xs, ∀ env, I env → ∃ env1 env2, g x env s = .ok env1 s ∧ body env1 s = .next env2 s ∧ I env2) → ∃ env2, forD g body a xs env s = .next env2 s ∧ I env2
  | [], env, h, _ => ⟨env, by unfold forD; rw [if_pos ok], h⟩
  | x :: xs, env, h, hh => by
    obtain ⟨env1, env2, e1, e2, h2⟩ := hh x List.mem_cons_self env h
    obtain ⟨env3, e3, h3⟩ := for_inv ok I xs env2 h2 fun y hy => hh y (List.mem_cons_of_mem _ hy)
    refine ⟨env3, ?_, h3⟩
    unfold forD
    rw [if_pos ok, e1]
    simp only [R.bindS_ok, e2, loopB_next]
    exact e3
/-- .. that hangs on how many turns were made -/
theorem for_ind {g : GM} {body : SM} {a : List D × Option Nat} {s : Store} (ok : okG a s) (I : Nat → Env → Prop) : ∀ (xs : List D) (i : Nat) (env : Env), I i env →
    (∀ j x, xs[j]? = some x → ∀ env, I (i + j) env → ∃ env1 env2, g x env s = .ok env1 s ∧ body env1 s = .next env2 s ∧ I (i + j + 1) env2) → ∃ env2, forD g body a xs env s = .next env2 s ∧ I (i + xs.length) env2
  | [], i, env, h, _ => ⟨env, by unfold forD; rw [if_pos ok], h⟩
  | x :: xs, i, env, h, hh => by
    obtain ⟨env1, env2, e1, e2, h2⟩ := hh 0 x rfl env h
    obtain ⟨env3, e3, h3⟩ := for_ind ok I xs (i + 1) env2 h2 fun j y hy env hi => by
      have e : i + 1 + j = i + (j + 1) := by omega
      rw [e] at hi ⊢
      exact hh (j + 1) y hy env hi
    refine ⟨env3, ?_, by have e : i + (x :: xs).length = i + 1 + xs.length := by simp only [List.length_cons]; omega
                         rw [e]; exact h3⟩
    unfold forD
    rw [if_pos ok, e1]
    simp only [R.bindS_ok, e2, loopB_next]
    exact e3
/-- a comprehension over what is made of ys -/
theorem lcD_by {α : Type} {t : Tgt} {tt : TM} {em : EM} {a : List D × Option Nat} {env : Env} {s : Store} (g : okG a s) (m : α → D) (p : α → Bool) (f : α → D) : ∀ ys : List α,
    (∀ y ∈ ys, ∃ env1, setT t (m y) env = some env1 ∧ tt env1 s = .ok (p y) s ∧ (p y = true → em env1 s = .ok (f y) s)) → lcD t tt em a env (ys.map m) s = .ok ((ys.filter p).map f) s
  | [], _ => by unfold lcD; rw [List.map_nil]; simp only; rw [if_pos g]; rfl
  | y :: ys, h => by
    obtain ⟨env1, e1, e2, e3⟩ := h y List.mem_cons_self
    have ih := lcD_by g m p f ys fun y hy => h y (List.mem_cons_of_mem _ hy)
    rw [List.map_cons]
    unfold lcD
    rw [if_pos g, e1]
    simp only [e2, R.bind_ok]
    cases q : p y with
    | true =>
      rw [if_pos rfl, e3 q, List.filter_cons_of_pos q]
      simp only [R.bind_ok, ih, List.map_cons]
    | false =>
      rw [if_neg Bool.false_ne_true, List.filter_cons_of_neg (by rw [q]; exact Bool.false_ne_true)]
      exact ih
theorem eLc_by {α : Type} {t : Tgt} {vs : List Nat} {tt : TM} {em : EM} {im : IM} {env : Env} {s : Store} (m : α → D) (p : α → Bool) (f : α → D) (ys : List α) (hi : im env s = .ok (ys.map m, none) s) (hl : ys.length ≤ 1000)
    (h : ∀ y ∈ ys, ∃ env1, setT t (m y) (wipeE env vs) = some env1 ∧ tt env1 s = .ok (p y) s ∧ (p y = true → em env1 s = .ok (f y) s)) : eLc im t vs tt em env s = .ok (.lst ((ys.filter p).map f)) s := by
  unfold eLc
  rw [hi]
  simp only [R.bind_ok]
  rw [lcD_by (by simp) m p f ys h, finL_ok (by rw [List.length_map]; exact Nat.le_trans (List.length_filter_le _ _) hl)]
theorem filter_yes {α : Type} (ys : List α) : ys.filter (fun _ => true) = ys := List.filter_eq_self.mpr fun _ _ => rfl
theorem eLc_all {α : Type} {t : Tgt} {vs : List Nat} {em : EM} {im : IM} {env : Env} {s : Store} (m : α → D) (f : α → D) (ys : List α) (hi : im env s = .ok (ys.map m, none) s) (hl : ys.length ≤ 1000)
    (h : ∀ y ∈ ys, ∃ env1, setT t (m y) (wipeE env vs) = some env1 ∧ em env1 s = .ok (f y) s) : eLc im t vs tYesM em env s = .ok (.lst (ys.map f)) s := by
  have := eLc_by (tt := tYesM) m (fun _ => true) f ys hi hl fun y hy => by
    obtain ⟨env1, e1, e2⟩ := h y hy
    exact ⟨env1, e1, rfl, fun _ => e2⟩
  rw [filter_yes] at this
  exact this
end DE
namespace G
open PySem PySem.Spec PyProof.Rows L2 DE
abbrev i_are_letters : Nat := 0
abbrev i_need_letters : Nat := 1
abbrev i_is_sign : Nat := 2
abbrev i_are_parts : Nat := 3
abbrev i_is_pattern : Nat := 4
abbrev i_parts_of : Nat := 5
abbrev i_nodes : Nat := 6
abbrev i_need_pattern : Nat := 7
abbrev i_fits : Nat := 8
abbrev i_machine_of : Nat := 9
abbrev i_told_alike : Nat := 10
abbrev i_read : Nat := 11
abbrev i__law_cell_at : Nat := 12
abbrev i__law_letters : Nat := 13
abbrev i__law_size : Nat := 14
abbrev i__law_step : Nat := 15
abbrev i__law_drawn : Nat := 16
abbrev i__law_no_letters : Nat := 17
abbrev i__law_stranger : Nat := 18
abbrev i__law_no_pattern : Nat := 19
abbrev i__law_about : Nat := 20
abbrev i__law_asked : Nat := 21
abbrev i__law_told : Nat := 22
abbrev i__law_read : Nat := 23
abbrev i__law_grown : Nat := 24
abbrev i_law : Nat := 25
def topS (i : Nat) : Stmt := PySem.Challenge.pw_bothreed_k01_patterns.main.body.getD i (.Pass ⟨0, 0, 0, 0⟩)
abbrev s_are_letters : Stmt := topS 13
theorem sc_are_letters : FnScope ["thing", "sign"] ["thing"] (defScope s_are_letters) := ⟨rfl, rfl, rfl, by decide +kernel, rfl, by decide +kernel, by decide +kernel⟩
abbrev s_need_letters : Stmt := topS 14
theorem sc_need_letters : FnScope ["letters"] ["letters"] (defScope s_need_letters) := ⟨rfl, rfl, rfl, by decide +kernel, rfl, by decide +kernel, by decide +kernel⟩
abbrev s_is_sign : Stmt := topS 15
theorem sc_is_sign : FnScope ["letters", "thing"] ["letters", "thing"] (defScope s_is_sign) := ⟨rfl, rfl, rfl, by decide +kernel, rfl, by decide +kernel, by decide +kernel⟩
abbrev s_are_parts : Stmt := topS 16
theorem sc_are_parts : FnScope ["letters", "thing", "part"] ["letters", "thing"] (defScope s_are_parts) := ⟨rfl, rfl, rfl, by decide +kernel, rfl, by decide +kernel, by decide +kernel⟩
abbrev s_is_pattern : Stmt := topS 17
theorem sc_is_pattern : FnScope ["letters", "thing"] ["letters", "thing"] (defScope s_is_pattern) := ⟨rfl, rfl, rfl, by decide +kernel, rfl, by decide +kernel, by decide +kernel⟩
abbrev s_parts_of : Stmt := topS 18
theorem sc_parts_of : FnScope ["pattern"] ["pattern"] (defScope s_parts_of) := ⟨rfl, rfl, rfl, by decide +kernel, rfl, by decide +kernel, by decide +kernel⟩
abbrev s_nodes : Stmt := topS 19
theorem sc_nodes : FnScope ["pattern", "part"] ["pattern"] (defScope s_nodes) := ⟨rfl, rfl, rfl, by decide +kernel, rfl, by decide +kernel, by decide +kernel⟩
abbrev s_need_pattern : Stmt := topS 20
theorem sc_need_pattern : FnScope ["letters", "pattern"] ["letters", "pattern"] (defScope s_need_pattern) := ⟨rfl, rfl, rfl, by decide +kernel, rfl, by decide +kernel, by decide +kernel⟩
abbrev s_fits : Stmt := topS 35
theorem sc_fits : FnScope ["letters", "pattern", "text", "sign"] ["letters", "pattern", "text"] (defScope s_fits) := ⟨rfl, rfl, rfl, by decide +kernel, rfl, by decide +kernel, by decide +kernel⟩
abbrev s_machine_of : Stmt := topS 41
theorem sc_machine_of : FnScope ["letters", "pattern", "ends", "row", "steps", "one"] ["letters", "pattern"] (defScope s_machine_of) := ⟨rfl, rfl, rfl, by decide +kernel, rfl, by decide +kernel, by decide +kernel⟩
abbrev s_told_alike : Stmt := topS 43
theorem sc_told_alike : FnScope ["letters", "one", "other", "ways", "row", "at", "here", "sign", "pair"] ["letters", "one", "other"] (defScope s_told_alike) := ⟨rfl, rfl, rfl, by decide +kernel, rfl, by decide +kernel, by decide +kernel⟩
abbrev s_read : Stmt := topS 58
theorem sc_read : FnScope ["letters", "text", "found"] ["letters", "text"] (defScope s_read) := ⟨rfl, rfl, rfl, by decide +kernel, rfl, by decide +kernel, by decide +kernel⟩
abbrev s__law_cell_at : Stmt := topS 60
theorem sc__law_cell_at : FnScope ["_law_script", "_law_k"] ["_law_script", "_law_k"] (defScope s__law_cell_at) := ⟨rfl, rfl, rfl, by decide +kernel, rfl, by decide +kernel, by decide +kernel⟩
abbrev s__law_letters : Stmt := topS 61
theorem sc__law_letters : FnScope ["_law_cell", "_law_some", "_law_k"] ["_law_cell"] (defScope s__law_letters) := ⟨rfl, rfl, rfl, by decide +kernel, rfl, by decide +kernel, by decide +kernel⟩
abbrev s__law_size : Stmt := topS 62
theorem sc__law_size : FnScope ["_law_pattern", "_law_part"] ["_law_pattern"] (defScope s__law_size) := ⟨rfl, rfl, rfl, by decide +kernel, rfl, by decide +kernel, by decide +kernel⟩
abbrev s__law_step : Stmt := topS 63
theorem sc__law_step : FnScope ["_law_letters_here", "_law_stack", "_law_cell", "_law_rest", "_law_kind_here", "_law_many"] ["_law_letters_here", "_law_stack", "_law_cell"] (defScope s__law_step) := ⟨rfl, rfl, rfl, by decide +kernel, rfl, by decide +kernel, by decide +kernel⟩
abbrev s__law_drawn : Stmt := topS 64
theorem sc__law_drawn : FnScope ["_law_letters_here", "_law_cells", "_law_most", "_law_stack", "_law_cell", "_law_later", "_law_one"] ["_law_letters_here", "_law_cells", "_law_most"] (defScope s__law_drawn) := ⟨rfl, rfl, rfl, by decide +kernel, rfl, by decide +kernel, by decide +kernel⟩
abbrev s__law_no_letters : Stmt := topS 66
theorem sc__law_no_letters : FnScope ["_law_cell", "_law_some"] ["_law_cell"] (defScope s__law_no_letters) := ⟨rfl, rfl, rfl, by decide +kernel, rfl, by decide +kernel, by decide +kernel⟩
abbrev s__law_stranger : Stmt := topS 67
theorem sc__law_stranger : FnScope ["_law_letters_here", "_law_cell", "_law_others", "_law_sign"] ["_law_letters_here", "_law_cell"] (defScope s__law_stranger) := ⟨rfl, rfl, rfl, by decide +kernel, rfl, by decide +kernel, by decide +kernel⟩
abbrev s__law_no_pattern : Stmt := topS 68
theorem sc__law_no_pattern : FnScope ["_law_letters_here", "_law_pattern", "_law_cell", "_law_rest", "_law_some"] ["_law_letters_here", "_law_pattern", "_law_cell"] (defScope s__law_no_pattern) := ⟨rfl, rfl, rfl, by decide +kernel, rfl, by decide +kernel, by decide +kernel⟩
abbrev s__law_about : Stmt := topS 69
theorem sc__law_about : FnScope ["_law_pattern", "_law_wrong", "_law_cell", "_law_word"] ["_law_pattern", "_law_wrong", "_law_cell"] (defScope s__law_about) := ⟨rfl, rfl, rfl, by decide +kernel, rfl, by decide +kernel, by decide +kernel⟩
abbrev s__law_asked : Stmt := topS 70
theorem sc__law_asked : FnScope ["_law_way", "_law_letters_here", "_law_thing"] ["_law_way", "_law_letters_here", "_law_thing"] (defScope s__law_asked) := ⟨rfl, rfl, rfl, by decide +kernel, rfl, by decide +kernel, by decide +kernel⟩
abbrev s__law_told : Stmt := topS 71
theorem sc__law_told : FnScope ["_law_way", "_law_letters_here", "_law_thing", "_law_error"] ["_law_way", "_law_letters_here", "_law_thing"] (defScope s__law_told) := ⟨rfl, rfl, rfl, by decide +kernel, rfl, by decide +kernel, by decide +kernel⟩
abbrev s__law_read : Stmt := topS 72
theorem sc__law_read : FnScope ["_law_letters_here", "_law_text", "_law_error"] ["_law_letters_here", "_law_text"] (defScope s__law_read) := ⟨rfl, rfl, rfl, by decide +kernel, rfl, by decide +kernel, by decide +kernel⟩
abbrev s__law_grown : Stmt := topS 73
theorem sc__law_grown : FnScope ["_law_pattern", "_law_cell", "_law_many", "_law_turn", "_law_often"] ["_law_pattern", "_law_cell"] (defScope s__law_grown) := ⟨rfl, rfl, rfl, by decide +kernel, rfl, by decide +kernel, by decide +kernel⟩
abbrev s_law : Stmt := topS 74
theorem sc_law : FnScope ["_law_script", "_law_letters_here", "_law_pattern", "_law_size_here", "_law_found", "_law_due", "_law_cell", "_law_way", "_law_wrong", "_law_none", "_law_thing"] ["_law_script"] (defScope s_law) := ⟨rfl, rfl, rfl, by decide +kernel, rfl, by decide +kernel, by decide +kernel⟩
abbrev s__law_kind : Stmt := topS 65
theorem sc__law_kind : FnScope ["_law_error", "_law_found", "_law_word", "_law_is_one"] ["_law_error"] (defScope s__law_kind) := ⟨rfl, rfl, rfl, by decide +kernel, rfl, by decide +kernel, by decide +kernel⟩
noncomputable def m_are_letters (call : Nat → Fn) : SM :=
  (sSeq (sIf (tOrM (tNotM (tVal (isiD "str" (eVar 0)))) (tNotM (tVal (eChain leD leD (eC (.int 1)) (eCall lenD (aCons (eVar 0) aNil)) (eC (.int 4))))))
  (sRet (eC (.bl false)))
  sPass)
  (sRet (eCall allD (aCons (eLc (itV' (eVar 0)) (.one 1) [1] tYesM (eAnd (e2 (inD false) (eVar 1) (eC (.str "abcdefghijklmnopqrstuvwxyz"))) (e2 (eqD false) (eM1 countD (eVar 0) (eVar 1)) (eC (.int 1))))) aNil))))
noncomputable def b_are_letters (call : Nat → Fn) : Fn := bodyF 2 (m_are_letters call)
noncomputable def m_need_letters (call : Nat → Fn) : SM :=
  (sIf (tNotM (tVal (eCall (ar 1 (call i_are_letters)) (aCons (eVar 0) aNil))))
  (sRaise 1)
  sPass)
noncomputable def b_need_letters (call : Nat → Fn) : Fn := bodyF 1 (m_need_letters call)
noncomputable def m_is_sign (call : Nat → Fn) : SM :=
  (sRet (eAnd (isiD "str" (eVar 1)) (eAnd (e2 (eqD false) (eCall lenD (aCons (eVar 1) aNil)) (eC (.int 1))) (e2 (inD false) (eVar 1) (eVar 0)))))
noncomputable def b_is_sign (call : Nat → Fn) : Fn := bodyF 2 (m_is_sign call)
noncomputable def m_are_parts (call : Nat → Fn) : SM :=
  (sRet (eAnd (isiD "tuple" (eVar 1)) (eAnd (e2 gtD (eCall lenD (aCons (eVar 1) aNil)) (eC (.int 1))) (eCall allD (aCons (eLc (itV' (eVar 1)) (.one 2) [2] tYesM (eCall (ar 2 (call i_is_pattern)) (aCons (eVar 0) (aCons (eVar 2) aNil)))) aNil)))))
noncomputable def b_are_parts (call : Nat → Fn) : Fn := bodyF 3 (m_are_parts call)
noncomputable def m_is_pattern (call : Nat → Fn) : SM :=
  (sSeq (sIf (tOrM (tNotM (tVal (isiD "tuple" (eVar 1)))) (tOrM (tVal (e2 (eqD false) (eCall lenD (aCons (eVar 1) aNil)) (eC (.int 0)))) (tNotM (tVal (isiD "str" (e2 ixD (eVar 1) (eC (.int 0))))))))
  (sRet (eC (.bl false)))
  sPass)
  (sSeq (sIf (tOrM (tVal (e2 (eqD false) (e2 ixD (eVar 1) (eC (.int 0))) (eC (.str "none")))) (tVal (e2 (eqD false) (e2 ixD (eVar 1) (eC (.int 0))) (eC (.str "empty")))))
  (sRet (e2 (eqD false) (eCall lenD (aCons (eVar 1) aNil)) (eC (.int 1))))
  sPass)
  (sSeq (sIf (tVal (e2 (eqD true) (eCall lenD (aCons (eVar 1) aNil)) (eC (.int 2))))
  (sRet (eC (.bl false)))
  sPass)
  (sSeq (sIf (tVal (e2 (eqD false) (e2 ixD (eVar 1) (eC (.int 0))) (eC (.str "sign"))))
  (sRet (eCall (ar 2 (call i_is_sign)) (aCons (eVar 0) (aCons (e2 ixD (eVar 1) (eC (.int 1))) aNil))))
  sPass)
  (sSeq (sIf (tOrM (tVal (e2 (eqD false) (e2 ixD (eVar 1) (eC (.int 0))) (eC (.str "many")))) (tVal (e2 (eqD false) (e2 ixD (eVar 1) (eC (.int 0))) (eC (.str "not")))))
  (sRet (eCall (ar 2 (call i_is_pattern)) (aCons (eVar 0) (aCons (e2 ixD (eVar 1) (eC (.int 1))) aNil))))
  sPass)
  (sRet (eAnd (e2 (inD false) (e2 ixD (eVar 1) (eC (.int 0))) (eTup (aCons (eC (.str "row")) (aCons (eC (.str "or")) (aCons (eC (.str "and")) aNil))))) (eCall (ar 2 (call i_are_parts)) (aCons (eVar 0) (aCons (e2 ixD (eVar 1) (eC (.int 1))) aNil))))))))))
noncomputable def b_is_pattern (call : Nat → Fn) : Fn := bodyF 2 (m_is_pattern call)
noncomputable def m_parts_of (call : Nat → Fn) : SM :=
  (sSeq (sIf (tVal (e2 (inD false) (e2 ixD (eVar 0) (eC (.int 0))) (eTup (aCons (eC (.str "row")) (aCons (eC (.str "or")) (aCons (eC (.str "and")) aNil))))))
  (sRet (eCall listD (aCons (e2 ixD (eVar 0) (eC (.int 1))) aNil)))
  sPass)
  (sSeq (sIf (tOrM (tVal (e2 (eqD false) (e2 ixD (eVar 0) (eC (.int 0))) (eC (.str "many")))) (tVal (e2 (eqD false) (e2 ixD (eVar 0) (eC (.int 0))) (eC (.str "not")))))
  (sRet (eLst (aCons (e2 ixD (eVar 0) (eC (.int 1))) aNil)))
  sPass)
  (sRet (eLst aNil))))
noncomputable def b_parts_of (call : Nat → Fn) : Fn := bodyF 1 (m_parts_of call)
noncomputable def m_nodes (call : Nat → Fn) : SM :=
  (sRet (e2 addD (eC (.int 1)) (eCall sumD (aCons (eLc (itV' (eCall (ar 1 (call i_parts_of)) (aCons (eVar 0) aNil))) (.one 1) [1] tYesM (eCall (ar 1 (call i_nodes)) (aCons (eVar 1) aNil))) aNil))))
noncomputable def b_nodes (call : Nat → Fn) : Fn := bodyF 2 (m_nodes call)
noncomputable def m_need_pattern (call : Nat → Fn) : SM :=
  (sSeq (sExpr (eCall (ar 1 (call i_need_letters)) (aCons (eVar 0) aNil)))
  (sSeq (sIf (tNotM (tVal (eCall (ar 2 (call i_is_pattern)) (aCons (eVar 0) (aCons (eVar 1) aNil)))))
  (sRaise 2)
  sPass)
  (sIf (tVal (e2 gtD (eCall (ar 1 (call i_nodes)) (aCons (eVar 1) aNil)) (eC (.int 60))))
  (sRaise 3)
  sPass)))
noncomputable def b_need_pattern (call : Nat → Fn) : Fn := bodyF 2 (m_need_pattern call)
noncomputable def m_fits (call : Nat → Fn) : SM :=
  (sSeq (sExpr (eCall (ar 2 (call i_need_pattern)) (aCons (eVar 0) (aCons (eVar 1) aNil))))
  sBad)
noncomputable def b_fits (call : Nat → Fn) : Fn := bodyF 4 (m_fits call)
noncomputable def m_machine_of (call : Nat → Fn) : SM :=
  (sSeq (sExpr (eCall (ar 2 (call i_need_pattern)) (aCons (eVar 0) (aCons (eVar 1) aNil))))
  sBad)
noncomputable def b_machine_of (call : Nat → Fn) : Fn := bodyF 6 (m_machine_of call)
noncomputable def m_told_alike (call : Nat → Fn) : SM :=
  (sSeq (sExpr (eCall (ar 2 (call i_need_pattern)) (aCons (eVar 0) (aCons (eVar 1) aNil))))
  (sSeq (sExpr (eCall (ar 2 (call i_need_pattern)) (aCons (eVar 0) (aCons (eVar 2) aNil))))
  sBad))
noncomputable def b_told_alike (call : Nat → Fn) : Fn := bodyF 9 (m_told_alike call)
noncomputable def m_read (call : Nat → Fn) : SM :=
  (sSeq (sExpr (eCall (ar 1 (call i_need_letters)) (aCons (eVar 0) aNil)))
  sBad)
noncomputable def b_read (call : Nat → Fn) : Fn := bodyF 3 (m_read call)
noncomputable def m__law_cell_at (call : Nat → Fn) : SM :=
  (sSeq (sIf (tVal (e2 ltD (eVar 1) (eCall lenD (aCons (eVar 0) aNil))))
  (sRet (e2 ixD (eVar 0) (eVar 1)))
  sPass)
  (sRet (eC (.int 0))))
noncomputable def b__law_cell_at (call : Nat → Fn) : Fn := bodyF 2 (m__law_cell_at call)
noncomputable def m__law_letters (call : Nat → Fn) : SM :=
  (sSeq (sSet 1 (eC (.str "abcdefghijklmnopqrstuvwxyz")))
  (sRet (eM1 joinD (eC (.str "")) (eLc (itR1 (aCons (e2 addD (eC (.int 1)) (e2 modD (eVar 0) (eC (.int 4)))) aNil)) (.one 2) [2] tYesM (e2 ixD (eVar 1) (e2 modD (e2 addD (e2 fdivD (eVar 0) (eC (.int 4))) (e2 mulD (eVar 2) (e2 addD (eC (.int 1)) (e2 modD (e2 fdivD (eVar 0) (eC (.int 104))) (eC (.int 12)))))) (eC (.int 26))))))))
noncomputable def b__law_letters (call : Nat → Fn) : Fn := bodyF 3 (m__law_letters call)
noncomputable def m__law_size (call : Nat → Fn) : SM :=
  (sSeq (sIf (tVal (e2 (inD false) (e2 ixD (eVar 0) (eC (.int 0))) (eTup (aCons (eC (.str "row")) (aCons (eC (.str "or")) (aCons (eC (.str "and")) aNil))))))
  (sRet (e2 addD (eC (.int 1)) (eCall sumD (aCons (eLc (itV' (e2 ixD (eVar 0) (eC (.int 1)))) (.one 1) [1] tYesM (eCall (ar 1 (call i__law_size)) (aCons (eVar 1) aNil))) aNil))))
  sPass)
  (sSeq (sIf (tVal (e2 (inD false) (e2 ixD (eVar 0) (eC (.int 0))) (eTup (aCons (eC (.str "many")) (aCons (eC (.str "not")) aNil)))))
  (sRet (e2 addD (eC (.int 1)) (eCall (ar 1 (call i__law_size)) (aCons (e2 ixD (eVar 0) (eC (.int 1))) aNil))))
  sPass)
  (sRet (eC (.int 1)))))
noncomputable def b__law_size (call : Nat → Fn) : Fn := bodyF 2 (m__law_size call)
noncomputable def m__law_step (call : Nat → Fn) : SM :=
  (sSeq (sSet 3 (e2 fdivD (eVar 2) (eC (.int 11))))
  (sSeq (sSet 4 (e2 modD (eVar 2) (eC (.int 11))))
  (sSeq (sIf (tAndM (tVal (e2 gtD (eVar 4) (eC (.int 4)))) (tAndM (tVal (e2 ltD (eVar 4) (eC (.int 8)))) (tVal (e2 gtD (eCall lenD (aCons (eVar 1) aNil)) (eC (.int 1))))))
  (sSeq (sSet 5 (eCall minD (aCons (eCall lenD (aCons (eVar 1) aNil)) (aCons (e2 addD (eC (.int 2)) (e2 modD (eVar 3) (eC (.int 2)))) aNil))))
  (sRet (e2 addD (eCut (eVar 1) oNone (oSome (e2 subD (eCall lenD (aCons (eVar 1) aNil)) (eVar 5)))) (eLst (aCons (eTup (aCons (e2 ixD (eLst (aCons (eC (.str "row")) (aCons (eC (.str "or")) (aCons (eC (.str "and")) aNil)))) (e2 subD (eVar 4) (eC (.int 5)))) (aCons (eCall tupleD (aCons (eCut (eVar 1) (oSome (e2 subD (eCall lenD (aCons (eVar 1) aNil)) (eVar 5))) oNone) aNil)) aNil))) aNil)))))
  sPass)
  (sSeq (sIf (tAndM (tVal (e2 gtD (eVar 4) (eC (.int 7)))) (tVal (e2 (eqD true) (eVar 1) (eLst aNil))))
  (sRet (e2 addD (eCut (eVar 1) oNone (oSome (eNeg (eC (.int 1))))) (eLst (aCons (eTup (aCons (e2 ixD (eLst (aCons (eC (.str "many")) (aCons (eC (.str "not")) (aCons (eC (.str "many")) aNil)))) (e2 subD (eVar 4) (eC (.int 8)))) (aCons (e2 ixD (eVar 1) (eNeg (eC (.int 1)))) aNil))) aNil))))
  sPass)
  (sSeq (sIf (tVal (e2 (eqD false) (eVar 4) (eC (.int 4))))
  (sRet (e2 addD (eVar 1) (eLst (aCons (e2 ixD (eLst (aCons (eTup (aCons (eC (.str "empty")) aNil)) (aCons (eTup (aCons (eC (.str "none")) aNil)) (aCons (eTup (aCons (eC (.str "empty")) aNil)) aNil)))) (e2 modD (eVar 3) (eC (.int 3)))) aNil))))
  sPass)
  (sRet (e2 addD (eVar 1) (eLst (aCons (eTup (aCons (eC (.str "sign")) (aCons (e2 ixD (eVar 0) (e2 modD (eVar 3) (eCall lenD (aCons (eVar 0) aNil)))) aNil))) aNil)))))))))
noncomputable def b__law_step (call : Nat → Fn) : Fn := bodyF 6 (m__law_step call)
noncomputable def m__law_drawn (call : Nat → Fn) : SM :=
  (sSeq (sSet 3 (eLst aNil))
  (sSeq (sFor (itV' (eVar 1)) (gVar 4)
  (sSeq (sSet 5 (eCall (ar 3 (call i__law_step)) (aCons (eVar 0) (aCons (eVar 3) (aCons (eVar 4) aNil)))))
  (sIf (tVal (e2 ltD (eCall sumD (aCons (eLc (itV' (eVar 5)) (.one 6) [6] tYesM (eCall (ar 1 (call i__law_size)) (aCons (eVar 6) aNil))) aNil)) (eVar 2)))
  (sSet 3 (eVar 5))
  sPass)))
  (sSeq (sIf (tVal (e2 (eqD false) (eVar 3) (eLst aNil)))
  (sRet (eTup (aCons (eC (.str "empty")) aNil)))
  sPass)
  (sSeq (sIf (tVal (e2 (eqD false) (eCall lenD (aCons (eVar 3) aNil)) (eC (.int 1))))
  (sRet (e2 ixD (eVar 3) (eC (.int 0))))
  sPass)
  (sRet (eTup (aCons (e2 ixD (eLst (aCons (eC (.str "row")) (aCons (eC (.str "or")) (aCons (eC (.str "and")) aNil)))) (e2 modD (eCall lenD (aCons (eVar 1) aNil)) (eC (.int 3)))) (aCons (eCall tupleD (aCons (eVar 3) aNil)) aNil))))))))
noncomputable def b__law_drawn (call : Nat → Fn) : Fn := bodyF 7 (m__law_drawn call)
noncomputable def m__law_no_letters (call : Nat → Fn) : SM :=
  (sSeq (sSet 1 (eLst (aCons (eC (.str "")) (aCons (eC (.str "abcde")) (aCons (eC (.str "aa")) (aCons (eC (.str "aba")) (aCons (eC (.str "A")) (aCons (eC (.str "a1")) (aCons (eC (.str "a b")) (aCons (eC .non) (aCons (eC (.int 5)) (aCons (eLst (aCons (eC (.str "a")) aNil)) (aCons (eTup (aCons (eC (.str "a")) aNil)) (aCons (eC (.bl true)) (aCons (eC (.dct [.inr "a"] [.int 1])) (aCons (eC (.str "ab\n")) aNil))))))))))))))))
  (sRet (e2 ixD (eVar 1) (e2 modD (eVar 0) (eC (.int 14))))))
noncomputable def b__law_no_letters (call : Nat → Fn) : Fn := bodyF 2 (m__law_no_letters call)
noncomputable def m__law_stranger (call : Nat → Fn) : SM :=
  (sSeq (sSet 2 (eLc (itV' (eC (.str "abcdefghijklmnopqrstuvwxyz"))) (.one 3) [3] (tVal (e2 (inD true) (eVar 3) (eVar 0))) (eVar 3)))
  (sRet (e2 ixD (eVar 2) (e2 modD (eVar 1) (eCall lenD (aCons (eVar 2) aNil))))))
noncomputable def b__law_stranger (call : Nat → Fn) : Fn := bodyF 4 (m__law_stranger call)
noncomputable def m__law_no_pattern (call : Nat → Fn) : SM :=
  (sSeq (sSet 3 (e2 fdivD (eVar 2) (eC (.int 27))))
  (sSeq (sSet 4 (eLst (aCons (eTup (aCons (eC (.str "none")) (aCons (eC (.int 1)) aNil))) (aCons (eTup aNil) (aCons (eTup (aCons (eC (.str "sign")) aNil)) (aCons (eTup (aCons (eC (.str "sign")) (aCons (eC (.str "A")) aNil))) (aCons (eTup (aCons (eC (.str "sign")) (aCons (eCall (ar 2 (call i__law_stranger)) (aCons (eVar 0) (aCons (eVar 3) aNil))) aNil))) (aCons (eTup (aCons (eC (.str "sign")) (aCons (eC (.str "")) aNil))) aNil))))))))
  (sSeq (sSet 4 (e2 addD (eVar 4) (eLst (aCons (eTup (aCons (eC (.str "sign")) (aCons (e2 addD (eVar 0) (eVar 0)) aNil))) (aCons (eTup (aCons (eC (.str "row")) (aCons (eTup (aCons (eVar 1) aNil)) aNil))) (aCons (eTup (aCons (eC (.str "row")) (aCons (eLst (aCons (eVar 1) (aCons (eVar 1) aNil))) aNil))) (aCons (eTup (aCons (eC (.str "or")) (aCons (eTup aNil) aNil))) aNil)))))))
  (sSeq (sSet 4 (e2 addD (eVar 4) (eLst (aCons (eTup (aCons (eC (.str "and")) (aCons (eVar 1) aNil))) (aCons (eTup (aCons (eC (.str "many")) aNil)) (aCons (eTup (aCons (eC (.str "many")) (aCons (eVar 1) (aCons (eVar 1) aNil)))) (aCons (eTup (aCons (eC (.str "not")) (aCons (eC .non) aNil))) (aCons (eTup (aCons (eC (.str "word")) (aCons (eVar 1) aNil))) aNil))))))))
  (sSeq (sSet 4 (e2 addD (eVar 4) (eLst (aCons (eC (.str "empty")) (aCons (eC .non) (aCons (eLst (aCons (eC (.str "empty")) aNil)) (aCons (eC (.int 5)) (aCons (eTup (aCons (eC (.str "or")) (aCons (eTup (aCons (eVar 1) (aCons (eC .non) aNil))) aNil))) (aCons (eTup (aCons (eC (.str "empty")) (aCons (eTup aNil) aNil))) (aCons (eTup (aCons (eC (.str "row")) (aCons (eVar 1) (aCons (eVar 1) aNil)))) aNil))))))))))
  (sSeq (sSet 4 (e2 addD (eVar 4) (eLst (aCons (eTup (aCons (eC (.str "sign")) (aCons (eC (.int 5)) aNil))) (aCons (eTup (aCons (eC (.str "sign")) (aCons (eC .non) aNil))) (aCons (eTup (aCons (eC (.str "sign")) (aCons (eLst (aCons (e2 ixD (eVar 0) (eC (.int 0))) aNil)) aNil))) (aCons (eTup (aCons (eLst (aCons (eC (.str "sign")) aNil)) (aCons (e2 ixD (eVar 0) (eC (.int 0))) aNil))) (aCons (eTup (aCons (eC (.dct [] [])) (aCons (e2 ixD (eVar 0) (eC (.int 0))) aNil))) aNil))))))))
  (sRet (e2 ixD (eVar 4) (e2 modD (eVar 2) (eC (.int 27)))))))))))
noncomputable def b__law_no_pattern (call : Nat → Fn) : Fn := bodyF 5 (m__law_no_pattern call)
noncomputable def m__law_about (call : Nat → Fn) : SM :=
  (sSeq (sIf (tVal (e2 gtD (e2 modD (eVar 2) (eC (.int 6))) (eC (.int 2))))
  (sRet (eVar 1))
  sPass)
  (sSeq (sSet 3 (e2 ixD (eLst (aCons (eC (.str "row")) (aCons (eC (.str "or")) (aCons (eC (.str "and")) aNil)))) (e2 modD (eVar 2) (eC (.int 3)))))
  (sSeq (sIf (tVal (e2 (eqD false) (e2 modD (e2 fdivD (eVar 2) (eC (.int 6))) (eC (.int 2))) (eC (.int 1))))
  (sRet (eTup (aCons (eVar 3) (aCons (eTup (aCons (eVar 0) (aCons (eVar 0) (aCons (eVar 1) aNil)))) aNil))))
  sPass)
  (sRet (eTup (aCons (eVar 3) (aCons (eTup (aCons (eVar 1) (aCons (eVar 0) aNil))) aNil)))))))
noncomputable def b__law_about (call : Nat → Fn) : Fn := bodyF 4 (m__law_about call)
noncomputable def m__law_asked (call : Nat → Fn) : SM :=
  (sSeq (sIf (tVal (e2 (eqD false) (eVar 0) (eC (.int 0))))
  (sRet (eCall (ar 1 (call i_need_letters)) (aCons (eVar 1) aNil)))
  sPass)
  (sSeq (sIf (tVal (e2 (eqD false) (eVar 0) (eC (.int 1))))
  (sRet (eCall (ar 2 (call i_need_pattern)) (aCons (eVar 1) (aCons (eVar 2) aNil))))
  sPass)
  (sSeq (sIf (tVal (e2 (eqD false) (eVar 0) (eC (.int 2))))
  (sRet (eCall (ar 3 (call i_fits)) (aCons (eVar 1) (aCons (eVar 2) (aCons (eC .non) aNil)))))
  sPass)
  (sSeq (sIf (tVal (e2 (eqD false) (eVar 0) (eC (.int 3))))
  (sRet (eCall (ar 2 (call i_machine_of)) (aCons (eVar 1) (aCons (eVar 2) aNil))))
  sPass)
  (sSeq (sIf (tVal (e2 (eqD false) (eVar 0) (eC (.int 4))))
  (sRet (eCall (ar 3 (call i_told_alike)) (aCons (eVar 1) (aCons (eVar 2) (aCons (eC .non) aNil)))))
  sPass)
  (sRet (eCall (ar 3 (call i_told_alike)) (aCons (eVar 1) (aCons (eTup (aCons (eC (.str "empty")) aNil)) (aCons (eVar 2) aNil))))))))))
noncomputable def b__law_asked (call : Nat → Fn) : Fn := bodyF 3 (m__law_asked call)
noncomputable def m__law_told (call : Nat → Fn) : SM :=
  (sTry 3 (sRet (eCall (ar 3 (call i__law_asked)) (aCons (eVar 0) (aCons (eVar 1) (aCons (eVar 2) aNil))))))
noncomputable def b__law_told (call : Nat → Fn) : Fn := bodyF 4 (m__law_told call)
noncomputable def m__law_read (call : Nat → Fn) : SM :=
  (sTry 2 (sRet (eCall (ar 2 (call i_read)) (aCons (eVar 0) (aCons (eVar 1) aNil)))))
noncomputable def b__law_read (call : Nat → Fn) : Fn := bodyF 3 (m__law_read call)
noncomputable def m__law_grown (call : Nat → Fn) : SM :=
  (sSeq (sSet 2 (eC (.int 0)))
  (sSeq (sIf (tVal (e2 (eqD false) (e2 modD (eVar 1) (eC (.int 6))) (eC (.int 1))))
  (sSet 2 (e2 modD (e2 fdivD (eVar 1) (eC (.int 6))) (eC (.int 26))))
  sPass)
  (sSeq (sIf (tVal (e2 (eqD false) (e2 modD (eVar 1) (eC (.int 6))) (eC (.int 2))))
  (sSet 2 (e2 subD (e2 addD (eC (.int 60)) (e2 modD (e2 fdivD (eVar 1) (eC (.int 6))) (eC (.int 2)))) (eCall (ar 1 (call i__law_size)) (aCons (eVar 0) aNil))))
  sPass)
  (sSeq (sIf (tVal (e2 (eqD false) (e2 modD (eVar 1) (eC (.int 6))) (eC (.int 3))))
  (sSeq (sSet 4 (eCall maxD (aCons (eC (.int 2)) (aCons (e2 addD (e2 fdivD (eC (.int 58)) (eCall (ar 1 (call i__law_size)) (aCons (eVar 0) aNil))) (e2 modD (e2 fdivD (eVar 1) (eC (.int 6))) (eC (.int 3)))) aNil))))
  (sRet (eTup (aCons (e2 ixD (eLst (aCons (eC (.str "row")) (aCons (eC (.str "or")) (aCons (eC (.str "and")) aNil)))) (e2 modD (e2 fdivD (eVar 1) (eC (.int 18))) (eC (.int 3)))) (aCons (e2 mulD (eTup (aCons (eVar 0) aNil)) (eVar 4)) aNil)))))
  sPass)
  (sSeq (sFor (itR1 (aCons (eVar 2) aNil)) (gVar 3)
  (sSet 0 (eTup (aCons (e2 ixD (eLst (aCons (eC (.str "many")) (aCons (eC (.str "not")) aNil))) (e2 modD (eVar 3) (eC (.int 2)))) (aCons (eVar 0) aNil)))))
  (sRet (eVar 0)))))))
noncomputable def b__law_grown (call : Nat → Fn) : Fn := bodyF 5 (m__law_grown call)
noncomputable def m_law (call : Nat → Fn) : SM :=
  (sSeq (sSet 1 (eCall (ar 1 (call i__law_letters)) (aCons (eCall (ar 2 (call i__law_cell_at)) (aCons (eVar 0) (aCons (eC (.int 0)) aNil))) aNil)))
  (sSeq (sSet 2 (eCall (ar 2 (call i__law_grown)) (aCons (eCall (ar 3 (call i__law_drawn)) (aCons (eVar 1) (aCons (eCut (eVar 0) (oSome (eC (.int 3))) (oSome (eC (.int 23)))) (aCons (eC (.int 50)) aNil)))) (aCons (eCall (ar 2 (call i__law_cell_at)) (aCons (eVar 0) (aCons (eC (.int 1)) aNil))) aNil))))
  (sSeq (sSet 3 (eCall (ar 1 (call i__law_size)) (aCons (eVar 2) aNil)))
  (sSeq (sSet 4 (eCall (ar 1 (call i_nodes)) (aCons (eVar 2) aNil)))
  (sSeq (sIf (tOrM (tNotM (tVal (isiD "int" (eVar 4)))) (tOrM (tVal (isiD "bool" (eVar 4))) (tVal (e2 (eqD true) (eVar 4) (eVar 3)))))
  (sRet (eC (.bl false)))
  sPass)
  (sSeq (sIf (tVal (e2 (isD true) (eCall (ar 2 (call i_is_pattern)) (aCons (eVar 1) (aCons (eVar 2) aNil))) (eC (.bl true))))
  (sRet (eC (.bl false)))
  sPass)
  (sSeq (sIf (tVal (e2 (isD true) (eCall (ar 3 (call i__law_told)) (aCons (eC (.int 0)) (aCons (eVar 1) (aCons (eC .non) aNil)))) (eC .non)))
  (sRet (eC (.bl false)))
  sPass)
  (sSeq (sSet 5 (eC .non))
  (sSeq (sIf (tVal (e2 gtD (eVar 3) (eC (.int 60))))
  (sSet 5 (eLst (aCons (eC (.str "great")) aNil)))
  sPass)
  (sSeq (sIf (tVal (e2 (eqD true) (eCall (ar 3 (call i__law_told)) (aCons (eC (.int 1)) (aCons (eVar 1) (aCons (eVar 2) aNil)))) (eVar 5)))
  (sRet (eC (.bl false)))
  sPass)
  (sSeq (sSet 6 (eCall (ar 2 (call i__law_cell_at)) (aCons (eVar 0) (aCons (eC (.int 2)) aNil))))
  (sSeq (sSet 7 (e2 addD (eC (.int 1)) (e2 modD (e2 fdivD (eVar 6) (eC (.int 7))) (eC (.int 5)))))
  (sSeq (sIf (tAndM (tVal (e2 gtD (eVar 3) (eC (.int 60)))) (tVal (e2 (eqD true) (eCall (ar 3 (call i__law_told)) (aCons (eVar 7) (aCons (eVar 1) (aCons (eVar 2) aNil)))) (eVar 5))))
  (sRet (eC (.bl false)))
  sPass)
  (sSeq (sSet 8 (eCall (ar 3 (call i__law_about)) (aCons (eVar 2) (aCons (eCall (ar 3 (call i__law_no_pattern)) (aCons (eVar 1) (aCons (eVar 2) (aCons (e2 fdivD (eVar 6) (eC (.int 12))) aNil)))) (aCons (eVar 6) aNil)))))
  (sSeq (sIf (tOrM (tVal (e2 (isD true) (eCall (ar 2 (call i_is_pattern)) (aCons (eVar 1) (aCons (eVar 8) aNil))) (eC (.bl false)))) (tVal (e2 (eqD true) (eCall (ar 3 (call i__law_told)) (aCons (eC (.int 1)) (aCons (eVar 1) (aCons (eVar 8) aNil)))) (eLst (aCons (eC (.str "pattern")) aNil)))))
  (sRet (eC (.bl false)))
  sPass)
  (sSeq (sIf (tVal (e2 (eqD true) (eCall (ar 3 (call i__law_told)) (aCons (eVar 7) (aCons (eVar 1) (aCons (eVar 8) aNil)))) (eLst (aCons (eC (.str "pattern")) aNil))))
  (sRet (eC (.bl false)))
  sPass)
  (sSeq (sSet 9 (eCall (ar 1 (call i__law_no_letters)) (aCons (eVar 6) aNil)))
  (sSeq (sSet 10 (e2 ixD (eLst (aCons (eVar 8) (aCons (eVar 2) aNil))) (e2 modD (e2 fdivD (eVar 6) (eC (.int 14))) (eC (.int 2)))))
  (sSeq (sIf (tOrM (tVal (e2 (eqD true) (eCall (ar 3 (call i__law_told)) (aCons (eC (.int 0)) (aCons (eVar 9) (aCons (eC .non) aNil)))) (eLst (aCons (eC (.str "letters")) aNil)))) (tVal (e2 (eqD true) (eCall (ar 3 (call i__law_told)) (aCons (eC (.int 1)) (aCons (eVar 9) (aCons (eVar 10) aNil)))) (eLst (aCons (eC (.str "letters")) aNil)))))
  (sRet (eC (.bl false)))
  sPass)
  (sRet (eAnd (e2 (eqD false) (eCall (ar 3 (call i__law_told)) (aCons (eVar 7) (aCons (eVar 9) (aCons (eVar 10) aNil)))) (eLst (aCons (eC (.str "letters")) aNil))) (e2 (eqD false) (eCall (ar 2 (call i__law_read)) (aCons (eVar 9) (aCons (e2 ixD (eLst (aCons (eC .non) (aCons (eC (.str "a")) aNil))) (e2 modD (eVar 6) (eC (.int 2)))) aNil))) (eLst (aCons (eC (.str "letters")) aNil))))))))))))))))))))))))
noncomputable def b_law (call : Nat → Fn) : Fn := bodyF 11 (m_law call)
noncomputable def fns : Nat → Nat → Fn
  | 0, _ => fun _ _ => .bad
  | k + 1, 0 => b_are_letters (fns k)
  | k + 1, 1 => b_need_letters (fns k)
  | k + 1, 2 => b_is_sign (fns k)
  | k + 1, 3 => b_are_parts (fns k)
  | k + 1, 4 => b_is_pattern (fns k)
  | k + 1, 5 => b_parts_of (fns k)
  | k + 1, 6 => b_nodes (fns k)
  | k + 1, 7 => b_need_pattern (fns k)
  | k + 1, 8 => b_fits (fns k)
  | k + 1, 9 => b_machine_of (fns k)
  | k + 1, 10 => b_told_alike (fns k)
  | k + 1, 11 => b_read (fns k)
  | k + 1, 12 => b__law_cell_at (fns k)
  | k + 1, 13 => b__law_letters (fns k)
  | k + 1, 14 => b__law_size (fns k)
  | k + 1, 15 => b__law_step (fns k)
  | k + 1, 16 => b__law_drawn (fns k)
  | k + 1, 17 => b__law_no_letters (fns k)
  | k + 1, 18 => b__law_stranger (fns k)
  | k + 1, 19 => b__law_no_pattern (fns k)
  | k + 1, 20 => b__law_about (fns k)
  | k + 1, 21 => b__law_asked (fns k)
  | k + 1, 22 => b__law_told (fns k)
  | k + 1, 23 => b__law_read (fns k)
  | k + 1, 24 => b__law_grown (fns k)
  | k + 1, 25 => b_law (fns k)
  | _ + 1, _ => fun _ _ => .bad
theorem e_are_letters (k : Nat) : fns (k + 1) i_are_letters = bodyF 2 (m_are_letters (fns k)) := rfl
theorem e_need_letters (k : Nat) : fns (k + 1) i_need_letters = bodyF 1 (m_need_letters (fns k)) := rfl
theorem e_is_sign (k : Nat) : fns (k + 1) i_is_sign = bodyF 2 (m_is_sign (fns k)) := rfl
theorem e_are_parts (k : Nat) : fns (k + 1) i_are_parts = bodyF 3 (m_are_parts (fns k)) := rfl
theorem e_is_pattern (k : Nat) : fns (k + 1) i_is_pattern = bodyF 2 (m_is_pattern (fns k)) := rfl
theorem e_parts_of (k : Nat) : fns (k + 1) i_parts_of = bodyF 1 (m_parts_of (fns k)) := rfl
theorem e_nodes (k : Nat) : fns (k + 1) i_nodes = bodyF 2 (m_nodes (fns k)) := rfl
theorem e_need_pattern (k : Nat) : fns (k + 1) i_need_pattern = bodyF 2 (m_need_pattern (fns k)) := rfl
theorem e_fits (k : Nat) : fns (k + 1) i_fits = bodyF 4 (m_fits (fns k)) := rfl
theorem e_machine_of (k : Nat) : fns (k + 1) i_machine_of = bodyF 6 (m_machine_of (fns k)) := rfl
theorem e_told_alike (k : Nat) : fns (k + 1) i_told_alike = bodyF 9 (m_told_alike (fns k)) := rfl
theorem e_read (k : Nat) : fns (k + 1) i_read = bodyF 3 (m_read (fns k)) := rfl
theorem e__law_cell_at (k : Nat) : fns (k + 1) i__law_cell_at = bodyF 2 (m__law_cell_at (fns k)) := rfl
theorem e__law_letters (k : Nat) : fns (k + 1) i__law_letters = bodyF 3 (m__law_letters (fns k)) := rfl
theorem e__law_size (k : Nat) : fns (k + 1) i__law_size = bodyF 2 (m__law_size (fns k)) := rfl
theorem e__law_step (k : Nat) : fns (k + 1) i__law_step = bodyF 6 (m__law_step (fns k)) := rfl
theorem e__law_drawn (k : Nat) : fns (k + 1) i__law_drawn = bodyF 7 (m__law_drawn (fns k)) := rfl
theorem e__law_no_letters (k : Nat) : fns (k + 1) i__law_no_letters = bodyF 2 (m__law_no_letters (fns k)) := rfl
theorem e__law_stranger (k : Nat) : fns (k + 1) i__law_stranger = bodyF 4 (m__law_stranger (fns k)) := rfl
theorem e__law_no_pattern (k : Nat) : fns (k + 1) i__law_no_pattern = bodyF 5 (m__law_no_pattern (fns k)) := rfl
theorem e__law_about (k : Nat) : fns (k + 1) i__law_about = bodyF 4 (m__law_about (fns k)) := rfl
theorem e__law_asked (k : Nat) : fns (k + 1) i__law_asked = bodyF 3 (m__law_asked (fns k)) := rfl
theorem e__law_told (k : Nat) : fns (k + 1) i__law_told = bodyF 4 (m__law_told (fns k)) := rfl
theorem e__law_read (k : Nat) : fns (k + 1) i__law_read = bodyF 3 (m__law_read (fns k)) := rfl
theorem e__law_grown (k : Nat) : fns (k + 1) i__law_grown = bodyF 5 (m__law_grown (fns k)) := rfl
theorem e_law (k : Nat) : fns (k + 1) i_law = bodyF 11 (m_law (fns k)) := rfl
structure Tx (K : PySem.W.Frag) (mg : Str → Option Value) where
  a : Nat → Addr
  fd : Nat → FuncData
  ca : Nat → Addr
  F0 : Fun K "are_letters" "are_letters" s_are_letters (a 0) (fd 0)
  g0 : mg "are_letters" = some (.ref (a 0))
  b0 : Binds K (fd 0) ["thing"] []
  F1 : Fun K "need_letters" "need_letters" s_need_letters (a 1) (fd 1)
  g1 : mg "need_letters" = some (.ref (a 1))
  b1 : Binds K (fd 1) ["letters"] []
  F2 : Fun K "is_sign" "is_sign" s_is_sign (a 2) (fd 2)
  g2 : mg "is_sign" = some (.ref (a 2))
  b2 : Binds K (fd 2) ["letters", "thing"] []
  F3 : Fun K "are_parts" "are_parts" s_are_parts (a 3) (fd 3)
  g3 : mg "are_parts" = some (.ref (a 3))
  b3 : Binds K (fd 3) ["letters", "thing"] []
  F4 : Fun K "is_pattern" "is_pattern" s_is_pattern (a 4) (fd 4)
  g4 : mg "is_pattern" = some (.ref (a 4))
  b4 : Binds K (fd 4) ["letters", "thing"] []
  F5 : Fun K "parts_of" "parts_of" s_parts_of (a 5) (fd 5)
  g5 : mg "parts_of" = some (.ref (a 5))
  b5 : Binds K (fd 5) ["pattern"] []
  F6 : Fun K "nodes" "nodes" s_nodes (a 6) (fd 6)
  g6 : mg "nodes" = some (.ref (a 6))
  b6 : Binds K (fd 6) ["pattern"] []
  F7 : Fun K "need_pattern" "need_pattern" s_need_pattern (a 7) (fd 7)
  g7 : mg "need_pattern" = some (.ref (a 7))
  b7 : Binds K (fd 7) ["letters", "pattern"] []
  F8 : Fun K "fits" "fits" s_fits (a 8) (fd 8)
  g8 : mg "fits" = some (.ref (a 8))
  b8 : Binds K (fd 8) ["letters", "pattern", "text"] []
  F9 : Fun K "machine_of" "machine_of" s_machine_of (a 9) (fd 9)
  g9 : mg "machine_of" = some (.ref (a 9))
  b9 : Binds K (fd 9) ["letters", "pattern"] []
  F10 : Fun K "told_alike" "told_alike" s_told_alike (a 10) (fd 10)
  g10 : mg "told_alike" = some (.ref (a 10))
  b10 : Binds K (fd 10) ["letters", "one", "other"] []
  F11 : Fun K "read" "read" s_read (a 11) (fd 11)
  g11 : mg "read" = some (.ref (a 11))
  b11 : Binds K (fd 11) ["letters", "text"] []
  F12 : Fun K "_law_cell_at" "_law_cell_at" s__law_cell_at (a 12) (fd 12)
  g12 : mg "_law_cell_at" = some (.ref (a 12))
  b12 : Binds K (fd 12) ["_law_script", "_law_k"] []
  F13 : Fun K "_law_letters" "_law_letters" s__law_letters (a 13) (fd 13)
  g13 : mg "_law_letters" = some (.ref (a 13))
  b13 : Binds K (fd 13) ["_law_cell"] []
  F14 : Fun K "_law_size" "_law_size" s__law_size (a 14) (fd 14)
  g14 : mg "_law_size" = some (.ref (a 14))
  b14 : Binds K (fd 14) ["_law_pattern"] []
  F15 : Fun K "_law_step" "_law_step" s__law_step (a 15) (fd 15)
  g15 : mg "_law_step" = some (.ref (a 15))
  b15 : Binds K (fd 15) ["_law_letters_here", "_law_stack", "_law_cell"] []
  F16 : Fun K "_law_drawn" "_law_drawn" s__law_drawn (a 16) (fd 16)
  g16 : mg "_law_drawn" = some (.ref (a 16))
  b16 : Binds K (fd 16) ["_law_letters_here", "_law_cells", "_law_most"] []
  F17 : Fun K "_law_no_letters" "_law_no_letters" s__law_no_letters (a 17) (fd 17)
  g17 : mg "_law_no_letters" = some (.ref (a 17))
  b17 : Binds K (fd 17) ["_law_cell"] []
  F18 : Fun K "_law_stranger" "_law_stranger" s__law_stranger (a 18) (fd 18)
  g18 : mg "_law_stranger" = some (.ref (a 18))
  b18 : Binds K (fd 18) ["_law_letters_here", "_law_cell"] []
  F19 : Fun K "_law_no_pattern" "_law_no_pattern" s__law_no_pattern (a 19) (fd 19)
  g19 : mg "_law_no_pattern" = some (.ref (a 19))
  b19 : Binds K (fd 19) ["_law_letters_here", "_law_pattern", "_law_cell"] []
  F20 : Fun K "_law_about" "_law_about" s__law_about (a 20) (fd 20)
  g20 : mg "_law_about" = some (.ref (a 20))
  b20 : Binds K (fd 20) ["_law_pattern", "_law_wrong", "_law_cell"] []
  F21 : Fun K "_law_asked" "_law_asked" s__law_asked (a 21) (fd 21)
  g21 : mg "_law_asked" = some (.ref (a 21))
  b21 : Binds K (fd 21) ["_law_way", "_law_letters_here", "_law_thing"] []
  F22 : Fun K "_law_told" "_law_told" s__law_told (a 22) (fd 22)
  g22 : mg "_law_told" = some (.ref (a 22))
  b22 : Binds K (fd 22) ["_law_way", "_law_letters_here", "_law_thing"] []
  F23 : Fun K "_law_read" "_law_read" s__law_read (a 23) (fd 23)
  g23 : mg "_law_read" = some (.ref (a 23))
  b23 : Binds K (fd 23) ["_law_letters_here", "_law_text"] []
  F24 : Fun K "_law_grown" "_law_grown" s__law_grown (a 24) (fd 24)
  g24 : mg "_law_grown" = some (.ref (a 24))
  b24 : Binds K (fd 24) ["_law_pattern", "_law_cell"] []
  F25 : Fun K "law" "law" s_law (a 25) (fd 25)
  g25 : mg "law" = some (.ref (a 25))
  b25 : Binds K (fd 25) ["_law_script"] []
  n_ValueError : mg "ValueError" = none
  n_all : mg "all" = none
  n_bool : mg "bool" = none
  n_int : mg "int" = none
  n_isinstance : mg "isinstance" = none
  n_len : mg "len" = none
  n_list : mg "list" = none
  n_max : mg "max" = none
  n_min : mg "min" = none
  n_range : mg "range" = none
  n_str : mg "str" = none
  n_sum : mg "sum" = none
  n_tuple : mg "tuple" = none
  k_SMALL : GlobD K mg "SMALL" (.str "abcdefghijklmnopqrstuvwxyz")
  k_MOST_LETTERS : GlobD K mg "MOST_LETTERS" (.int 4)
  k_MOST_NODES : GlobD K mg "MOST_NODES" (.int 60)
  x0 : ExT K mg "PatternError" (ca 0)
  x1 : ExT K mg "NoLetters" (ca 1)
  x2 : ExT K mg "NoPattern" (ca 2)
  x3 : ExT K mg "TooGreat" (ca 3)
  x4 : ExT K mg "NoText" (ca 4)
  x5 : ExT K mg "NoRoom" (ca 5)
  ak : Addr
  fdk : FuncData
  F_kind : Fun K "_law_kind" "_law_kind" s__law_kind ak fdk
  g_kind : mg "_law_kind" = some (.ref ak)
  b_kind : Binds K fdk ["_law_error"] []
  xk : ExK K ca
structure Ok (P : Program) (w : World) (K : PySem.W.Frag) (mg : Str → Option Value) (base : Heap) (T : Tx K mg) (k : Nat) : Prop where
  o0 : FnOk P w K mg base (L2N.CX P w) (k + 1) (T.a 0) (T.fd 0) ["thing"] (spOf K T.ca 1 (fns k 0))
  o1 : FnOk P w K mg base (L2N.CX P w) (k + 1) (T.a 1) (T.fd 1) ["letters"] (spOf K T.ca 1 (fns k 1))
  o2 : FnOk P w K mg base (L2N.CX P w) (k + 1) (T.a 2) (T.fd 2) ["letters", "thing"] (spOf K T.ca 2 (fns k 2))
  o3 : FnOk P w K mg base (L2N.CX P w) (k + 1) (T.a 3) (T.fd 3) ["letters", "thing"] (spOf K T.ca 2 (fns k 3))
  o4 : FnOk P w K mg base (L2N.CX P w) (k + 1) (T.a 4) (T.fd 4) ["letters", "thing"] (spOf K T.ca 2 (fns k 4))
  o5 : FnOk P w K mg base (L2N.CX P w) (k + 1) (T.a 5) (T.fd 5) ["pattern"] (spOf K T.ca 1 (fns k 5))
  o6 : FnOk P w K mg base (L2N.CX P w) (k + 1) (T.a 6) (T.fd 6) ["pattern"] (spOf K T.ca 1 (fns k 6))
  o7 : FnOk P w K mg base (L2N.CX P w) (k + 1) (T.a 7) (T.fd 7) ["letters", "pattern"] (spOf K T.ca 2 (fns k 7))
  o8 : FnOk P w K mg base (L2N.CX P w) (k + 1) (T.a 8) (T.fd 8) ["letters", "pattern", "text"] (spOf K T.ca 3 (fns k 8))
  o9 : FnOk P w K mg base (L2N.CX P w) (k + 1) (T.a 9) (T.fd 9) ["letters", "pattern"] (spOf K T.ca 2 (fns k 9))
  o10 : FnOk P w K mg base (L2N.CX P w) (k + 1) (T.a 10) (T.fd 10) ["letters", "one", "other"] (spOf K T.ca 3 (fns k 10))
  o11 : FnOk P w K mg base (L2N.CX P w) (k + 1) (T.a 11) (T.fd 11) ["letters", "text"] (spOf K T.ca 2 (fns k 11))
  o12 : FnOk P w K mg base (L2N.CX P w) (k + 1) (T.a 12) (T.fd 12) ["_law_script", "_law_k"] (spOf K T.ca 2 (fns k 12))
  o13 : FnOk P w K mg base (L2N.CX P w) (k + 1) (T.a 13) (T.fd 13) ["_law_cell"] (spOf K T.ca 1 (fns k 13))
  o14 : FnOk P w K mg base (L2N.CX P w) (k + 1) (T.a 14) (T.fd 14) ["_law_pattern"] (spOf K T.ca 1 (fns k 14))
  o15 : FnOk P w K mg base (L2N.CX P w) (k + 1) (T.a 15) (T.fd 15) ["_law_letters_here", "_law_stack", "_law_cell"] (spOf K T.ca 3 (fns k 15))
  o16 : FnOk P w K mg base (L2N.CX P w) (k + 1) (T.a 16) (T.fd 16) ["_law_letters_here", "_law_cells", "_law_most"] (spOf K T.ca 3 (fns k 16))
  o17 : FnOk P w K mg base (L2N.CX P w) (k + 1) (T.a 17) (T.fd 17) ["_law_cell"] (spOf K T.ca 1 (fns k 17))
  o18 : FnOk P w K mg base (L2N.CX P w) (k + 1) (T.a 18) (T.fd 18) ["_law_letters_here", "_law_cell"] (spOf K T.ca 2 (fns k 18))
  o19 : FnOk P w K mg base (L2N.CX P w) (k + 1) (T.a 19) (T.fd 19) ["_law_letters_here", "_law_pattern", "_law_cell"] (spOf K T.ca 3 (fns k 19))
  o20 : FnOk P w K mg base (L2N.CX P w) (k + 1) (T.a 20) (T.fd 20) ["_law_pattern", "_law_wrong", "_law_cell"] (spOf K T.ca 3 (fns k 20))
  o21 : FnOk P w K mg base (L2N.CX P w) (k + 1) (T.a 21) (T.fd 21) ["_law_way", "_law_letters_here", "_law_thing"] (spOf K T.ca 3 (fns k 21))
  o22 : FnOk P w K mg base (L2N.CX P w) (k + 1) (T.a 22) (T.fd 22) ["_law_way", "_law_letters_here", "_law_thing"] (spOf K T.ca 3 (fns k 22))
  o23 : FnOk P w K mg base (L2N.CX P w) (k + 1) (T.a 23) (T.fd 23) ["_law_letters_here", "_law_text"] (spOf K T.ca 2 (fns k 23))
  o24 : FnOk P w K mg base (L2N.CX P w) (k + 1) (T.a 24) (T.fd 24) ["_law_pattern", "_law_cell"] (spOf K T.ca 2 (fns k 24))
  o25 : FnOk P w K mg base (L2N.CX P w) (k + 1) (T.a 25) (T.fd 25) ["_law_script"] (spOf K T.ca 1 (fns k 25))
  kd : FnP P w K mg base (L2N.CX P w) 1 T.ak T.fdk ["_law_error"] (spKind K T.ca)
section
variable {P : Program} {w : World} {K : PySem.W.Frag} {mg : Str → Option Value} {base : Heap}
theorem ok_kind (T : Tx K mg) : FnP P w K mg base (L2N.CX P w) 1 T.ak T.fdk ["_law_error"] (spKind K T.ca) :=
  fn_kind (ca := T.ca) (N := ["_law_error", "_law_found", "_law_word", "_law_is_one"]) rfl T.F_kind sc__law_kind (fun X p c ⟨cdv, A, outer, s, H, E, hX⟩ hr hot hpn h1 h5 hz => by
    subst hX
    have nd := sc__law_kind.nd
    have hu := huH hr
    have hf : ∃ vs, p.2.data = .fields vs := by obtain ⟨vs, e, _⟩ := hot.2; exact ⟨vs, e⟩
    have X1 := T.xk.c c h1 h5
    have X2 := T.xk.ko c
    have X3 := T.xk.kv c h1 h5
    show DSs _ T.ca _ _ (m_kind c p.1)
    exact (dss_cons wid_0 (ds_set 1 nd (de_lst (da_cons (de_tup (da_cons de_str (da_cons (de_isE (b := decide (c = 1)) T.x1.g X1 hpn hz hf (X2 1 h1 h5 (by decide) (by decide)) T.n_isinstance (de_var 0)) da_nil))) (da_cons (de_tup (da_cons de_str (da_cons (de_isE (b := decide (c = 2)) T.x2.g X1 hpn hz hf (X2 2 h1 h5 (by decide) (by decide)) T.n_isinstance (de_var 0)) da_nil))) da_nil))))
      (dss_cons wid_0 (ds_set 1 nd (de_bin op_addA imp_add (de_var 1) (de_lst (da_cons (de_tup (da_cons de_str (da_cons (de_isE (b := decide (c = 3)) T.x3.g X1 hpn hz hf (X2 3 h1 h5 (by decide) (by decide)) T.n_isinstance (de_var 0)) da_nil))) (da_cons (de_tup (da_cons de_str (da_cons (de_isE (b := decide (c = 4)) T.x4.g X1 hpn hz hf (X2 4 h1 h5 (by decide) (by decide)) T.n_isinstance (de_var 0)) da_nil))) da_nil)))))
      (dss_cons wid_0 (ds_setLcH (p := p) (t := .two 2 3) (own := [("_law_word", 2), ("_law_is_one", 3)]) 1 hot hpn nd (dih_list (de_bin op_addA imp_add (de_var 1) (de_lst (da_cons (de_tup (da_cons de_str (da_cons (de_isE (b := decide (c = 5)) T.x5.g X1 hpn hz hf (X2 5 h1 h5 (by decide) (by decide)) T.n_isinstance (de_var 0)) da_nil))) da_nil))))
          (blkOk_by (N := ["_law_error", "_law_found", "_law_word", "_law_is_one"]) (sc := defScope s__law_kind) (by decide +kernel)) ⟨List.mem_cons_self, List.mem_cons_of_mem _ List.mem_cons_self⟩ (fun _ _ _ _ _ b => tg_twoH 2 3 hot.1 b nd) (fun _ _ _ _ _ => dts_one (dt_val (de_var 3))) (fun _ _ _ _ _ => de_var 2))
      (dss_one (ds_ret (de_bin op_mulA imp_mul (de_var 1) (de_callTy call_int1 imp_int rfl T.n_int B.int (da_cons (de_and (de_cmp (op_eqP hu) (imp_eqP false) (de_callB call_len imp_len rfl T.n_len PySem.boot_len (da_cons (de_var 1) da_nil)) de_int) (de_one (de_isEV X1 hpn hz hf X3 T.n_isinstance T.n_ValueError (de_var 0)))) da_nil)))))))))
theorem ok_are_letters {k : Nat} (T : Tx K mg) (O : Ok P w K mg base T k) : FnOk P w K mg base (L2N.CX P w) (k + 2) (T.a 0) (T.fd 0) ["thing"] (spOf K T.ca 1 (fns (k + 1) 0)) := by
  show FnOk P w K mg base (L2N.CX P w) (k + 2) (T.a 0) (T.fd 0) ["thing"] (spOf K T.ca 1 (b_are_letters (fns k)))
  exact fn_ok (N := ["thing", "sign"]) 2 1 (m_are_letters (fns k)) rfl rfl T.F0 sc_are_letters (fun X E ⟨cdv, A, outer, s, H, hX⟩ hr => by
    subst hX
    have nd := sc_are_letters.nd
    have hu := hu200 hr
    have hW := wid_fn (E := E)
    have tk := tk_fn (P := P) (w := w) (K := K) (mg := mg) (base := base) (N := ["thing", "sign"]) (qual := "are_letters") (scope := defScope s_are_letters) (f := T.a 0) (cd := cdv) (A := A) (outer := outer) (s := s) (H := H) (E := E)
    have hp := hp_fn (P := P) (w := w) (K := K) (mg := mg) (base := base) (N := ["thing", "sign"]) (qual := "are_letters") (scope := defScope s_are_letters) (f := T.a 0) (cd := cdv) (A := A) (outer := outer) (s := s) (H := H) (E := E)
    show DSs _ T.ca _ _ (m_are_letters (fns k))
    exact (dss_cons hW (ds_if (dt_w (dw_or (dt_not (dt_val (de_isi T.n_isinstance T.n_str B.str (by decide) (de_var 0)))) (dw_or1 (dt_not (dt_chain op_le op_le imp_le imp_le de_int (de_callB call_len imp_len rfl T.n_len PySem.boot_len (da_cons (de_var 0) da_nil)) (de_globD rfl T.k_MOST_LETTERS))))))
  (dss_one (ds_ret de_bl))
  dss_nil)
  (dss_one (ds_ret (de_callB (cr_all rfl) imp_all rfl T.n_all boot_all (da_cons (de_lc rfl nd (t := (.one 1)) (own := [("sign", 1)]) (di_any (de_var 0)) (blkOk_by (N := ["thing", "sign"]) (sc := defScope s_are_letters) (by decide +kernel)) List.mem_cons_self (fun _ _ _ _ _ => tg_one 1 nd) (fun _ _ _ _ _ => dts_nil) (fun _ _ _ _ _ => (de_and (de_cmp (op_inA hu) (imp_in false) (de_var 1) (de_globD rfl T.k_SMALL)) (de_one (de_cmp (op_eqP hu) (imp_eqP false) (de_count (de_var 0) (de_var 1)) de_int))))) da_nil))))))
theorem ok_need_letters {k : Nat} (T : Tx K mg) (O : Ok P w K mg base T k) : FnOk P w K mg base (L2N.CX P w) (k + 2) (T.a 1) (T.fd 1) ["letters"] (spOf K T.ca 1 (fns (k + 1) 1)) := by
  show FnOk P w K mg base (L2N.CX P w) (k + 2) (T.a 1) (T.fd 1) ["letters"] (spOf K T.ca 1 (b_need_letters (fns k)))
  exact fn_ok (N := ["letters"]) 1 1 (m_need_letters (fns k)) rfl rfl T.F1 sc_need_letters (fun X E ⟨cdv, A, outer, s, H, hX⟩ hr => by
    subst hX
    have nd := sc_need_letters.nd
    have hu := hu200 hr
    have hW := wid_fn (E := E)
    have tk := tk_fn (P := P) (w := w) (K := K) (mg := mg) (base := base) (N := ["letters"]) (qual := "need_letters") (scope := defScope s_need_letters) (f := T.a 1) (cd := cdv) (A := A) (outer := outer) (s := s) (H := H) (E := E)
    have hp := hp_fn (P := P) (w := w) (K := K) (mg := mg) (base := base) (N := ["letters"]) (qual := "need_letters") (scope := defScope s_need_letters) (f := T.a 1) (cd := cdv) (A := A) (outer := outer) (s := s) (H := H) (E := E)
    show DSs _ T.ca _ _ (m_need_letters (fns k))
    exact (dss_one (ds_if (dt_not (dt_val (de_call O.o0 hr tk T.g0 T.F0.kp T.b0 (da_cons (de_var 0) da_nil))))
  (dss_one (ds_raise (c := 1) T.x1 rfl tk))
  dss_nil)))
theorem ok_is_sign {k : Nat} (T : Tx K mg) (O : Ok P w K mg base T k) : FnOk P w K mg base (L2N.CX P w) (k + 2) (T.a 2) (T.fd 2) ["letters", "thing"] (spOf K T.ca 2 (fns (k + 1) 2)) := by
  show FnOk P w K mg base (L2N.CX P w) (k + 2) (T.a 2) (T.fd 2) ["letters", "thing"] (spOf K T.ca 2 (b_is_sign (fns k)))
  exact fn_ok (N := ["letters", "thing"]) 2 2 (m_is_sign (fns k)) rfl rfl T.F2 sc_is_sign (fun X E ⟨cdv, A, outer, s, H, hX⟩ hr => by
    subst hX
    have nd := sc_is_sign.nd
    have hu := hu200 hr
    have hW := wid_fn (E := E)
    have tk := tk_fn (P := P) (w := w) (K := K) (mg := mg) (base := base) (N := ["letters", "thing"]) (qual := "is_sign") (scope := defScope s_is_sign) (f := T.a 2) (cd := cdv) (A := A) (outer := outer) (s := s) (H := H) (E := E)
    have hp := hp_fn (P := P) (w := w) (K := K) (mg := mg) (base := base) (N := ["letters", "thing"]) (qual := "is_sign") (scope := defScope s_is_sign) (f := T.a 2) (cd := cdv) (A := A) (outer := outer) (s := s) (H := H) (E := E)
    show DSs _ T.ca _ _ (m_is_sign (fns k))
    exact (dss_one (ds_ret (de_and (de_isi T.n_isinstance T.n_str B.str (by decide) (de_var 1)) (de_and (de_cmp (op_eqP hu) (imp_eqP false) (de_callB call_len imp_len rfl T.n_len PySem.boot_len (da_cons (de_var 1) da_nil)) de_int) (de_one (de_cmp (op_inA hu) (imp_in false) (de_var 1) (de_var 0))))))))
theorem ok_are_parts {k : Nat} (T : Tx K mg) (O : Ok P w K mg base T k) : FnOk P w K mg base (L2N.CX P w) (k + 2) (T.a 3) (T.fd 3) ["letters", "thing"] (spOf K T.ca 2 (fns (k + 1) 3)) := by
  show FnOk P w K mg base (L2N.CX P w) (k + 2) (T.a 3) (T.fd 3) ["letters", "thing"] (spOf K T.ca 2 (b_are_parts (fns k)))
  exact fn_ok (N := ["letters", "thing", "part"]) 3 2 (m_are_parts (fns k)) rfl rfl T.F3 sc_are_parts (fun X E ⟨cdv, A, outer, s, H, hX⟩ hr => by
    subst hX
    have nd := sc_are_parts.nd
    have hu := hu200 hr
    have hW := wid_fn (E := E)
    have tk := tk_fn (P := P) (w := w) (K := K) (mg := mg) (base := base) (N := ["letters", "thing", "part"]) (qual := "are_parts") (scope := defScope s_are_parts) (f := T.a 3) (cd := cdv) (A := A) (outer := outer) (s := s) (H := H) (E := E)
    have hp := hp_fn (P := P) (w := w) (K := K) (mg := mg) (base := base) (N := ["letters", "thing", "part"]) (qual := "are_parts") (scope := defScope s_are_parts) (f := T.a 3) (cd := cdv) (A := A) (outer := outer) (s := s) (H := H) (E := E)
    show DSs _ T.ca _ _ (m_are_parts (fns k))
    exact (dss_one (ds_ret (de_and (de_isi T.n_isinstance T.n_tuple B.tuple (by decide) (de_var 1)) (de_and (de_cmp op_gt imp_gt (de_callB call_len imp_len rfl T.n_len PySem.boot_len (da_cons (de_var 1) da_nil)) de_int) (de_one (de_callB (cr_all rfl) imp_all rfl T.n_all boot_all (da_cons (de_lc rfl nd (t := (.one 2)) (own := [("part", 2)]) (di_any (de_var 1)) (blkOk_by (N := ["letters", "thing", "part"]) (sc := defScope s_are_parts) (by decide +kernel)) List.mem_cons_self (fun _ _ _ _ _ => tg_one 2 nd) (fun _ _ _ _ _ => dts_nil) (fun _ _ _ _ _ => (de_call O.o4 hr takes0N T.g4 T.F4.kp T.b4 (da_cons (de_var 0) (da_cons (de_var 2) da_nil))))) da_nil))))))))
theorem ok_is_pattern {k : Nat} (T : Tx K mg) (O : Ok P w K mg base T k) : FnOk P w K mg base (L2N.CX P w) (k + 2) (T.a 4) (T.fd 4) ["letters", "thing"] (spOf K T.ca 2 (fns (k + 1) 4)) := by
  show FnOk P w K mg base (L2N.CX P w) (k + 2) (T.a 4) (T.fd 4) ["letters", "thing"] (spOf K T.ca 2 (b_is_pattern (fns k)))
  exact fn_ok (N := ["letters", "thing"]) 2 2 (m_is_pattern (fns k)) rfl rfl T.F4 sc_is_pattern (fun X E ⟨cdv, A, outer, s, H, hX⟩ hr => by
    subst hX
    have nd := sc_is_pattern.nd
    have hu := hu200 hr
    have hW := wid_fn (E := E)
    have tk := tk_fn (P := P) (w := w) (K := K) (mg := mg) (base := base) (N := ["letters", "thing"]) (qual := "is_pattern") (scope := defScope s_is_pattern) (f := T.a 4) (cd := cdv) (A := A) (outer := outer) (s := s) (H := H) (E := E)
    have hp := hp_fn (P := P) (w := w) (K := K) (mg := mg) (base := base) (N := ["letters", "thing"]) (qual := "is_pattern") (scope := defScope s_is_pattern) (f := T.a 4) (cd := cdv) (A := A) (outer := outer) (s := s) (H := H) (E := E)
    show DSs _ T.ca _ _ (m_is_pattern (fns k))
    exact (dss_cons hW (ds_if (dt_w (dw_or (dt_not (dt_val (de_isi T.n_isinstance T.n_tuple B.tuple (by decide) (de_var 1)))) (dw_or (dt_cmp (op_eqP hu) (imp_eqP false) (de_callB call_len imp_len rfl T.n_len PySem.boot_len (da_cons (de_var 1) da_nil)) de_int) (dw_or1 (dt_not (dt_val (de_isi T.n_isinstance T.n_str B.str (by decide) (de_ix (de_var 1) de_int))))))))
  (dss_one (ds_ret de_bl))
  dss_nil)
  (dss_cons hW (ds_if (dt_w (dw_or (dt_cmp (op_eqP hu) (imp_eqP false) (de_ix (de_var 1) de_int) de_str) (dw_or1 (dt_cmp (op_eqP hu) (imp_eqP false) (de_ix (de_var 1) de_int) de_str))))
  (dss_one (ds_ret (de_cmp (op_eqP hu) (imp_eqP false) (de_callB call_len imp_len rfl T.n_len PySem.boot_len (da_cons (de_var 1) da_nil)) de_int)))
  dss_nil)
  (dss_cons hW (ds_if (dt_cmp (op_neP hu) (imp_eqP true) (de_callB call_len imp_len rfl T.n_len PySem.boot_len (da_cons (de_var 1) da_nil)) de_int)
  (dss_one (ds_ret de_bl))
  dss_nil)
  (dss_cons hW (ds_if (dt_cmp (op_eqP hu) (imp_eqP false) (de_ix (de_var 1) de_int) de_str)
  (dss_one (ds_ret (de_call O.o2 hr tk T.g2 T.F2.kp T.b2 (da_cons (de_var 0) (da_cons (de_ix (de_var 1) de_int) da_nil)))))
  dss_nil)
  (dss_cons hW (ds_if (dt_w (dw_or (dt_cmp (op_eqP hu) (imp_eqP false) (de_ix (de_var 1) de_int) de_str) (dw_or1 (dt_cmp (op_eqP hu) (imp_eqP false) (de_ix (de_var 1) de_int) de_str))))
  (dss_one (ds_ret (de_call O.o4 hr tk T.g4 T.F4.kp T.b4 (da_cons (de_var 0) (da_cons (de_ix (de_var 1) de_int) da_nil)))))
  dss_nil)
  (dss_one (ds_ret (de_and (de_cmp (op_inA hu) (imp_in false) (de_ix (de_var 1) de_int) (de_tup (da_cons de_str (da_cons de_str (da_cons de_str da_nil))))) (de_one (de_call O.o3 hr tk T.g3 T.F3.kp T.b3 (da_cons (de_var 0) (da_cons (de_ix (de_var 1) de_int) da_nil)))))))))))))
theorem ok_parts_of {k : Nat} (T : Tx K mg) (O : Ok P w K mg base T k) : FnOk P w K mg base (L2N.CX P w) (k + 2) (T.a 5) (T.fd 5) ["pattern"] (spOf K T.ca 1 (fns (k + 1) 5)) := by
  show FnOk P w K mg base (L2N.CX P w) (k + 2) (T.a 5) (T.fd 5) ["pattern"] (spOf K T.ca 1 (b_parts_of (fns k)))
  exact fn_ok (N := ["pattern"]) 1 1 (m_parts_of (fns k)) rfl rfl T.F5 sc_parts_of (fun X E ⟨cdv, A, outer, s, H, hX⟩ hr => by
    subst hX
    have nd := sc_parts_of.nd
    have hu := hu200 hr
    have hW := wid_fn (E := E)
    have tk := tk_fn (P := P) (w := w) (K := K) (mg := mg) (base := base) (N := ["pattern"]) (qual := "parts_of") (scope := defScope s_parts_of) (f := T.a 5) (cd := cdv) (A := A) (outer := outer) (s := s) (H := H) (E := E)
    have hp := hp_fn (P := P) (w := w) (K := K) (mg := mg) (base := base) (N := ["pattern"]) (qual := "parts_of") (scope := defScope s_parts_of) (f := T.a 5) (cd := cdv) (A := A) (outer := outer) (s := s) (H := H) (E := E)
    show DSs _ T.ca _ _ (m_parts_of (fns k))
    exact (dss_cons hW (ds_if (dt_cmp (op_inA hu) (imp_in false) (de_ix (de_var 0) de_int) (de_tup (da_cons de_str (da_cons de_str (da_cons de_str da_nil)))))
  (dss_one (ds_ret (de_callTy call_list_of imp_list rfl T.n_list B.list (da_cons (de_ix (de_var 0) de_int) da_nil))))
  dss_nil)
  (dss_cons hW (ds_if (dt_w (dw_or (dt_cmp (op_eqP hu) (imp_eqP false) (de_ix (de_var 0) de_int) de_str) (dw_or1 (dt_cmp (op_eqP hu) (imp_eqP false) (de_ix (de_var 0) de_int) de_str))))
  (dss_one (ds_ret (de_lst (da_cons (de_ix (de_var 0) de_int) da_nil))))
  dss_nil)
  (dss_one (ds_ret (de_lst da_nil))))))
theorem ok_nodes {k : Nat} (T : Tx K mg) (O : Ok P w K mg base T k) : FnOk P w K mg base (L2N.CX P w) (k + 2) (T.a 6) (T.fd 6) ["pattern"] (spOf K T.ca 1 (fns (k + 1) 6)) := by
  show FnOk P w K mg base (L2N.CX P w) (k + 2) (T.a 6) (T.fd 6) ["pattern"] (spOf K T.ca 1 (b_nodes (fns k)))
  exact fn_ok (N := ["pattern", "part"]) 2 1 (m_nodes (fns k)) rfl rfl T.F6 sc_nodes (fun X E ⟨cdv, A, outer, s, H, hX⟩ hr => by
    subst hX
    have nd := sc_nodes.nd
    have hu := hu200 hr
    have hW := wid_fn (E := E)
    have tk := tk_fn (P := P) (w := w) (K := K) (mg := mg) (base := base) (N := ["pattern", "part"]) (qual := "nodes") (scope := defScope s_nodes) (f := T.a 6) (cd := cdv) (A := A) (outer := outer) (s := s) (H := H) (E := E)
    have hp := hp_fn (P := P) (w := w) (K := K) (mg := mg) (base := base) (N := ["pattern", "part"]) (qual := "nodes") (scope := defScope s_nodes) (f := T.a 6) (cd := cdv) (A := A) (outer := outer) (s := s) (H := H) (E := E)
    show DSs _ T.ca _ _ (m_nodes (fns k))
    exact (dss_one (ds_ret (de_bin op_addA imp_add de_int (de_callB (cr_sum rfl) imp_sum rfl T.n_sum boot_sum (da_cons (de_lc rfl nd (t := (.one 1)) (own := [("part", 1)]) (di_any (de_call O.o5 hr tk T.g5 T.F5.kp T.b5 (da_cons (de_var 0) da_nil))) (blkOk_by (N := ["pattern", "part"]) (sc := defScope s_nodes) (by decide +kernel)) List.mem_cons_self (fun _ _ _ _ _ => tg_one 1 nd) (fun _ _ _ _ _ => dts_nil) (fun _ _ _ _ _ => (de_call O.o6 hr takes0N T.g6 T.F6.kp T.b6 (da_cons (de_var 1) da_nil)))) da_nil))))))
theorem ok_need_pattern {k : Nat} (T : Tx K mg) (O : Ok P w K mg base T k) : FnOk P w K mg base (L2N.CX P w) (k + 2) (T.a 7) (T.fd 7) ["letters", "pattern"] (spOf K T.ca 2 (fns (k + 1) 7)) := by
  show FnOk P w K mg base (L2N.CX P w) (k + 2) (T.a 7) (T.fd 7) ["letters", "pattern"] (spOf K T.ca 2 (b_need_pattern (fns k)))
  exact fn_ok (N := ["letters", "pattern"]) 2 2 (m_need_pattern (fns k)) rfl rfl T.F7 sc_need_pattern (fun X E ⟨cdv, A, outer, s, H, hX⟩ hr => by
    subst hX
    have nd := sc_need_pattern.nd
    have hu := hu200 hr
    have hW := wid_fn (E := E)
    have tk := tk_fn (P := P) (w := w) (K := K) (mg := mg) (base := base) (N := ["letters", "pattern"]) (qual := "need_pattern") (scope := defScope s_need_pattern) (f := T.a 7) (cd := cdv) (A := A) (outer := outer) (s := s) (H := H) (E := E)
    have hp := hp_fn (P := P) (w := w) (K := K) (mg := mg) (base := base) (N := ["letters", "pattern"]) (qual := "need_pattern") (scope := defScope s_need_pattern) (f := T.a 7) (cd := cdv) (A := A) (outer := outer) (s := s) (H := H) (E := E)
    show DSs _ T.ca _ _ (m_need_pattern (fns k))
    exact (dss_cons hW (ds_expr (de_call O.o1 hr tk T.g1 T.F1.kp T.b1 (da_cons (de_var 0) da_nil)))
  (dss_cons hW (ds_if (dt_not (dt_val (de_call O.o4 hr tk T.g4 T.F4.kp T.b4 (da_cons (de_var 0) (da_cons (de_var 1) da_nil)))))
  (dss_one (ds_raise (c := 2) T.x2 rfl tk))
  dss_nil)
  (dss_one (ds_if (dt_cmp op_gt imp_gt (de_call O.o6 hr tk T.g6 T.F6.kp T.b6 (da_cons (de_var 1) da_nil)) (de_globD rfl T.k_MOST_NODES))
  (dss_one (ds_raise (c := 3) T.x3 rfl tk))
  dss_nil)))))
theorem ok_fits {k : Nat} (T : Tx K mg) (O : Ok P w K mg base T k) : FnOk P w K mg base (L2N.CX P w) (k + 2) (T.a 8) (T.fd 8) ["letters", "pattern", "text"] (spOf K T.ca 3 (fns (k + 1) 8)) := by
  show FnOk P w K mg base (L2N.CX P w) (k + 2) (T.a 8) (T.fd 8) ["letters", "pattern", "text"] (spOf K T.ca 3 (b_fits (fns k)))
  exact fn_ok (N := ["letters", "pattern", "text", "sign"]) 4 3 (m_fits (fns k)) rfl rfl T.F8 sc_fits (fun X E ⟨cdv, A, outer, s, H, hX⟩ hr => by
    subst hX
    have nd := sc_fits.nd
    have hu := hu200 hr
    have hW := wid_fn (E := E)
    have tk := tk_fn (P := P) (w := w) (K := K) (mg := mg) (base := base) (N := ["letters", "pattern", "text", "sign"]) (qual := "fits") (scope := defScope s_fits) (f := T.a 8) (cd := cdv) (A := A) (outer := outer) (s := s) (H := H) (E := E)
    have hp := hp_fn (P := P) (w := w) (K := K) (mg := mg) (base := base) (N := ["letters", "pattern", "text", "sign"]) (qual := "fits") (scope := defScope s_fits) (f := T.a 8) (cd := cdv) (A := A) (outer := outer) (s := s) (H := H) (E := E)
    show DSs _ T.ca _ _ (m_fits (fns k))
    exact (dss_cons hW (ds_expr (de_call O.o7 hr tk T.g7 T.F7.kp T.b7 (da_cons (de_var 0) (da_cons (de_var 1) da_nil))))
  dss_never))
theorem ok_machine_of {k : Nat} (T : Tx K mg) (O : Ok P w K mg base T k) : FnOk P w K mg base (L2N.CX P w) (k + 2) (T.a 9) (T.fd 9) ["letters", "pattern"] (spOf K T.ca 2 (fns (k + 1) 9)) := by
  show FnOk P w K mg base (L2N.CX P w) (k + 2) (T.a 9) (T.fd 9) ["letters", "pattern"] (spOf K T.ca 2 (b_machine_of (fns k)))
  exact fn_ok (N := ["letters", "pattern", "ends", "row", "steps", "one"]) 6 2 (m_machine_of (fns k)) rfl rfl T.F9 sc_machine_of (fun X E ⟨cdv, A, outer, s, H, hX⟩ hr => by
    subst hX
    have nd := sc_machine_of.nd
    have hu := hu200 hr
    have hW := wid_fn (E := E)
    have tk := tk_fn (P := P) (w := w) (K := K) (mg := mg) (base := base) (N := ["letters", "pattern", "ends", "row", "steps", "one"]) (qual := "machine_of") (scope := defScope s_machine_of) (f := T.a 9) (cd := cdv) (A := A) (outer := outer) (s := s) (H := H) (E := E)
    have hp := hp_fn (P := P) (w := w) (K := K) (mg := mg) (base := base) (N := ["letters", "pattern", "ends", "row", "steps", "one"]) (qual := "machine_of") (scope := defScope s_machine_of) (f := T.a 9) (cd := cdv) (A := A) (outer := outer) (s := s) (H := H) (E := E)
    show DSs _ T.ca _ _ (m_machine_of (fns k))
    exact (dss_cons hW (ds_expr (de_call O.o7 hr tk T.g7 T.F7.kp T.b7 (da_cons (de_var 0) (da_cons (de_var 1) da_nil))))
  dss_never))
theorem ok_told_alike {k : Nat} (T : Tx K mg) (O : Ok P w K mg base T k) : FnOk P w K mg base (L2N.CX P w) (k + 2) (T.a 10) (T.fd 10) ["letters", "one", "other"] (spOf K T.ca 3 (fns (k + 1) 10)) := by
  show FnOk P w K mg base (L2N.CX P w) (k + 2) (T.a 10) (T.fd 10) ["letters", "one", "other"] (spOf K T.ca 3 (b_told_alike (fns k)))
  exact fn_ok (N := ["letters", "one", "other", "ways", "row", "at", "here", "sign", "pair"]) 9 3 (m_told_alike (fns k)) rfl rfl T.F10 sc_told_alike (fun X E ⟨cdv, A, outer, s, H, hX⟩ hr => by
    subst hX
    have nd := sc_told_alike.nd
    have hu := hu200 hr
    have hW := wid_fn (E := E)
    have tk := tk_fn (P := P) (w := w) (K := K) (mg := mg) (base := base) (N := ["letters", "one", "other", "ways", "row", "at", "here", "sign", "pair"]) (qual := "told_alike") (scope := defScope s_told_alike) (f := T.a 10) (cd := cdv) (A := A) (outer := outer) (s := s) (H := H) (E := E)
    have hp := hp_fn (P := P) (w := w) (K := K) (mg := mg) (base := base) (N := ["letters", "one", "other", "ways", "row", "at", "here", "sign", "pair"]) (qual := "told_alike") (scope := defScope s_told_alike) (f := T.a 10) (cd := cdv) (A := A) (outer := outer) (s := s) (H := H) (E := E)
    show DSs _ T.ca _ _ (m_told_alike (fns k))
    exact (dss_cons hW (ds_expr (de_call O.o7 hr tk T.g7 T.F7.kp T.b7 (da_cons (de_var 0) (da_cons (de_var 1) da_nil))))
  (dss_cons hW (ds_expr (de_call O.o7 hr tk T.g7 T.F7.kp T.b7 (da_cons (de_var 0) (da_cons (de_var 2) da_nil))))
  dss_never)))
theorem ok_read {k : Nat} (T : Tx K mg) (O : Ok P w K mg base T k) : FnOk P w K mg base (L2N.CX P w) (k + 2) (T.a 11) (T.fd 11) ["letters", "text"] (spOf K T.ca 2 (fns (k + 1) 11)) := by
  show FnOk P w K mg base (L2N.CX P w) (k + 2) (T.a 11) (T.fd 11) ["letters", "text"] (spOf K T.ca 2 (b_read (fns k)))
  exact fn_ok (N := ["letters", "text", "found"]) 3 2 (m_read (fns k)) rfl rfl T.F11 sc_read (fun X E ⟨cdv, A, outer, s, H, hX⟩ hr => by
    subst hX
    have nd := sc_read.nd
    have hu := hu200 hr
    have hW := wid_fn (E := E)
    have tk := tk_fn (P := P) (w := w) (K := K) (mg := mg) (base := base) (N := ["letters", "text", "found"]) (qual := "read") (scope := defScope s_read) (f := T.a 11) (cd := cdv) (A := A) (outer := outer) (s := s) (H := H) (E := E)
    have hp := hp_fn (P := P) (w := w) (K := K) (mg := mg) (base := base) (N := ["letters", "text", "found"]) (qual := "read") (scope := defScope s_read) (f := T.a 11) (cd := cdv) (A := A) (outer := outer) (s := s) (H := H) (E := E)
    show DSs _ T.ca _ _ (m_read (fns k))
    exact (dss_cons hW (ds_expr (de_call O.o1 hr tk T.g1 T.F1.kp T.b1 (da_cons (de_var 0) da_nil)))
  dss_never))
theorem ok__law_cell_at {k : Nat} (T : Tx K mg) (O : Ok P w K mg base T k) : FnOk P w K mg base (L2N.CX P w) (k + 2) (T.a 12) (T.fd 12) ["_law_script", "_law_k"] (spOf K T.ca 2 (fns (k + 1) 12)) := by
  show FnOk P w K mg base (L2N.CX P w) (k + 2) (T.a 12) (T.fd 12) ["_law_script", "_law_k"] (spOf K T.ca 2 (b__law_cell_at (fns k)))
  exact fn_ok (N := ["_law_script", "_law_k"]) 2 2 (m__law_cell_at (fns k)) rfl rfl T.F12 sc__law_cell_at (fun X E ⟨cdv, A, outer, s, H, hX⟩ hr => by
    subst hX
    have nd := sc__law_cell_at.nd
    have hu := hu200 hr
    have hW := wid_fn (E := E)
    have tk := tk_fn (P := P) (w := w) (K := K) (mg := mg) (base := base) (N := ["_law_script", "_law_k"]) (qual := "_law_cell_at") (scope := defScope s__law_cell_at) (f := T.a 12) (cd := cdv) (A := A) (outer := outer) (s := s) (H := H) (E := E)
    have hp := hp_fn (P := P) (w := w) (K := K) (mg := mg) (base := base) (N := ["_law_script", "_law_k"]) (qual := "_law_cell_at") (scope := defScope s__law_cell_at) (f := T.a 12) (cd := cdv) (A := A) (outer := outer) (s := s) (H := H) (E := E)
    show DSs _ T.ca _ _ (m__law_cell_at (fns k))
    exact (dss_cons hW (ds_if (dt_cmp op_lt imp_lt (de_var 1) (de_callB call_len imp_len rfl T.n_len PySem.boot_len (da_cons (de_var 0) da_nil)))
  (dss_one (ds_ret (de_ix (de_var 0) (de_var 1))))
  dss_nil)
  (dss_one (ds_ret de_int))))
theorem ok__law_letters {k : Nat} (T : Tx K mg) (O : Ok P w K mg base T k) : FnOk P w K mg base (L2N.CX P w) (k + 2) (T.a 13) (T.fd 13) ["_law_cell"] (spOf K T.ca 1 (fns (k + 1) 13)) := by
  show FnOk P w K mg base (L2N.CX P w) (k + 2) (T.a 13) (T.fd 13) ["_law_cell"] (spOf K T.ca 1 (b__law_letters (fns k)))
  exact fn_ok (N := ["_law_cell", "_law_some", "_law_k"]) 3 1 (m__law_letters (fns k)) rfl rfl T.F13 sc__law_letters (fun X E ⟨cdv, A, outer, s, H, hX⟩ hr => by
    subst hX
    have nd := sc__law_letters.nd
    have hu := hu200 hr
    have hW := wid_fn (E := E)
    have tk := tk_fn (P := P) (w := w) (K := K) (mg := mg) (base := base) (N := ["_law_cell", "_law_some", "_law_k"]) (qual := "_law_letters") (scope := defScope s__law_letters) (f := T.a 13) (cd := cdv) (A := A) (outer := outer) (s := s) (H := H) (E := E)
    have hp := hp_fn (P := P) (w := w) (K := K) (mg := mg) (base := base) (N := ["_law_cell", "_law_some", "_law_k"]) (qual := "_law_letters") (scope := defScope s__law_letters) (f := T.a 13) (cd := cdv) (A := A) (outer := outer) (s := s) (H := H) (E := E)
    show DSs _ T.ca _ _ (m__law_letters (fns k))
    exact (dss_cons hW (ds_set 1 nd de_str)
  (dss_one (ds_ret (de_join de_str (de_lc rfl nd (t := (.one 2)) (own := [("_law_k", 2)]) (di_range1 T.n_range (da_cons (de_bin op_addA imp_add de_int (de_bin op_mod imp_mod (de_var 0) de_int)) da_nil)) (blkOk_by (N := ["_law_cell", "_law_some", "_law_k"]) (sc := defScope s__law_letters) (by decide +kernel)) List.mem_cons_self (fun _ _ _ _ _ => tg_one 2 nd) (fun _ _ _ _ _ => dts_nil) (fun _ _ _ _ _ => (de_ix (de_var 1) (de_bin op_mod imp_mod (de_bin op_addA imp_add (de_bin op_fdiv imp_fdiv (de_var 0) de_int) (de_bin op_mulA imp_mul (de_var 2) (de_bin op_addA imp_add de_int (de_bin op_mod imp_mod (de_bin op_fdiv imp_fdiv (de_var 0) de_int) de_int)))) de_int)))))))))
theorem ok__law_size {k : Nat} (T : Tx K mg) (O : Ok P w K mg base T k) : FnOk P w K mg base (L2N.CX P w) (k + 2) (T.a 14) (T.fd 14) ["_law_pattern"] (spOf K T.ca 1 (fns (k + 1) 14)) := by
  show FnOk P w K mg base (L2N.CX P w) (k + 2) (T.a 14) (T.fd 14) ["_law_pattern"] (spOf K T.ca 1 (b__law_size (fns k)))
  exact fn_ok (N := ["_law_pattern", "_law_part"]) 2 1 (m__law_size (fns k)) rfl rfl T.F14 sc__law_size (fun X E ⟨cdv, A, outer, s, H, hX⟩ hr => by
    subst hX
    have nd := sc__law_size.nd
    have hu := hu200 hr
    have hW := wid_fn (E := E)
    have tk := tk_fn (P := P) (w := w) (K := K) (mg := mg) (base := base) (N := ["_law_pattern", "_law_part"]) (qual := "_law_size") (scope := defScope s__law_size) (f := T.a 14) (cd := cdv) (A := A) (outer := outer) (s := s) (H := H) (E := E)
    have hp := hp_fn (P := P) (w := w) (K := K) (mg := mg) (base := base) (N := ["_law_pattern", "_law_part"]) (qual := "_law_size") (scope := defScope s__law_size) (f := T.a 14) (cd := cdv) (A := A) (outer := outer) (s := s) (H := H) (E := E)
    show DSs _ T.ca _ _ (m__law_size (fns k))
    exact (dss_cons hW (ds_if (dt_cmp (op_inA hu) (imp_in false) (de_ix (de_var 0) de_int) (de_tup (da_cons de_str (da_cons de_str (da_cons de_str da_nil)))))
  (dss_one (ds_ret (de_bin op_addA imp_add de_int (de_callB (cr_sum rfl) imp_sum rfl T.n_sum boot_sum (da_cons (de_lc rfl nd (t := (.one 1)) (own := [("_law_part", 1)]) (di_any (de_ix (de_var 0) de_int)) (blkOk_by (N := ["_law_pattern", "_law_part"]) (sc := defScope s__law_size) (by decide +kernel)) List.mem_cons_self (fun _ _ _ _ _ => tg_one 1 nd) (fun _ _ _ _ _ => dts_nil) (fun _ _ _ _ _ => (de_call O.o14 hr takes0N T.g14 T.F14.kp T.b14 (da_cons (de_var 1) da_nil)))) da_nil)))))
  dss_nil)
  (dss_cons hW (ds_if (dt_cmp (op_inA hu) (imp_in false) (de_ix (de_var 0) de_int) (de_tup (da_cons de_str (da_cons de_str da_nil))))
  (dss_one (ds_ret (de_bin op_addA imp_add de_int (de_call O.o14 hr tk T.g14 T.F14.kp T.b14 (da_cons (de_ix (de_var 0) de_int) da_nil)))))
  dss_nil)
  (dss_one (ds_ret de_int)))))
theorem ok__law_step {k : Nat} (T : Tx K mg) (O : Ok P w K mg base T k) : FnOk P w K mg base (L2N.CX P w) (k + 2) (T.a 15) (T.fd 15) ["_law_letters_here", "_law_stack", "_law_cell"] (spOf K T.ca 3 (fns (k + 1) 15)) := by
  show FnOk P w K mg base (L2N.CX P w) (k + 2) (T.a 15) (T.fd 15) ["_law_letters_here", "_law_stack", "_law_cell"] (spOf K T.ca 3 (b__law_step (fns k)))
  exact fn_ok (N := ["_law_letters_here", "_law_stack", "_law_cell", "_law_rest", "_law_kind_here", "_law_many"]) 6 3 (m__law_step (fns k)) rfl rfl T.F15 sc__law_step (fun X E ⟨cdv, A, outer, s, H, hX⟩ hr => by
    subst hX
    have nd := sc__law_step.nd
    have hu := hu200 hr
    have hW := wid_fn (E := E)
    have tk := tk_fn (P := P) (w := w) (K := K) (mg := mg) (base := base) (N := ["_law_letters_here", "_law_stack", "_law_cell", "_law_rest", "_law_kind_here", "_law_many"]) (qual := "_law_step") (scope := defScope s__law_step) (f := T.a 15) (cd := cdv) (A := A) (outer := outer) (s := s) (H := H) (E := E)
    have hp := hp_fn (P := P) (w := w) (K := K) (mg := mg) (base := base) (N := ["_law_letters_here", "_law_stack", "_law_cell", "_law_rest", "_law_kind_here", "_law_many"]) (qual := "_law_step") (scope := defScope s__law_step) (f := T.a 15) (cd := cdv) (A := A) (outer := outer) (s := s) (H := H) (E := E)
    show DSs _ T.ca _ _ (m__law_step (fns k))
    exact (dss_cons hW (ds_set 3 nd (de_bin op_fdiv imp_fdiv (de_var 2) de_int))
  (dss_cons hW (ds_set 4 nd (de_bin op_mod imp_mod (de_var 2) de_int))
  (dss_cons hW (ds_if (dt_w (dw_and (dt_cmp op_gt imp_gt (de_var 4) de_int) (dw_and (dt_cmp op_lt imp_lt (de_var 4) de_int) (dw_and1 (dt_cmp op_gt imp_gt (de_callB call_len imp_len rfl T.n_len PySem.boot_len (da_cons (de_var 1) da_nil)) de_int)))))
  (dss_cons hW (ds_set 5 nd (de_callB (call_min2 rfl) imp_min rfl T.n_min B.min (da_cons (de_callB call_len imp_len rfl T.n_len PySem.boot_len (da_cons (de_var 1) da_nil)) (da_cons (de_bin op_addA imp_add de_int (de_bin op_mod imp_mod (de_var 3) de_int)) da_nil))))
  (dss_one (ds_ret (de_bin op_addA imp_add (de_cut (de_var 1) do_none (do_some (de_bin op_sub imp_sub (de_callB call_len imp_len rfl T.n_len PySem.boot_len (da_cons (de_var 1) da_nil)) (de_var 5)))) (de_lst (da_cons (de_tup (da_cons (de_ix (de_lst (da_cons de_str (da_cons de_str (da_cons de_str da_nil)))) (de_bin op_sub imp_sub (de_var 4) de_int)) (da_cons (de_callTy call_tuple_of imp_tuple rfl T.n_tuple B.tuple (da_cons (de_cut (de_var 1) (do_some (de_bin op_sub imp_sub (de_callB call_len imp_len rfl T.n_len PySem.boot_len (da_cons (de_var 1) da_nil)) (de_var 5))) do_none) da_nil)) da_nil))) da_nil))))))
  dss_nil)
  (dss_cons hW (ds_if (dt_w (dw_and (dt_cmp op_gt imp_gt (de_var 4) de_int) (dw_and1 (dt_cmp (op_neP hu) (imp_eqP true) (de_var 1) (de_lst da_nil)))))
  (dss_one (ds_ret (de_bin op_addA imp_add (de_cut (de_var 1) do_none (do_some (de_neg de_int))) (de_lst (da_cons (de_tup (da_cons (de_ix (de_lst (da_cons de_str (da_cons de_str (da_cons de_str da_nil)))) (de_bin op_sub imp_sub (de_var 4) de_int)) (da_cons (de_ix (de_var 1) (de_neg de_int)) da_nil))) da_nil)))))
  dss_nil)
  (dss_cons hW (ds_if (dt_cmp (op_eqP hu) (imp_eqP false) (de_var 4) de_int)
  (dss_one (ds_ret (de_bin op_addA imp_add (de_var 1) (de_lst (da_cons (de_ix (de_lst (da_cons (de_tup (da_cons de_str da_nil)) (da_cons (de_tup (da_cons de_str da_nil)) (da_cons (de_tup (da_cons de_str da_nil)) da_nil)))) (de_bin op_mod imp_mod (de_var 3) de_int)) da_nil)))))
  dss_nil)
  (dss_one (ds_ret (de_bin op_addA imp_add (de_var 1) (de_lst (da_cons (de_tup (da_cons de_str (da_cons (de_ix (de_var 0) (de_bin op_mod imp_mod (de_var 3) (de_callB call_len imp_len rfl T.n_len PySem.boot_len (da_cons (de_var 0) da_nil)))) da_nil))) da_nil)))))))))))
theorem ok__law_drawn {k : Nat} (T : Tx K mg) (O : Ok P w K mg base T k) : FnOk P w K mg base (L2N.CX P w) (k + 2) (T.a 16) (T.fd 16) ["_law_letters_here", "_law_cells", "_law_most"] (spOf K T.ca 3 (fns (k + 1) 16)) := by
  show FnOk P w K mg base (L2N.CX P w) (k + 2) (T.a 16) (T.fd 16) ["_law_letters_here", "_law_cells", "_law_most"] (spOf K T.ca 3 (b__law_drawn (fns k)))
  exact fn_ok (N := ["_law_letters_here", "_law_cells", "_law_most", "_law_stack", "_law_cell", "_law_later", "_law_one"]) 7 3 (m__law_drawn (fns k)) rfl rfl T.F16 sc__law_drawn (fun X E ⟨cdv, A, outer, s, H, hX⟩ hr => by
    subst hX
    have nd := sc__law_drawn.nd
    have hu := hu200 hr
    have hW := wid_fn (E := E)
    have tk := tk_fn (P := P) (w := w) (K := K) (mg := mg) (base := base) (N := ["_law_letters_here", "_law_cells", "_law_most", "_law_stack", "_law_cell", "_law_later", "_law_one"]) (qual := "_law_drawn") (scope := defScope s__law_drawn) (f := T.a 16) (cd := cdv) (A := A) (outer := outer) (s := s) (H := H) (E := E)
    have hp := hp_fn (P := P) (w := w) (K := K) (mg := mg) (base := base) (N := ["_law_letters_here", "_law_cells", "_law_most", "_law_stack", "_law_cell", "_law_later", "_law_one"]) (qual := "_law_drawn") (scope := defScope s__law_drawn) (f := T.a 16) (cd := cdv) (A := A) (outer := outer) (s := s) (H := H) (E := E)
    show DSs _ T.ca _ _ (m__law_drawn (fns k))
    exact (dss_cons hW (ds_set 3 nd (de_lst da_nil))
  (dss_cons hW (ds_for hW hp rfl (di_any (de_var 1)) (dg_name 4 nd)
  (dss_cons hW (ds_set 5 nd (de_call O.o15 hr tk T.g15 T.F15.kp T.b15 (da_cons (de_var 0) (da_cons (de_var 3) (da_cons (de_var 4) da_nil)))))
  (dss_one (ds_if (dt_cmp op_lt imp_lt (de_callB (cr_sum rfl) imp_sum rfl T.n_sum boot_sum (da_cons (de_lc rfl nd (t := (.one 6)) (own := [("_law_one", 6)]) (di_any (de_var 5)) (blkOk_by (N := ["_law_letters_here", "_law_cells", "_law_most", "_law_stack", "_law_cell", "_law_later", "_law_one"]) (sc := defScope s__law_drawn) (by decide +kernel)) List.mem_cons_self (fun _ _ _ _ _ => tg_one 6 nd) (fun _ _ _ _ _ => dts_nil) (fun _ _ _ _ _ => (de_call O.o14 hr takes0N T.g14 T.F14.kp T.b14 (da_cons (de_var 6) da_nil)))) da_nil)) (de_var 2))
  (dss_one (ds_set 3 nd (de_var 5)))
  dss_nil))))
  (dss_cons hW (ds_if (dt_cmp (op_eqP hu) (imp_eqP false) (de_var 3) (de_lst da_nil))
  (dss_one (ds_ret (de_tup (da_cons de_str da_nil))))
  dss_nil)
  (dss_cons hW (ds_if (dt_cmp (op_eqP hu) (imp_eqP false) (de_callB call_len imp_len rfl T.n_len PySem.boot_len (da_cons (de_var 3) da_nil)) de_int)
  (dss_one (ds_ret (de_ix (de_var 3) de_int)))
  dss_nil)
  (dss_one (ds_ret (de_tup (da_cons (de_ix (de_lst (da_cons de_str (da_cons de_str (da_cons de_str da_nil)))) (de_bin op_mod imp_mod (de_callB call_len imp_len rfl T.n_len PySem.boot_len (da_cons (de_var 1) da_nil)) de_int)) (da_cons (de_callTy call_tuple_of imp_tuple rfl T.n_tuple B.tuple (da_cons (de_var 3) da_nil)) da_nil))))))))))
theorem ok__law_no_letters {k : Nat} (T : Tx K mg) (O : Ok P w K mg base T k) : FnOk P w K mg base (L2N.CX P w) (k + 2) (T.a 17) (T.fd 17) ["_law_cell"] (spOf K T.ca 1 (fns (k + 1) 17)) := by
  show FnOk P w K mg base (L2N.CX P w) (k + 2) (T.a 17) (T.fd 17) ["_law_cell"] (spOf K T.ca 1 (b__law_no_letters (fns k)))
  exact fn_ok (N := ["_law_cell", "_law_some"]) 2 1 (m__law_no_letters (fns k)) rfl rfl T.F17 sc__law_no_letters (fun X E ⟨cdv, A, outer, s, H, hX⟩ hr => by
    subst hX
    have nd := sc__law_no_letters.nd
    have hu := hu200 hr
    have hW := wid_fn (E := E)
    have tk := tk_fn (P := P) (w := w) (K := K) (mg := mg) (base := base) (N := ["_law_cell", "_law_some"]) (qual := "_law_no_letters") (scope := defScope s__law_no_letters) (f := T.a 17) (cd := cdv) (A := A) (outer := outer) (s := s) (H := H) (E := E)
    have hp := hp_fn (P := P) (w := w) (K := K) (mg := mg) (base := base) (N := ["_law_cell", "_law_some"]) (qual := "_law_no_letters") (scope := defScope s__law_no_letters) (f := T.a 17) (cd := cdv) (A := A) (outer := outer) (s := s) (H := H) (E := E)
    show DSs _ T.ca _ _ (m__law_no_letters (fns k))
    exact (dss_cons hW (ds_set 1 nd (de_lst (da_cons de_str (da_cons de_str (da_cons de_str (da_cons de_str (da_cons de_str (da_cons de_str (da_cons de_str (da_cons de_non (da_cons de_int (da_cons (de_lst (da_cons de_str da_nil)) (da_cons (de_tup (da_cons de_str da_nil)) (da_cons de_bl (da_cons de_dct1 (da_cons de_str da_nil))))))))))))))))
  (dss_one (ds_ret (de_ix (de_var 1) (de_bin op_mod imp_mod (de_var 0) de_int))))))
theorem ok__law_stranger {k : Nat} (T : Tx K mg) (O : Ok P w K mg base T k) : FnOk P w K mg base (L2N.CX P w) (k + 2) (T.a 18) (T.fd 18) ["_law_letters_here", "_law_cell"] (spOf K T.ca 2 (fns (k + 1) 18)) := by
  show FnOk P w K mg base (L2N.CX P w) (k + 2) (T.a 18) (T.fd 18) ["_law_letters_here", "_law_cell"] (spOf K T.ca 2 (b__law_stranger (fns k)))
  exact fn_ok (N := ["_law_letters_here", "_law_cell", "_law_others", "_law_sign"]) 4 2 (m__law_stranger (fns k)) rfl rfl T.F18 sc__law_stranger (fun X E ⟨cdv, A, outer, s, H, hX⟩ hr => by
    subst hX
    have nd := sc__law_stranger.nd
    have hu := hu200 hr
    have hW := wid_fn (E := E)
    have tk := tk_fn (P := P) (w := w) (K := K) (mg := mg) (base := base) (N := ["_law_letters_here", "_law_cell", "_law_others", "_law_sign"]) (qual := "_law_stranger") (scope := defScope s__law_stranger) (f := T.a 18) (cd := cdv) (A := A) (outer := outer) (s := s) (H := H) (E := E)
    have hp := hp_fn (P := P) (w := w) (K := K) (mg := mg) (base := base) (N := ["_law_letters_here", "_law_cell", "_law_others", "_law_sign"]) (qual := "_law_stranger") (scope := defScope s__law_stranger) (f := T.a 18) (cd := cdv) (A := A) (outer := outer) (s := s) (H := H) (E := E)
    show DSs _ T.ca _ _ (m__law_stranger (fns k))
    exact (dss_cons hW (ds_setLc 2 rfl nd (t := (.one 3)) (own := [("_law_sign", 3)]) (di_any de_str) (blkOk_by (N := ["_law_letters_here", "_law_cell", "_law_others", "_law_sign"]) (sc := defScope s__law_stranger) (by decide +kernel)) List.mem_cons_self (fun _ _ _ _ _ => tg_one 3 nd) (fun _ _ _ _ _ => dts_one (dt_cmp (op_notInA hu) (imp_in true) (de_var 3) (de_var 0))) (fun _ _ _ _ _ => (de_var 3)))
  (dss_one (ds_ret (de_ix (de_var 2) (de_bin op_mod imp_mod (de_var 1) (de_callB call_len imp_len rfl T.n_len PySem.boot_len (da_cons (de_var 2) da_nil))))))))
theorem ok__law_no_pattern {k : Nat} (T : Tx K mg) (O : Ok P w K mg base T k) : FnOk P w K mg base (L2N.CX P w) (k + 2) (T.a 19) (T.fd 19) ["_law_letters_here", "_law_pattern", "_law_cell"] (spOf K T.ca 3 (fns (k + 1) 19)) := by
  show FnOk P w K mg base (L2N.CX P w) (k + 2) (T.a 19) (T.fd 19) ["_law_letters_here", "_law_pattern", "_law_cell"] (spOf K T.ca 3 (b__law_no_pattern (fns k)))
  exact fn_ok (N := ["_law_letters_here", "_law_pattern", "_law_cell", "_law_rest", "_law_some"]) 5 3 (m__law_no_pattern (fns k)) rfl rfl T.F19 sc__law_no_pattern (fun X E ⟨cdv, A, outer, s, H, hX⟩ hr => by
    subst hX
    have nd := sc__law_no_pattern.nd
    have hu := hu200 hr
    have hW := wid_fn (E := E)
    have tk := tk_fn (P := P) (w := w) (K := K) (mg := mg) (base := base) (N := ["_law_letters_here", "_law_pattern", "_law_cell", "_law_rest", "_law_some"]) (qual := "_law_no_pattern") (scope := defScope s__law_no_pattern) (f := T.a 19) (cd := cdv) (A := A) (outer := outer) (s := s) (H := H) (E := E)
    have hp := hp_fn (P := P) (w := w) (K := K) (mg := mg) (base := base) (N := ["_law_letters_here", "_law_pattern", "_law_cell", "_law_rest", "_law_some"]) (qual := "_law_no_pattern") (scope := defScope s__law_no_pattern) (f := T.a 19) (cd := cdv) (A := A) (outer := outer) (s := s) (H := H) (E := E)
    show DSs _ T.ca _ _ (m__law_no_pattern (fns k))
    exact (dss_cons hW (ds_set 3 nd (de_bin op_fdiv imp_fdiv (de_var 2) de_int))
  (dss_cons hW (ds_set 4 nd (de_lst (da_cons (de_tup (da_cons de_str (da_cons de_int da_nil))) (da_cons (de_tup da_nil) (da_cons (de_tup (da_cons de_str da_nil)) (da_cons (de_tup (da_cons de_str (da_cons de_str da_nil))) (da_cons (de_tup (da_cons de_str (da_cons (de_call O.o18 hr tk T.g18 T.F18.kp T.b18 (da_cons (de_var 0) (da_cons (de_var 3) da_nil))) da_nil))) (da_cons (de_tup (da_cons de_str (da_cons de_str da_nil))) da_nil))))))))
  (dss_cons hW (ds_set 4 nd (de_bin op_addA imp_add (de_var 4) (de_lst (da_cons (de_tup (da_cons de_str (da_cons (de_bin op_addA imp_add (de_var 0) (de_var 0)) da_nil))) (da_cons (de_tup (da_cons de_str (da_cons (de_tup (da_cons (de_var 1) da_nil)) da_nil))) (da_cons (de_tup (da_cons de_str (da_cons (de_lst (da_cons (de_var 1) (da_cons (de_var 1) da_nil))) da_nil))) (da_cons (de_tup (da_cons de_str (da_cons (de_tup da_nil) da_nil))) da_nil)))))))
  (dss_cons hW (ds_set 4 nd (de_bin op_addA imp_add (de_var 4) (de_lst (da_cons (de_tup (da_cons de_str (da_cons (de_var 1) da_nil))) (da_cons (de_tup (da_cons de_str da_nil)) (da_cons (de_tup (da_cons de_str (da_cons (de_var 1) (da_cons (de_var 1) da_nil)))) (da_cons (de_tup (da_cons de_str (da_cons de_non da_nil))) (da_cons (de_tup (da_cons de_str (da_cons (de_var 1) da_nil))) da_nil))))))))
  (dss_cons hW (ds_set 4 nd (de_bin op_addA imp_add (de_var 4) (de_lst (da_cons de_str (da_cons de_non (da_cons (de_lst (da_cons de_str da_nil)) (da_cons de_int (da_cons (de_tup (da_cons de_str (da_cons (de_tup (da_cons (de_var 1) (da_cons de_non da_nil))) da_nil))) (da_cons (de_tup (da_cons de_str (da_cons (de_tup da_nil) da_nil))) (da_cons (de_tup (da_cons de_str (da_cons (de_var 1) (da_cons (de_var 1) da_nil)))) da_nil))))))))))
  (dss_cons hW (ds_set 4 nd (de_bin op_addA imp_add (de_var 4) (de_lst (da_cons (de_tup (da_cons de_str (da_cons de_int da_nil))) (da_cons (de_tup (da_cons de_str (da_cons de_non da_nil))) (da_cons (de_tup (da_cons de_str (da_cons (de_lst (da_cons (de_ix (de_var 0) de_int) da_nil)) da_nil))) (da_cons (de_tup (da_cons (de_lst (da_cons de_str da_nil)) (da_cons (de_ix (de_var 0) de_int) da_nil))) (da_cons (de_tup (da_cons de_dct0 (da_cons (de_ix (de_var 0) de_int) da_nil))) da_nil))))))))
  (dss_one (ds_ret (de_ix (de_var 4) (de_bin op_mod imp_mod (de_var 2) de_int)))))))))))
theorem ok__law_about {k : Nat} (T : Tx K mg) (O : Ok P w K mg base T k) : FnOk P w K mg base (L2N.CX P w) (k + 2) (T.a 20) (T.fd 20) ["_law_pattern", "_law_wrong", "_law_cell"] (spOf K T.ca 3 (fns (k + 1) 20)) := by
  show FnOk P w K mg base (L2N.CX P w) (k + 2) (T.a 20) (T.fd 20) ["_law_pattern", "_law_wrong", "_law_cell"] (spOf K T.ca 3 (b__law_about (fns k)))
  exact fn_ok (N := ["_law_pattern", "_law_wrong", "_law_cell", "_law_word"]) 4 3 (m__law_about (fns k)) rfl rfl T.F20 sc__law_about (fun X E ⟨cdv, A, outer, s, H, hX⟩ hr => by
    subst hX
    have nd := sc__law_about.nd
    have hu := hu200 hr
    have hW := wid_fn (E := E)
    have tk := tk_fn (P := P) (w := w) (K := K) (mg := mg) (base := base) (N := ["_law_pattern", "_law_wrong", "_law_cell", "_law_word"]) (qual := "_law_about") (scope := defScope s__law_about) (f := T.a 20) (cd := cdv) (A := A) (outer := outer) (s := s) (H := H) (E := E)
    have hp := hp_fn (P := P) (w := w) (K := K) (mg := mg) (base := base) (N := ["_law_pattern", "_law_wrong", "_law_cell", "_law_word"]) (qual := "_law_about") (scope := defScope s__law_about) (f := T.a 20) (cd := cdv) (A := A) (outer := outer) (s := s) (H := H) (E := E)
    show DSs _ T.ca _ _ (m__law_about (fns k))
    exact (dss_cons hW (ds_if (dt_cmp op_gt imp_gt (de_bin op_mod imp_mod (de_var 2) de_int) de_int)
  (dss_one (ds_ret (de_var 1)))
  dss_nil)
  (dss_cons hW (ds_set 3 nd (de_ix (de_lst (da_cons de_str (da_cons de_str (da_cons de_str da_nil)))) (de_bin op_mod imp_mod (de_var 2) de_int)))
  (dss_cons hW (ds_if (dt_cmp (op_eqP hu) (imp_eqP false) (de_bin op_mod imp_mod (de_bin op_fdiv imp_fdiv (de_var 2) de_int) de_int) de_int)
  (dss_one (ds_ret (de_tup (da_cons (de_var 3) (da_cons (de_tup (da_cons (de_var 0) (da_cons (de_var 0) (da_cons (de_var 1) da_nil)))) da_nil)))))
  dss_nil)
  (dss_one (ds_ret (de_tup (da_cons (de_var 3) (da_cons (de_tup (da_cons (de_var 1) (da_cons (de_var 0) da_nil))) da_nil)))))))))
theorem ok__law_asked {k : Nat} (T : Tx K mg) (O : Ok P w K mg base T k) : FnOk P w K mg base (L2N.CX P w) (k + 2) (T.a 21) (T.fd 21) ["_law_way", "_law_letters_here", "_law_thing"] (spOf K T.ca 3 (fns (k + 1) 21)) := by
  show FnOk P w K mg base (L2N.CX P w) (k + 2) (T.a 21) (T.fd 21) ["_law_way", "_law_letters_here", "_law_thing"] (spOf K T.ca 3 (b__law_asked (fns k)))
  exact fn_ok (N := ["_law_way", "_law_letters_here", "_law_thing"]) 3 3 (m__law_asked (fns k)) rfl rfl T.F21 sc__law_asked (fun X E ⟨cdv, A, outer, s, H, hX⟩ hr => by
    subst hX
    have nd := sc__law_asked.nd
    have hu := hu200 hr
    have hW := wid_fn (E := E)
    have tk := tk_fn (P := P) (w := w) (K := K) (mg := mg) (base := base) (N := ["_law_way", "_law_letters_here", "_law_thing"]) (qual := "_law_asked") (scope := defScope s__law_asked) (f := T.a 21) (cd := cdv) (A := A) (outer := outer) (s := s) (H := H) (E := E)
    have hp := hp_fn (P := P) (w := w) (K := K) (mg := mg) (base := base) (N := ["_law_way", "_law_letters_here", "_law_thing"]) (qual := "_law_asked") (scope := defScope s__law_asked) (f := T.a 21) (cd := cdv) (A := A) (outer := outer) (s := s) (H := H) (E := E)
    show DSs _ T.ca _ _ (m__law_asked (fns k))
    exact (dss_cons hW (ds_if (dt_cmp (op_eqP hu) (imp_eqP false) (de_var 0) de_int)
  (dss_one (ds_ret (de_call O.o1 hr tk T.g1 T.F1.kp T.b1 (da_cons (de_var 1) da_nil))))
  dss_nil)
  (dss_cons hW (ds_if (dt_cmp (op_eqP hu) (imp_eqP false) (de_var 0) de_int)
  (dss_one (ds_ret (de_call O.o7 hr tk T.g7 T.F7.kp T.b7 (da_cons (de_var 1) (da_cons (de_var 2) da_nil)))))
  dss_nil)
  (dss_cons hW (ds_if (dt_cmp (op_eqP hu) (imp_eqP false) (de_var 0) de_int)
  (dss_one (ds_ret (de_call O.o8 hr tk T.g8 T.F8.kp T.b8 (da_cons (de_var 1) (da_cons (de_var 2) (da_cons de_non da_nil))))))
  dss_nil)
  (dss_cons hW (ds_if (dt_cmp (op_eqP hu) (imp_eqP false) (de_var 0) de_int)
  (dss_one (ds_ret (de_call O.o9 hr tk T.g9 T.F9.kp T.b9 (da_cons (de_var 1) (da_cons (de_var 2) da_nil)))))
  dss_nil)
  (dss_cons hW (ds_if (dt_cmp (op_eqP hu) (imp_eqP false) (de_var 0) de_int)
  (dss_one (ds_ret (de_call O.o10 hr tk T.g10 T.F10.kp T.b10 (da_cons (de_var 1) (da_cons (de_var 2) (da_cons de_non da_nil))))))
  dss_nil)
  (dss_one (ds_ret (de_call O.o10 hr tk T.g10 T.F10.kp T.b10 (da_cons (de_var 1) (da_cons (de_tup (da_cons de_str da_nil)) (da_cons (de_var 2) da_nil))))))))))))
theorem ok__law_told {k : Nat} (T : Tx K mg) (O : Ok P w K mg base T k) : FnOk P w K mg base (L2N.CX P w) (k + 2) (T.a 22) (T.fd 22) ["_law_way", "_law_letters_here", "_law_thing"] (spOf K T.ca 3 (fns (k + 1) 22)) := by
  show FnOk P w K mg base (L2N.CX P w) (k + 2) (T.a 22) (T.fd 22) ["_law_way", "_law_letters_here", "_law_thing"] (spOf K T.ca 3 (b__law_told (fns k)))
  exact fn_ok (N := ["_law_way", "_law_letters_here", "_law_thing", "_law_error"]) 4 3 (m__law_told (fns k)) rfl rfl T.F22 sc__law_told (fun X E ⟨cdv, A, outer, s, H, hX⟩ hr => by
    subst hX
    have nd := sc__law_told.nd
    have hu := hu200 hr
    have hW := wid_fn (E := E)
    have tk := tk_fn (P := P) (w := w) (K := K) (mg := mg) (base := base) (N := ["_law_way", "_law_letters_here", "_law_thing", "_law_error"]) (qual := "_law_told") (scope := defScope s__law_told) (f := T.a 22) (cd := cdv) (A := A) (outer := outer) (s := s) (H := H) (E := E)
    have hp := hp_fn (P := P) (w := w) (K := K) (mg := mg) (base := base) (N := ["_law_way", "_law_letters_here", "_law_thing", "_law_error"]) (qual := "_law_told") (scope := defScope s__law_told) (f := T.a 22) (cd := cdv) (A := A) (outer := outer) (s := s) (H := H) (E := E)
    show DSs _ T.ca _ _ (m__law_told (fns k))
    exact (dss_one (ds_try 3 nd rfl rfl T.x0.g hW tk T.xk (fun a oe c pn hz hv => suite_kind O.kd hr T.g_kind T.F_kind.kp T.b_kind hz hv) (fun W' pn xe hW tk hp => (dss_one (ds_ret (de_call O.o21 hr tk T.g21 T.F21.kp T.b21 (da_cons (de_var 0) (da_cons (de_var 1) (da_cons (de_var 2) da_nil))))))))))
theorem ok__law_read {k : Nat} (T : Tx K mg) (O : Ok P w K mg base T k) : FnOk P w K mg base (L2N.CX P w) (k + 2) (T.a 23) (T.fd 23) ["_law_letters_here", "_law_text"] (spOf K T.ca 2 (fns (k + 1) 23)) := by
  show FnOk P w K mg base (L2N.CX P w) (k + 2) (T.a 23) (T.fd 23) ["_law_letters_here", "_law_text"] (spOf K T.ca 2 (b__law_read (fns k)))
  exact fn_ok (N := ["_law_letters_here", "_law_text", "_law_error"]) 3 2 (m__law_read (fns k)) rfl rfl T.F23 sc__law_read (fun X E ⟨cdv, A, outer, s, H, hX⟩ hr => by
    subst hX
    have nd := sc__law_read.nd
    have hu := hu200 hr
    have hW := wid_fn (E := E)
    have tk := tk_fn (P := P) (w := w) (K := K) (mg := mg) (base := base) (N := ["_law_letters_here", "_law_text", "_law_error"]) (qual := "_law_read") (scope := defScope s__law_read) (f := T.a 23) (cd := cdv) (A := A) (outer := outer) (s := s) (H := H) (E := E)
    have hp := hp_fn (P := P) (w := w) (K := K) (mg := mg) (base := base) (N := ["_law_letters_here", "_law_text", "_law_error"]) (qual := "_law_read") (scope := defScope s__law_read) (f := T.a 23) (cd := cdv) (A := A) (outer := outer) (s := s) (H := H) (E := E)
    show DSs _ T.ca _ _ (m__law_read (fns k))
    exact (dss_one (ds_try 2 nd rfl rfl T.x0.g hW tk T.xk (fun a oe c pn hz hv => suite_kind O.kd hr T.g_kind T.F_kind.kp T.b_kind hz hv) (fun W' pn xe hW tk hp => (dss_one (ds_ret (de_call O.o11 hr tk T.g11 T.F11.kp T.b11 (da_cons (de_var 0) (da_cons (de_var 1) da_nil)))))))))
theorem ok__law_grown {k : Nat} (T : Tx K mg) (O : Ok P w K mg base T k) : FnOk P w K mg base (L2N.CX P w) (k + 2) (T.a 24) (T.fd 24) ["_law_pattern", "_law_cell"] (spOf K T.ca 2 (fns (k + 1) 24)) := by
  show FnOk P w K mg base (L2N.CX P w) (k + 2) (T.a 24) (T.fd 24) ["_law_pattern", "_law_cell"] (spOf K T.ca 2 (b__law_grown (fns k)))
  exact fn_ok (N := ["_law_pattern", "_law_cell", "_law_many", "_law_turn", "_law_often"]) 5 2 (m__law_grown (fns k)) rfl rfl T.F24 sc__law_grown (fun X E ⟨cdv, A, outer, s, H, hX⟩ hr => by
    subst hX
    have nd := sc__law_grown.nd
    have hu := hu200 hr
    have hW := wid_fn (E := E)
    have tk := tk_fn (P := P) (w := w) (K := K) (mg := mg) (base := base) (N := ["_law_pattern", "_law_cell", "_law_many", "_law_turn", "_law_often"]) (qual := "_law_grown") (scope := defScope s__law_grown) (f := T.a 24) (cd := cdv) (A := A) (outer := outer) (s := s) (H := H) (E := E)
    have hp := hp_fn (P := P) (w := w) (K := K) (mg := mg) (base := base) (N := ["_law_pattern", "_law_cell", "_law_many", "_law_turn", "_law_often"]) (qual := "_law_grown") (scope := defScope s__law_grown) (f := T.a 24) (cd := cdv) (A := A) (outer := outer) (s := s) (H := H) (E := E)
    show DSs _ T.ca _ _ (m__law_grown (fns k))
    exact (dss_cons hW (ds_set 2 nd de_int)
  (dss_cons hW (ds_if (dt_cmp (op_eqP hu) (imp_eqP false) (de_bin op_mod imp_mod (de_var 1) de_int) de_int)
  (dss_one (ds_set 2 nd (de_bin op_mod imp_mod (de_bin op_fdiv imp_fdiv (de_var 1) de_int) de_int)))
  dss_nil)
  (dss_cons hW (ds_if (dt_cmp (op_eqP hu) (imp_eqP false) (de_bin op_mod imp_mod (de_var 1) de_int) de_int)
  (dss_one (ds_set 2 nd (de_bin op_sub imp_sub (de_bin op_addA imp_add de_int (de_bin op_mod imp_mod (de_bin op_fdiv imp_fdiv (de_var 1) de_int) de_int)) (de_call O.o14 hr tk T.g14 T.F14.kp T.b14 (da_cons (de_var 0) da_nil)))))
  dss_nil)
  (dss_cons hW (ds_if (dt_cmp (op_eqP hu) (imp_eqP false) (de_bin op_mod imp_mod (de_var 1) de_int) de_int)
  (dss_cons hW (ds_set 4 nd (de_callB (call_max2 rfl) imp_max rfl T.n_max B.max (da_cons de_int (da_cons (de_bin op_addA imp_add (de_bin op_fdiv imp_fdiv de_int (de_call O.o14 hr tk T.g14 T.F14.kp T.b14 (da_cons (de_var 0) da_nil))) (de_bin op_mod imp_mod (de_bin op_fdiv imp_fdiv (de_var 1) de_int) de_int)) da_nil))))
  (dss_one (ds_ret (de_tup (da_cons (de_ix (de_lst (da_cons de_str (da_cons de_str (da_cons de_str da_nil)))) (de_bin op_mod imp_mod (de_bin op_fdiv imp_fdiv (de_var 1) de_int) de_int)) (da_cons (de_bin op_mulA imp_mul (de_tup (da_cons (de_var 0) da_nil)) (de_var 4)) da_nil))))))
  dss_nil)
  (dss_cons hW (ds_for hW hp rfl (di_range1 T.n_range (da_cons (de_var 2) da_nil)) (dg_name 3 nd)
  (dss_one (ds_set 0 nd (de_tup (da_cons (de_ix (de_lst (da_cons de_str (da_cons de_str da_nil))) (de_bin op_mod imp_mod (de_var 3) de_int)) (da_cons (de_var 0) da_nil))))))
  (dss_one (ds_ret (de_var 0)))))))))
theorem ok_law {k : Nat} (T : Tx K mg) (O : Ok P w K mg base T k) : FnOk P w K mg base (L2N.CX P w) (k + 2) (T.a 25) (T.fd 25) ["_law_script"] (spOf K T.ca 1 (fns (k + 1) 25)) := by
  show FnOk P w K mg base (L2N.CX P w) (k + 2) (T.a 25) (T.fd 25) ["_law_script"] (spOf K T.ca 1 (b_law (fns k)))
  exact fn_ok (N := ["_law_script", "_law_letters_here", "_law_pattern", "_law_size_here", "_law_found", "_law_due", "_law_cell", "_law_way", "_law_wrong", "_law_none", "_law_thing"]) 11 1 (m_law (fns k)) rfl rfl T.F25 sc_law (fun X E ⟨cdv, A, outer, s, H, hX⟩ hr => by
    subst hX
    have nd := sc_law.nd
    have hu := hu200 hr
    have hW := wid_fn (E := E)
    have tk := tk_fn (P := P) (w := w) (K := K) (mg := mg) (base := base) (N := ["_law_script", "_law_letters_here", "_law_pattern", "_law_size_here", "_law_found", "_law_due", "_law_cell", "_law_way", "_law_wrong", "_law_none", "_law_thing"]) (qual := "law") (scope := defScope s_law) (f := T.a 25) (cd := cdv) (A := A) (outer := outer) (s := s) (H := H) (E := E)
    have hp := hp_fn (P := P) (w := w) (K := K) (mg := mg) (base := base) (N := ["_law_script", "_law_letters_here", "_law_pattern", "_law_size_here", "_law_found", "_law_due", "_law_cell", "_law_way", "_law_wrong", "_law_none", "_law_thing"]) (qual := "law") (scope := defScope s_law) (f := T.a 25) (cd := cdv) (A := A) (outer := outer) (s := s) (H := H) (E := E)
    show DSs _ T.ca _ _ (m_law (fns k))
    exact (dss_cons hW (ds_set 1 nd (de_call O.o13 hr tk T.g13 T.F13.kp T.b13 (da_cons (de_call O.o12 hr tk T.g12 T.F12.kp T.b12 (da_cons (de_var 0) (da_cons de_int da_nil))) da_nil)))
  (dss_cons hW (ds_set 2 nd (de_call O.o24 hr tk T.g24 T.F24.kp T.b24 (da_cons (de_call O.o16 hr tk T.g16 T.F16.kp T.b16 (da_cons (de_var 1) (da_cons (de_cut (de_var 0) (do_some de_int) (do_some de_int)) (da_cons de_int da_nil)))) (da_cons (de_call O.o12 hr tk T.g12 T.F12.kp T.b12 (da_cons (de_var 0) (da_cons de_int da_nil))) da_nil))))
  (dss_cons hW (ds_set 3 nd (de_call O.o14 hr tk T.g14 T.F14.kp T.b14 (da_cons (de_var 2) da_nil)))
  (dss_cons hW (ds_set 4 nd (de_call O.o6 hr tk T.g6 T.F6.kp T.b6 (da_cons (de_var 2) da_nil)))
  (dss_cons hW (ds_if (dt_w (dw_or (dt_not (dt_val (de_isi T.n_isinstance T.n_int B.int (by decide) (de_var 4)))) (dw_or (dt_val (de_isi T.n_isinstance T.n_bool B.bool (by decide) (de_var 4))) (dw_or1 (dt_cmp (op_neP hu) (imp_eqP true) (de_var 4) (de_var 3))))))
  (dss_one (ds_ret de_bl))
  dss_nil)
  (dss_cons hW (ds_if (dt_cmp op_isnotA imp_isnot (de_call O.o4 hr tk T.g4 T.F4.kp T.b4 (da_cons (de_var 1) (da_cons (de_var 2) da_nil))) de_bl)
  (dss_one (ds_ret de_bl))
  dss_nil)
  (dss_cons hW (ds_if (dt_cmp op_isnotA imp_isnot (de_call O.o22 hr tk T.g22 T.F22.kp T.b22 (da_cons de_int (da_cons (de_var 1) (da_cons de_non da_nil)))) de_non)
  (dss_one (ds_ret de_bl))
  dss_nil)
  (dss_cons hW (ds_set 5 nd de_non)
  (dss_cons hW (ds_if (dt_cmp op_gt imp_gt (de_var 3) de_int)
  (dss_one (ds_set 5 nd (de_lst (da_cons de_str da_nil))))
  dss_nil)
  (dss_cons hW (ds_if (dt_cmp (op_neP hu) (imp_eqP true) (de_call O.o22 hr tk T.g22 T.F22.kp T.b22 (da_cons de_int (da_cons (de_var 1) (da_cons (de_var 2) da_nil)))) (de_var 5))
  (dss_one (ds_ret de_bl))
  dss_nil)
  (dss_cons hW (ds_set 6 nd (de_call O.o12 hr tk T.g12 T.F12.kp T.b12 (da_cons (de_var 0) (da_cons de_int da_nil))))
  (dss_cons hW (ds_set 7 nd (de_bin op_addA imp_add de_int (de_bin op_mod imp_mod (de_bin op_fdiv imp_fdiv (de_var 6) de_int) de_int)))
  (dss_cons hW (ds_if (dt_w (dw_and (dt_cmp op_gt imp_gt (de_var 3) de_int) (dw_and1 (dt_cmp (op_neP hu) (imp_eqP true) (de_call O.o22 hr tk T.g22 T.F22.kp T.b22 (da_cons (de_var 7) (da_cons (de_var 1) (da_cons (de_var 2) da_nil)))) (de_var 5)))))
  (dss_one (ds_ret de_bl))
  dss_nil)
  (dss_cons hW (ds_set 8 nd (de_call O.o20 hr tk T.g20 T.F20.kp T.b20 (da_cons (de_var 2) (da_cons (de_call O.o19 hr tk T.g19 T.F19.kp T.b19 (da_cons (de_var 1) (da_cons (de_var 2) (da_cons (de_bin op_fdiv imp_fdiv (de_var 6) de_int) da_nil)))) (da_cons (de_var 6) da_nil)))))
  (dss_cons hW (ds_if (dt_w (dw_or (dt_cmp op_isnotA imp_isnot (de_call O.o4 hr tk T.g4 T.F4.kp T.b4 (da_cons (de_var 1) (da_cons (de_var 8) da_nil))) de_bl) (dw_or1 (dt_cmp (op_neP hu) (imp_eqP true) (de_call O.o22 hr tk T.g22 T.F22.kp T.b22 (da_cons de_int (da_cons (de_var 1) (da_cons (de_var 8) da_nil)))) (de_lst (da_cons de_str da_nil))))))
  (dss_one (ds_ret de_bl))
  dss_nil)
  (dss_cons hW (ds_if (dt_cmp (op_neP hu) (imp_eqP true) (de_call O.o22 hr tk T.g22 T.F22.kp T.b22 (da_cons (de_var 7) (da_cons (de_var 1) (da_cons (de_var 8) da_nil)))) (de_lst (da_cons de_str da_nil)))
  (dss_one (ds_ret de_bl))
  dss_nil)
  (dss_cons hW (ds_set 9 nd (de_call O.o17 hr tk T.g17 T.F17.kp T.b17 (da_cons (de_var 6) da_nil)))
  (dss_cons hW (ds_set 10 nd (de_ix (de_lst (da_cons (de_var 8) (da_cons (de_var 2) da_nil))) (de_bin op_mod imp_mod (de_bin op_fdiv imp_fdiv (de_var 6) de_int) de_int)))
  (dss_cons hW (ds_if (dt_w (dw_or (dt_cmp (op_neP hu) (imp_eqP true) (de_call O.o22 hr tk T.g22 T.F22.kp T.b22 (da_cons de_int (da_cons (de_var 9) (da_cons de_non da_nil)))) (de_lst (da_cons de_str da_nil))) (dw_or1 (dt_cmp (op_neP hu) (imp_eqP true) (de_call O.o22 hr tk T.g22 T.F22.kp T.b22 (da_cons de_int (da_cons (de_var 9) (da_cons (de_var 10) da_nil)))) (de_lst (da_cons de_str da_nil))))))
  (dss_one (ds_ret de_bl))
  dss_nil)
  (dss_one (ds_ret (de_and (de_cmp (op_eqP hu) (imp_eqP false) (de_call O.o22 hr tk T.g22 T.F22.kp T.b22 (da_cons (de_var 7) (da_cons (de_var 9) (da_cons (de_var 10) da_nil)))) (de_lst (da_cons de_str da_nil))) (de_one (de_cmp (op_eqP hu) (imp_eqP false) (de_call O.o23 hr tk T.g23 T.F23.kp T.b23 (da_cons (de_var 9) (da_cons (de_ix (de_lst (da_cons de_non (da_cons de_str da_nil))) (de_bin op_mod imp_mod (de_var 6) de_int)) da_nil))) (de_lst (da_cons de_str da_nil)))))))))))))))))))))))))))
theorem ok_all (T : Tx K mg) : ∀ k, Ok P w K mg base T k
  | 0 => ⟨fn_zero, fn_zero, fn_zero, fn_zero, fn_zero, fn_zero, fn_zero, fn_zero, fn_zero, fn_zero, fn_zero, fn_zero, fn_zero, fn_zero, fn_zero, fn_zero, fn_zero, fn_zero, fn_zero, fn_zero, fn_zero, fn_zero, fn_zero, fn_zero, fn_zero, fn_zero, ok_kind T⟩
  | k + 1 => by
    have O := ok_all T k
    exact ⟨ok_are_letters T O, ok_need_letters T O, ok_is_sign T O, ok_are_parts T O, ok_is_pattern T O, ok_parts_of T O, ok_nodes T O, ok_need_pattern T O, ok_fits T O, ok_machine_of T O, ok_told_alike T O, ok_read T O, ok__law_cell_at T O, ok__law_letters T O, ok__law_size T O, ok__law_step T O, ok__law_drawn T O, ok__law_no_letters T O, ok__law_stranger T O, ok__law_no_pattern T O, ok__law_about T O, ok__law_asked T O, ok__law_told T O, ok__law_read T O, ok__law_grown T O, ok_law T O, ok_kind T⟩
end
end G
/-! EVP: what the program's defs answer -/
namespace G
open PySem PySem.Spec PyProof.Rows L2 DE
mutual
/-- a plain value; its texts are texts -/
def pl : D → Bool
  | .tup xs => decide (xs.length ≤ 1000) && pls xs
  | .lst xs => decide (xs.length ≤ 1000) && pls xs
  | .dct _ _ => true
  | .ref _ => false
  | .scr _ => false
  | .exc _ _ => false
  | .non => true
  | .bl _ => true
  | .int _ => true
  | .str x => strOk' x && decide (x.length ≤ 1000)
def pls : List D → Bool
  | [] => true
  | x :: xs => pl x && pls xs
end
def isSg (l : Str) : D → Bool
  | .str z => decide (z.length = 1) && decide (∃ c ∈ z.cps.toList, c ∈ l.cps.toList)
  | _ => false
mutual
def pat (l : Str) : D → Bool
  | .tup xs => patT l xs
  | _ => false
def patT (l : Str) : List D → Bool
  | [] => false
  | x :: r => (match x with
    | .str w => if w = "none" ∨ w = "empty" then r.length = 0 else if r.length = 1 then (if w = "sign" then (r.map (isSg l)).any id else if w = "many" ∨ w = "not" then pats l r else decide (w = "row" ∨ w = "or" ∨ w = "and") && partss l r) else false
    | _ => false)
def pats (l : Str) : List D → Bool
  | [] => true
  | x :: xs => pat l x && pats l xs
def parts (l : Str) : D → Bool
  | .tup ys => decide (1 < ys.length) && pats l ys
  | _ => false
def partss (l : Str) : List D → Bool
  | [] => true
  | x :: xs => parts l x && partss l xs
end
theorem pats_all (l : Str) : ∀ xs : List D, pats l xs = xs.all (pat l)
  | [] => rfl
  | x :: xs => by rw [pats, pats_all l xs]; rfl
theorem pls_mem : ∀ {xs : List D}, pls xs = true → ∀ x ∈ xs, pl x = true
  | x :: xs, h, y, hy => by
    simp only [pls, Bool.and_eq_true] at h
    rcases List.mem_cons.mp hy with rfl | hy
    · exact h.1
    · exact pls_mem h.2 y hy
theorem depDs_mem : ∀ {xs : List D}, ∀ x ∈ xs, depD x ≤ depDs xs
  | x :: xs, y, hy => by
    simp only [depDs]
    rcases List.mem_cons.mp hy with rfl | hy
    · exact Nat.le_max_left _ _
    · exact Nat.le_trans (depDs_mem y hy) (Nat.le_max_right _ _)
theorem ev_is_sign {l : Str} (k : Nat) (d : D) (s : Store) (h : pl d = true) : fns (k + 1) i_is_sign [.str l, d] s = .ok (.bl (isSg l d)) s := by
  show bodyF 2 (m_is_sign (fns k)) [.str l, d] s = _
  cases d with
  | str z =>
    simp only [pl, Bool.and_eq_true, decide_eq_true_eq] at h
    simp [m_is_sign, bodyF, env0, sSeq, sSet, sIf, sRet, sRetN, sExpr, sPass, sRaise, sBad, eVar, eC, eTup, eLst, aCons, aNil, eCall, ar, DE.e2, eAnd, eOr, eNot, eIf, eNeg, tVal, tAndM, tOrM, tNotM, tYesM, eChain, isiD, tyOf, isTy, eM1, oNone, oSome, eCut, R.bind_ok, R.bind_exc, R.bindS_ok, R.bindS_exc, RS.bind_next, RS.bind_ret, RS.bind_exc, LINE, ofS_inj, ofS_ok, eqD_int, eqD_ss, inD3_ss, inD2_ss, isSg, lenD_str h.2]
    by_cases hz : z.length = 1
    · obtain ⟨c, rfl⟩ := sg_of hz
      simp [inD, sg_len]
    · have : ¬ ((z.length : Int) = 1) := by omega
      simp [hz, this]
  | ref l => simp [pl] at h
  | scr l => simp [pl] at h
  | exc c l => simp [pl] at h
  | _ => simp [m_is_sign, bodyF, env0, sSeq, sSet, sIf, sRet, sRetN, sExpr, sPass, sRaise, sBad, eVar, eC, eTup, eLst, aCons, aNil, eCall, ar, DE.e2, eAnd, eOr, eNot, eIf, eNeg, tVal, tAndM, tOrM, tNotM, tYesM, eChain, isiD, tyOf, isTy, eM1, oNone, oSome, eCut, R.bind_ok, R.bind_exc, R.bindS_ok, R.bindS_exc, RS.bind_next, RS.bind_ret, RS.bind_exc, LINE, ofS_inj, ofS_ok, eqD_int, eqD_ss, inD3_ss, inD2_ss, isSg]
theorem ev_are_parts {l : Str} {k : Nat} {s : Store} (x : D) (ih : ∀ y, depD y < depD x → pl y = true → fns k i_is_pattern [.str l, y] s = .ok (.bl (pat l y)) s) (h : pl x = true) :
    fns (k + 1) i_are_parts [.str l, x] s = .ok (.bl (parts l x)) s := by
  show bodyF 3 (m_are_parts (fns k)) [.str l, x] s = _
  cases x with
  | tup ys =>
    simp only [pl, Bool.and_eq_true, decide_eq_true_eq] at h
    obtain ⟨hz, h⟩ := h
    have e := lcD_map (t := .one 2) (tt := tYesM) (em := eCall (ar 2 (fns k i_is_pattern)) (aCons (eVar 0) (aCons (eVar 2) aNil))) (a := (ys, none)) (env := [some (.str l), some (.tup ys), none]) (s := s) (by simp) (fun y => .bl (pat l y)) ys (fun y hy => by
      refine ⟨_, rfl, rfl, ?_⟩
      have := ih y (by have := depDs_mem y hy; simp only [depD]; omega) (pls_mem h y hy)
      simp [bodyF, env0, sSeq, sSet, sIf, sRet, sRetN, sExpr, sPass, sRaise, sBad, eVar, eC, eTup, eLst, aCons, aNil, eCall, ar, DE.e2, eAnd, eOr, eNot, eIf, eNeg, tVal, tAndM, tOrM, tNotM, tYesM, eChain, isiD, tyOf, isTy, eM1, oNone, oSome, eCut, R.bind_ok, R.bind_exc, R.bindS_ok, R.bindS_exc, RS.bind_next, RS.bind_ret, RS.bind_exc, LINE, ofS_inj, ofS_ok, eqD_int, eqD_ss, inD3_ss, inD2_ss, this])
    simp [m_are_parts, bodyF, env0, sSeq, sSet, sIf, sRet, sRetN, sExpr, sPass, sRaise, sBad, eVar, eC, eTup, eLst, aCons, aNil, eCall, ar, DE.e2, eAnd, eOr, eNot, eIf, eNeg, tVal, tAndM, tOrM, tNotM, tYesM, eChain, isiD, tyOf, isTy, eM1, oNone, oSome, eCut, R.bind_ok, R.bind_exc, R.bindS_ok, R.bindS_exc, RS.bind_next, RS.bind_ret, RS.bind_exc, LINE, ofS_inj, ofS_ok, eqD_int, eqD_ss, inD3_ss, inD2_ss, lenD_tup, gtD, cmpI, eLc, itV', wipeE, parts]
    by_cases hy : 1 < ys.length
    · have hy' : (1 : Int) < ys.length := by omega
      simp [hy, hy', e, finL_ok (show (ys.map fun y => D.bl (pat l y)).length ≤ 1000 by simpa using hz), allD_map, pats_all]
    · have hy' : ¬ (1 : Int) < ys.length := by omega
      simp [hy, hy']
  | ref l => simp [pl] at h
  | scr l => simp [pl] at h
  | exc c l => simp [pl] at h
  | _ => simp [m_are_parts, bodyF, env0, sSeq, sSet, sIf, sRet, sRetN, sExpr, sPass, sRaise, sBad, eVar, eC, eTup, eLst, aCons, aNil, eCall, ar, DE.e2, eAnd, eOr, eNot, eIf, eNeg, tVal, tAndM, tOrM, tNotM, tYesM, eChain, isiD, tyOf, isTy, eM1, oNone, oSome, eCut, R.bind_ok, R.bind_exc, R.bindS_ok, R.bindS_exc, RS.bind_next, RS.bind_ret, RS.bind_exc, LINE, ofS_inj, ofS_ok, eqD_int, eqD_ss, inD3_ss, inD2_ss, parts]
theorem ev_pat {l : Str} (hl : strOk' l = true) : ∀ (n k : Nat) (d : D) (s : Store), depD d ≤ n → depD d + 1 ≤ k → pl d = true → fns k i_is_pattern [.str l, d] s = .ok (.bl (pat l d)) s := by
  intro n
  induction n with
  | zero =>
    intro k d s hd hk hp
    obtain ⟨k, rfl⟩ : ∃ j, k = j + 1 := ⟨k - 1, by omega⟩
    show bodyF 2 (m_is_pattern (fns k)) [.str l, d] s = _
    cases d with
    | tup xs => simp [depD] at hd
    | ref l => simp [pl] at hp
    | scr l => simp [pl] at hp
    | exc c l => simp [pl] at hp
    | _ => simp [m_is_pattern, bodyF, env0, sSeq, sSet, sIf, sRet, sRetN, sExpr, sPass, sRaise, sBad, eVar, eC, eTup, eLst, aCons, aNil, eCall, ar, DE.e2, eAnd, eOr, eNot, eIf, eNeg, tVal, tAndM, tOrM, tNotM, tYesM, eChain, isiD, tyOf, isTy, eM1, oNone, oSome, eCut, R.bind_ok, R.bind_exc, R.bindS_ok, R.bindS_exc, RS.bind_next, RS.bind_ret, RS.bind_exc, LINE, ofS_inj, ofS_ok, eqD_int, eqD_ss, inD3_ss, inD2_ss, pat]
  | succ n ih =>
    intro k d s hd hk hp
    cases d with
    | tup xs =>
      simp only [depD] at hk
      obtain ⟨k, rfl⟩ : ∃ j, k = j + 2 := ⟨k - 2, by omega⟩
      show bodyF 2 (m_is_pattern (fns (k + 1))) _ s = _
      simp only [pl, Bool.and_eq_true, decide_eq_true_eq] at hp
      obtain ⟨hz, hp⟩ := hp
      simp only [depD] at hd
      cases xs with
      | nil => simp [m_is_pattern, bodyF, env0, sSeq, sSet, sIf, sRet, sRetN, sExpr, sPass, sRaise, sBad, eVar, eC, eTup, eLst, aCons, aNil, eCall, ar, DE.e2, eAnd, eOr, eNot, eIf, eNeg, tVal, tAndM, tOrM, tNotM, tYesM, eChain, isiD, tyOf, isTy, eM1, oNone, oSome, eCut, R.bind_ok, R.bind_exc, R.bindS_ok, R.bindS_exc, RS.bind_next, RS.bind_ret, RS.bind_exc, LINE, ofS_inj, ofS_ok, eqD_int, eqD_ss, inD3_ss, inD2_ss, lenD_tup, pat, patT]
      | cons x r =>
        have hx : pl x = true := pls_mem hp x List.mem_cons_self
        have hr0 : ¬ ((r.length : Int) + 1 = 0) := by omega
        cases x with
        | str w =>
          simp only [pl, Bool.and_eq_true, decide_eq_true_eq] at hx
          have hw := hx.1
          have q : ∀ (b : String) (neg : Bool), eqD neg (.str w) (.str (Str.ofString b)) s = .ok (.bl (if neg then !decide (w = Str.ofString b) else decide (w = Str.ofString b))) s := fun b neg => eqD_str neg w _ s hw (ofS_ok b)
          have q3 := inD3 false w "row" "or" "and" s hw (ofS_ok _) (ofS_ok _) (ofS_ok _)
          match r with
          | [] =>
            by_cases h1 : w = "none"
            · simp [m_is_pattern, bodyF, env0, sSeq, sSet, sIf, sRet, sRetN, sExpr, sPass, sRaise, sBad, eVar, eC, eTup, eLst, aCons, aNil, eCall, ar, DE.e2, eAnd, eOr, eNot, eIf, eNeg, tVal, tAndM, tOrM, tNotM, tYesM, eChain, isiD, tyOf, isTy, eM1, oNone, oSome, eCut, R.bind_ok, R.bind_exc, R.bindS_ok, R.bindS_exc, RS.bind_next, RS.bind_ret, RS.bind_exc, LINE, ofS_inj, ofS_ok, eqD_int, eqD_ss, inD3_ss, inD2_ss, lenD_tup, ixD_t0, q, pat, patT, h1]
            · by_cases h2 : w = "empty" <;> simp [m_is_pattern, bodyF, env0, sSeq, sSet, sIf, sRet, sRetN, sExpr, sPass, sRaise, sBad, eVar, eC, eTup, eLst, aCons, aNil, eCall, ar, DE.e2, eAnd, eOr, eNot, eIf, eNeg, tVal, tAndM, tOrM, tNotM, tYesM, eChain, isiD, tyOf, isTy, eM1, oNone, oSome, eCut, R.bind_ok, R.bind_exc, R.bindS_ok, R.bindS_exc, RS.bind_next, RS.bind_ret, RS.bind_exc, LINE, ofS_inj, ofS_ok, eqD_int, eqD_ss, inD3_ss, inD2_ss, lenD_tup, ixD_t0, q, pat, patT, h1, h2]
          | [y] =>
            have hy := pls_mem hp y (by simp)
            have dy0 := depDs_mem (xs := [D.str w, y]) y (by simp)
            have dy : depD y ≤ n := by omega
            have e1 := ev_is_sign (l := l) k y s hy
            have e2 := ih (k + 1) y s dy (by omega) hy
            have e3 := ev_are_parts (l := l) (k := k) (s := s) y (fun z hz hp => ih k z s (by omega) (by omega) hp) hy
            by_cases h1 : w = "none"
            · simp [m_is_pattern, bodyF, env0, sSeq, sSet, sIf, sRet, sRetN, sExpr, sPass, sRaise, sBad, eVar, eC, eTup, eLst, aCons, aNil, eCall, ar, DE.e2, eAnd, eOr, eNot, eIf, eNeg, tVal, tAndM, tOrM, tNotM, tYesM, eChain, isiD, tyOf, isTy, eM1, oNone, oSome, eCut, R.bind_ok, R.bind_exc, R.bindS_ok, R.bindS_exc, RS.bind_next, RS.bind_ret, RS.bind_exc, LINE, ofS_inj, ofS_ok, eqD_int, eqD_ss, inD3_ss, inD2_ss, lenD_tup, ixD_t0, ixD_t1, q, pat, patT, h1]
            by_cases h2 : w = "empty"
            · simp [m_is_pattern, bodyF, env0, sSeq, sSet, sIf, sRet, sRetN, sExpr, sPass, sRaise, sBad, eVar, eC, eTup, eLst, aCons, aNil, eCall, ar, DE.e2, eAnd, eOr, eNot, eIf, eNeg, tVal, tAndM, tOrM, tNotM, tYesM, eChain, isiD, tyOf, isTy, eM1, oNone, oSome, eCut, R.bind_ok, R.bind_exc, R.bindS_ok, R.bindS_exc, RS.bind_next, RS.bind_ret, RS.bind_exc, LINE, ofS_inj, ofS_ok, eqD_int, eqD_ss, inD3_ss, inD2_ss, lenD_tup, ixD_t0, ixD_t1, q, pat, patT, h1, h2]
            by_cases h3 : w = "sign"
            · simp [m_is_pattern, bodyF, env0, sSeq, sSet, sIf, sRet, sRetN, sExpr, sPass, sRaise, sBad, eVar, eC, eTup, eLst, aCons, aNil, eCall, ar, DE.e2, eAnd, eOr, eNot, eIf, eNeg, tVal, tAndM, tOrM, tNotM, tYesM, eChain, isiD, tyOf, isTy, eM1, oNone, oSome, eCut, R.bind_ok, R.bind_exc, R.bindS_ok, R.bindS_exc, RS.bind_next, RS.bind_ret, RS.bind_exc, LINE, ofS_inj, ofS_ok, eqD_int, eqD_ss, inD3_ss, inD2_ss, lenD_tup, ixD_t0, ixD_t1, q, e1, pat, patT, h1, h2, h3]
            by_cases h4 : w = "many"
            · simp [m_is_pattern, bodyF, env0, sSeq, sSet, sIf, sRet, sRetN, sExpr, sPass, sRaise, sBad, eVar, eC, eTup, eLst, aCons, aNil, eCall, ar, DE.e2, eAnd, eOr, eNot, eIf, eNeg, tVal, tAndM, tOrM, tNotM, tYesM, eChain, isiD, tyOf, isTy, eM1, oNone, oSome, eCut, R.bind_ok, R.bind_exc, R.bindS_ok, R.bindS_exc, RS.bind_next, RS.bind_ret, RS.bind_exc, LINE, ofS_inj, ofS_ok, eqD_int, eqD_ss, inD3_ss, inD2_ss, lenD_tup, ixD_t0, ixD_t1, q, e2, pat, patT, pats, h1, h2, h3, h4]
            by_cases h5 : w = "not"
            · simp [m_is_pattern, bodyF, env0, sSeq, sSet, sIf, sRet, sRetN, sExpr, sPass, sRaise, sBad, eVar, eC, eTup, eLst, aCons, aNil, eCall, ar, DE.e2, eAnd, eOr, eNot, eIf, eNeg, tVal, tAndM, tOrM, tNotM, tYesM, eChain, isiD, tyOf, isTy, eM1, oNone, oSome, eCut, R.bind_ok, R.bind_exc, R.bindS_ok, R.bindS_exc, RS.bind_next, RS.bind_ret, RS.bind_exc, LINE, ofS_inj, ofS_ok, eqD_int, eqD_ss, inD3_ss, inD2_ss, lenD_tup, ixD_t0, ixD_t1, q, e2, pat, patT, pats, h1, h2, h3, h4, h5]
            by_cases h6 : w = "row" ∨ w = "or" ∨ w = "and"
            · simp [m_is_pattern, bodyF, env0, sSeq, sSet, sIf, sRet, sRetN, sExpr, sPass, sRaise, sBad, eVar, eC, eTup, eLst, aCons, aNil, eCall, ar, DE.e2, eAnd, eOr, eNot, eIf, eNeg, tVal, tAndM, tOrM, tNotM, tYesM, eChain, isiD, tyOf, isTy, eM1, oNone, oSome, eCut, R.bind_ok, R.bind_exc, R.bindS_ok, R.bindS_exc, RS.bind_next, RS.bind_ret, RS.bind_exc, LINE, ofS_inj, ofS_ok, eqD_int, eqD_ss, inD3_ss, inD2_ss, lenD_tup, ixD_t0, ixD_t1, q, q3, e3, pat, patT, partss, h1, h2, h3, h4, h5, h6]
            · simp [m_is_pattern, bodyF, env0, sSeq, sSet, sIf, sRet, sRetN, sExpr, sPass, sRaise, sBad, eVar, eC, eTup, eLst, aCons, aNil, eCall, ar, DE.e2, eAnd, eOr, eNot, eIf, eNeg, tVal, tAndM, tOrM, tNotM, tYesM, eChain, isiD, tyOf, isTy, eM1, oNone, oSome, eCut, R.bind_ok, R.bind_exc, R.bindS_ok, R.bindS_exc, RS.bind_next, RS.bind_ret, RS.bind_exc, LINE, ofS_inj, ofS_ok, eqD_int, eqD_ss, inD3_ss, inD2_ss, lenD_tup, ixD_t0, ixD_t1, q, q3, e3, pat, patT, partss, h1, h2, h3, h4, h5, h6]
          | y :: z :: t =>
            have hl : ¬ ((t.length : Int) + 1 + 1 + 1 = 2) := by omega
            have hl2 : ¬ ((t.length : Int) + 1 + 1 + 1 = 1) := by omega
            have hl3 : ¬ ((t.length : Int) + 1 + 1 + 1 = 0) := by omega
            by_cases h1 : w = "none"
            · simp [m_is_pattern, bodyF, env0, sSeq, sSet, sIf, sRet, sRetN, sExpr, sPass, sRaise, sBad, eVar, eC, eTup, eLst, aCons, aNil, eCall, ar, DE.e2, eAnd, eOr, eNot, eIf, eNeg, tVal, tAndM, tOrM, tNotM, tYesM, eChain, isiD, tyOf, isTy, eM1, oNone, oSome, eCut, R.bind_ok, R.bind_exc, R.bindS_ok, R.bindS_exc, RS.bind_next, RS.bind_ret, RS.bind_exc, LINE, ofS_inj, ofS_ok, eqD_int, eqD_ss, inD3_ss, inD2_ss, lenD_tup, ixD_t0, q, pat, patT, h1, hl, hl2, hl3]
            · by_cases h2 : w = "empty" <;> simp [m_is_pattern, bodyF, env0, sSeq, sSet, sIf, sRet, sRetN, sExpr, sPass, sRaise, sBad, eVar, eC, eTup, eLst, aCons, aNil, eCall, ar, DE.e2, eAnd, eOr, eNot, eIf, eNeg, tVal, tAndM, tOrM, tNotM, tYesM, eChain, isiD, tyOf, isTy, eM1, oNone, oSome, eCut, R.bind_ok, R.bind_exc, R.bindS_ok, R.bindS_exc, RS.bind_next, RS.bind_ret, RS.bind_exc, LINE, ofS_inj, ofS_ok, eqD_int, eqD_ss, inD3_ss, inD2_ss, lenD_tup, ixD_t0, q, pat, patT, h1, h2, hl, hl2, hl3]
        | ref l => simp [pl] at hx
        | scr l => simp [pl] at hx
        | exc c l => simp [pl] at hx
        | _ => simp [m_is_pattern, bodyF, env0, sSeq, sSet, sIf, sRet, sRetN, sExpr, sPass, sRaise, sBad, eVar, eC, eTup, eLst, aCons, aNil, eCall, ar, DE.e2, eAnd, eOr, eNot, eIf, eNeg, tVal, tAndM, tOrM, tNotM, tYesM, eChain, isiD, tyOf, isTy, eM1, oNone, oSome, eCut, R.bind_ok, R.bind_exc, R.bindS_ok, R.bindS_exc, RS.bind_next, RS.bind_ret, RS.bind_exc, LINE, ofS_inj, ofS_ok, eqD_int, eqD_ss, inD3_ss, inD2_ss, lenD_tup, ixD_t0, hr0, pat, patT]
    | ref l => simp [pl] at hp
    | scr l => simp [pl] at hp
    | exc c l => simp [pl] at hp
    | _ =>
      obtain ⟨k, rfl⟩ : ∃ j, k = j + 1 := ⟨k - 1, by omega⟩
      rw [e_is_pattern]
      simp [m_is_pattern, bodyF, env0, sSeq, sSet, sIf, sRet, sRetN, sExpr, sPass, sRaise, sBad, eVar, eC, eTup, eLst, aCons, aNil, eCall, ar, DE.e2, eAnd, eOr, eNot, eIf, eNeg, tVal, tAndM, tOrM, tNotM, tYesM, eChain, isiD, tyOf, isTy, eM1, oNone, oSome, eCut, R.bind_ok, R.bind_exc, R.bindS_ok, R.bindS_exc, RS.bind_next, RS.bind_ret, RS.bind_exc, LINE, ofS_inj, ofS_ok, eqD_int, eqD_ss, inD3_ss, inD2_ss, pat]
/-! ### patterns as a type of their own -/
inductive W3 where
  | row | or | and
  deriving DecidableEq
inductive U2 where
  | many | not
  deriving DecidableEq
def W3.s : W3 → String
  | .row => "row"
  | .or => "or"
  | .and => "and"
def U2.s : U2 → String
  | .many => "many"
  | .not => "not"
inductive Pt where
  | non | emp | sg (c : Nat) | nary (w : W3) (ps : List Pt) | un (u : U2) (p : Pt)
mutual
def toD : Pt → D
  | .non => .tup [.str "none"]
  | .emp => .tup [.str "empty"]
  | .sg c => .tup [.str "sign", .str ⟨#[c]⟩]
  | .nary w ps => .tup [.str (Str.ofString w.s), .tup (toDs ps)]
  | .un u p => .tup [.str (Str.ofString u.s), toD p]
def toDs : List Pt → List D
  | [] => []
  | p :: ps => toD p :: toDs ps
end
theorem toDs_map : ∀ ps : List Pt, toDs ps = ps.map toD
  | [] => rfl
  | p :: ps => by rw [toDs, toDs_map ps]; rfl
mutual
def okP (l : Str) : Pt → Bool
  | .non => true
  | .emp => true
  | .sg c => decide (c ∈ l.cps.toList)
  | .nary _ ps => decide (2 ≤ ps.length) && decide (ps.length ≤ 1000) && okPs l ps
  | .un _ p => okP l p
def okPs (l : Str) : List Pt → Bool
  | [] => true
  | p :: ps => okP l p && okPs l ps
end
mutual
def siz : Pt → Nat
  | .nary _ ps => 1 + sizs ps
  | .un _ p => 1 + siz p
  | .non => 1
  | .emp => 1
  | .sg _ => 1
def sizs : List Pt → Nat
  | [] => 0
  | p :: ps => siz p + sizs ps
end
theorem sizs_map : ∀ ps : List Pt, sizs ps = (ps.map siz).sum
  | [] => rfl
  | p :: ps => by rw [sizs, sizs_map ps]; rfl
theorem sizs_int : ∀ ps : List Pt, (ps.map fun p => ((siz p : Nat) : Int)).sum = ((sizs ps : Nat) : Int)
  | [] => rfl
  | p :: ps => by
    rw [List.map_cons, List.sum_cons, sizs_int ps]
    simp only [sizs]
    omega
theorem okPs_mem {l : Str} : ∀ {ps : List Pt}, okPs l ps = true ↔ ∀ p ∈ ps, okP l p = true
  | [] => by simp [okPs]
  | p :: ps => by simp [okPs, okPs_mem (ps := ps)]
theorem siz_pos : ∀ p : Pt, 1 ≤ siz p
  | .non => by simp [siz]
  | .emp => by simp [siz]
  | .sg _ => by simp [siz]
  | .nary _ _ => by simp [siz]
  | .un _ _ => by simp [siz]
theorem siz_mem : ∀ {ps : List Pt}, ∀ p ∈ ps, siz p ≤ sizs ps
  | q :: ps, p, h => by
    simp only [sizs]
    rcases List.mem_cons.mp h with rfl | h
    · omega
    · have := siz_mem p h; omega
theorem siz_len : ∀ ps : List Pt, ps.length ≤ sizs ps
  | [] => by simp [sizs]
  | p :: ps => by
    have := siz_pos p
    have := siz_len ps
    simp only [sizs, List.length_cons]
    omega
mutual
/-- how deep its value is -/
theorem dep_siz {l : Str} : ∀ p : Pt, okP l p = true → depD (toD p) ≤ siz p + 1
  | .non, _ => by simp [toD, depD, depDs, siz]
  | .emp, _ => by simp [toD, depD, depDs, siz]
  | .sg c, _ => by simp [toD, depD, depDs, siz]
  | .un u p, h => by
    have := dep_siz p (by simpa [okP] using h)
    simp only [toD, depD, depDs, siz]
    omega
  | .nary w ps, h => by
    simp only [okP, Bool.and_eq_true, decide_eq_true_eq] at h
    have h1 := dep_sizs ps h.2 h.1.1
    simp only [toD, depD, depDs, siz]
    omega
theorem dep_sizs {l : Str} : ∀ ps : List Pt, okPs l ps = true → 2 ≤ ps.length → depDs (toDs ps) + 1 ≤ sizs ps + 1
  | [], _, h => by simp at h
  | [_], _, h => by simp at h
  | [p, q], h, _ => by
    simp only [okPs, Bool.and_eq_true] at h
    have h1 := dep_siz p h.1
    have h2 := dep_siz q h.2.1
    have := siz_pos p
    have := siz_pos q
    simp only [toDs, depDs, sizs]
    omega
  | p :: q :: r :: ps, h, _ => by
    simp only [okPs, Bool.and_eq_true] at h
    have h1 := dep_siz p h.1
    have h2 := dep_sizs (q :: r :: ps) (by simp only [okPs, Bool.and_eq_true]; exact h.2) (by simp)
    have := siz_pos p
    have e : depDs (toDs (p :: q :: r :: ps)) = max (depD (toD p)) (depDs (toDs (q :: r :: ps))) := by simp only [toDs, depDs]
    have f : sizs (p :: q :: r :: ps) = siz p + sizs (q :: r :: ps) := by simp only [sizs]
    have g : 1 ≤ sizs (q :: r :: ps) := by have := siz_pos q; simp only [sizs]; omega
    omega
end
theorem W3.cases (w : W3) : w.s = "row" ∨ w.s = "or" ∨ w.s = "and" := by cases w <;> simp [W3.s]
mutual
theorem pl_toD {l : Str} (hl : strOk' l = true) : ∀ p : Pt, okP l p = true → pl (toD p) = true
  | .non, _ => by simp only [toD, pl, pls]; decide +kernel
  | .emp, _ => by simp only [toD, pl, pls]; decide +kernel
  | .sg c, h => by
    have hc : c < 0x110000 := by
      simp only [okP, decide_eq_true_eq] at h
      unfold strOk' at hl
      rw [← Array.all_toList, List.all_eq_true] at hl
      simpa using hl c h
    have e : (pl (.str "sign")) = true := by simp only [pl]; decide +kernel
    have f : pl (.str ⟨#[c]⟩) = true := by
      simp only [pl, sg_len]
      simp [strOk', hc]
    simp [toD, pl.eq_1, pls, e, f]
  | .un u p, h => by
    have h1 := pl_toD hl p (by simpa [okP] using h)
    have e : (pl (.str (Str.ofString u.s))) = true := by cases u <;> simp only [pl, U2.s] <;> decide +kernel
    simp [toD, pl.eq_1, pls, e, h1]
  | .nary w ps, h => by
    simp only [okP, Bool.and_eq_true, decide_eq_true_eq] at h
    have h1 := pl_toDs hl ps h.2
    have e : (pl (.str (Str.ofString w.s))) = true := by cases w <;> simp only [pl, W3.s] <;> decide +kernel
    have e2 : (toDs ps).length ≤ 1000 := by rw [toDs_map, List.length_map]; exact h.1.2
    simp [toD, pl.eq_1, pls, e, h1, e2]
theorem pl_toDs {l : Str} (hl : strOk' l = true) : ∀ ps : List Pt, okPs l ps = true → pls (toDs ps) = true
  | [], _ => by simp [toDs, pls]
  | p :: ps, h => by
    simp only [okPs, Bool.and_eq_true] at h
    simp only [toDs, pls, Bool.and_eq_true]
    exact ⟨pl_toD hl p h.1, pl_toDs hl ps h.2⟩
end
mutual
theorem pat_toD {l : Str} : ∀ p : Pt, okP l p = true → pat l (toD p) = true
  | .non, _ => by simp [toD, pat, patT]
  | .emp, _ => by simp [toD, pat, patT]
  | .sg c, h => by
    simp only [okP, decide_eq_true_eq] at h
    simp [toD, pat, patT, ofS_inj, isSg, sg_len, h]
    simpa using h
  | .un u p, h => by
    have h1 := pat_toD p (by simpa [okP] using h)
    cases u <;> simp [toD, pat, patT, pats, ofS_inj, U2.s, h1]
  | .nary w ps, h => by
    simp only [okP, Bool.and_eq_true, decide_eq_true_eq] at h
    have h1 := pat_toDs ps h.2
    have e2 : 1 < (toDs ps).length := by rw [toDs_map, List.length_map]; omega
    cases w <;> simp [toD, pat, patT, partss, parts, ofS_inj, W3.s, h1, e2]
theorem pat_toDs {l : Str} : ∀ ps : List Pt, okPs l ps = true → pats l (toDs ps) = true
  | [], _ => by simp [toDs, pats]
  | p :: ps, h => by
    simp only [okPs, Bool.and_eq_true] at h
    simp only [toDs, pats, Bool.and_eq_true]
    exact ⟨pat_toD p h.1, pat_toDs ps h.2⟩
end
def kids : Pt → List Pt
  | .nary _ ps => ps
  | .un _ p => [p]
  | _ => []
theorem siz_kids (p : Pt) : siz p = 1 + sizs (kids p) := by cases p <;> simp [siz, kids, sizs]
theorem kids_ok {l : Str} {p : Pt} (h : okP l p = true) : (kids p).length ≤ 1000 ∧ ∀ q ∈ kids p, okP l q = true ∧ depD (toD q) < depD (toD p) := by
  cases p with
  | nary w ps =>
    simp only [okP, Bool.and_eq_true, decide_eq_true_eq] at h
    refine ⟨h.1.2, fun q hq => ⟨okPs_mem.mp h.2 q hq, ?_⟩⟩
    have := depDs_mem (toD q) (by rw [toDs_map]; exact List.mem_map_of_mem hq : toD q ∈ toDs ps)
    simp only [toD, depD, depDs]
    omega
  | un u p =>
    simp only [okP] at h
    refine ⟨by simp [kids], fun q hq => ?_⟩
    have e : q = p := by simpa [kids] using hq
    subst e
    refine ⟨h, ?_⟩
    simp only [toD, depD, depDs]
    omega
  | _ => exact ⟨by simp [kids], fun q hq => by simp [kids] at hq⟩
theorem dep_pos (p : Pt) : 1 ≤ depD (toD p) := by cases p <;> simp [toD, depD]
theorem ev_parts_of (k : Nat) (p : Pt) (s : Store) : fns (k + 1) i_parts_of [toD p] s = .ok (.lst (toDs (kids p))) s := by
  rw [e_parts_of]
  cases p with
  | non => simp [m_parts_of, bodyF, env0, sSeq, sSet, sIf, sRet, sRetN, sExpr, sPass, sRaise, sBad, eVar, eC, eTup, eLst, aCons, aNil, eCall, ar, DE.e2, eAnd, eOr, eNot, eIf, eNeg, tVal, tAndM, tOrM, tNotM, tYesM, eChain, isiD, tyOf, isTy, eM1, oNone, oSome, eCut, R.bind_ok, R.bind_exc, R.bindS_ok, R.bindS_exc, RS.bind_next, RS.bind_ret, RS.bind_exc, LINE, ofS_inj, ofS_ok, eqD_int, eqD_ss, inD3_ss, inD2_ss, toD, toDs, kids, ixD_t0]
  | emp => simp [m_parts_of, bodyF, env0, sSeq, sSet, sIf, sRet, sRetN, sExpr, sPass, sRaise, sBad, eVar, eC, eTup, eLst, aCons, aNil, eCall, ar, DE.e2, eAnd, eOr, eNot, eIf, eNeg, tVal, tAndM, tOrM, tNotM, tYesM, eChain, isiD, tyOf, isTy, eM1, oNone, oSome, eCut, R.bind_ok, R.bind_exc, R.bindS_ok, R.bindS_exc, RS.bind_next, RS.bind_ret, RS.bind_exc, LINE, ofS_inj, ofS_ok, eqD_int, eqD_ss, inD3_ss, inD2_ss, toD, toDs, kids, ixD_t0]
  | sg c => simp [m_parts_of, bodyF, env0, sSeq, sSet, sIf, sRet, sRetN, sExpr, sPass, sRaise, sBad, eVar, eC, eTup, eLst, aCons, aNil, eCall, ar, DE.e2, eAnd, eOr, eNot, eIf, eNeg, tVal, tAndM, tOrM, tNotM, tYesM, eChain, isiD, tyOf, isTy, eM1, oNone, oSome, eCut, R.bind_ok, R.bind_exc, R.bindS_ok, R.bindS_exc, RS.bind_next, RS.bind_ret, RS.bind_exc, LINE, ofS_inj, ofS_ok, eqD_int, eqD_ss, inD3_ss, inD2_ss, toD, toDs, kids, ixD_t0]
  | un u p => cases u <;> simp [m_parts_of, bodyF, env0, sSeq, sSet, sIf, sRet, sRetN, sExpr, sPass, sRaise, sBad, eVar, eC, eTup, eLst, aCons, aNil, eCall, ar, DE.e2, eAnd, eOr, eNot, eIf, eNeg, tVal, tAndM, tOrM, tNotM, tYesM, eChain, isiD, tyOf, isTy, eM1, oNone, oSome, eCut, R.bind_ok, R.bind_exc, R.bindS_ok, R.bindS_exc, RS.bind_next, RS.bind_ret, RS.bind_exc, LINE, ofS_inj, ofS_ok, eqD_int, eqD_ss, inD3_ss, inD2_ss, toD, toDs, kids, ixD_t0, ixD_t1, U2.s]
  | nary w ps => cases w <;> simp [m_parts_of, bodyF, env0, sSeq, sSet, sIf, sRet, sRetN, sExpr, sPass, sRaise, sBad, eVar, eC, eTup, eLst, aCons, aNil, eCall, ar, DE.e2, eAnd, eOr, eNot, eIf, eNeg, tVal, tAndM, tOrM, tNotM, tYesM, eChain, isiD, tyOf, isTy, eM1, oNone, oSome, eCut, R.bind_ok, R.bind_exc, R.bindS_ok, R.bindS_exc, RS.bind_next, RS.bind_ret, RS.bind_exc, LINE, ofS_inj, ofS_ok, eqD_int, eqD_ss, inD3_ss, inD2_ss, toD, kids, ixD_t0, ixD_t1, W3.s, listD]
theorem ev_nodes {l : Str} : ∀ (k : Nat) (p : Pt) (s : Store), okP l p = true → depD (toD p) + 1 ≤ k → fns k i_nodes [toD p] s = .ok (.int (siz p)) s := by
  intro k
  induction k with
  | zero => intro p s _ h; omega
  | succ k ih =>
    intro p s h hk
    have hk0 := dep_pos p
    obtain ⟨k, rfl⟩ : ∃ j, k = j + 1 := ⟨k - 1, by omega⟩
    have e1 := ev_parts_of k p s
    have ⟨h1, h2⟩ := kids_ok h
    have e := eLc_all (t := .one 1) (vs := [1]) (em := eCall (ar 1 (fns (k + 1) i_nodes)) (aCons (eVar 1) aNil)) (im := itV' (eCall (ar 1 (fns (k + 1) i_parts_of)) (aCons (eVar 0) aNil))) (env := [some (toD p), none]) (s := s) toD (fun p => .int (siz p)) (kids p) (by simp [itV', bodyF, env0, sSeq, sSet, sIf, sRet, sRetN, sExpr, sPass, sRaise, sBad, eVar, eC, eTup, eLst, aCons, aNil, eCall, ar, DE.e2, eAnd, eOr, eNot, eIf, eNeg, tVal, tAndM, tOrM, tNotM, tYesM, eChain, isiD, tyOf, isTy, eM1, oNone, oSome, eCut, R.bind_ok, R.bind_exc, R.bindS_ok, R.bindS_exc, RS.bind_next, RS.bind_ret, RS.bind_exc, LINE, ofS_inj, ofS_ok, eqD_int, eqD_ss, inD3_ss, inD2_ss, e1, toDs_map]) h1 (fun q hq => by
      have := ih q s (h2 q hq).1 (by have := (h2 q hq).2; omega)
      exact ⟨_, rfl, by simp [wipeE, bodyF, env0, sSeq, sSet, sIf, sRet, sRetN, sExpr, sPass, sRaise, sBad, eVar, eC, eTup, eLst, aCons, aNil, eCall, ar, DE.e2, eAnd, eOr, eNot, eIf, eNeg, tVal, tAndM, tOrM, tNotM, tYesM, eChain, isiD, tyOf, isTy, eM1, oNone, oSome, eCut, R.bind_ok, R.bind_exc, R.bindS_ok, R.bindS_exc, RS.bind_next, RS.bind_ret, RS.bind_exc, LINE, ofS_inj, ofS_ok, eqD_int, eqD_ss, inD3_ss, inD2_ss, this]⟩)
    rw [e_nodes]
    simp [m_nodes, bodyF, env0, sSeq, sSet, sIf, sRet, sRetN, sExpr, sPass, sRaise, sBad, eVar, eC, eTup, eLst, aCons, aNil, eCall, ar, DE.e2, eAnd, eOr, eNot, eIf, eNeg, tVal, tAndM, tOrM, tNotM, tYesM, eChain, isiD, tyOf, isTy, eM1, oNone, oSome, eCut, R.bind_ok, R.bind_exc, R.bindS_ok, R.bindS_exc, RS.bind_next, RS.bind_ret, RS.bind_exc, LINE, ofS_inj, ofS_ok, eqD_int, eqD_ss, inD3_ss, inD2_ss, e, sumD_map, addD, siz_kids p, sizs_int]
theorem ev_need_letters (k : Nat) (d : D) (s : Store) (b : Bool) (h : fns (k + 1) i_are_letters [d] s = .ok (.bl b) s) : fns (k + 2) i_need_letters [d] s = if b then .ok .non s else .exc 1 s := by
  rw [e_need_letters]
  cases b <;> simp [m_need_letters, bodyF, env0, sSeq, sSet, sIf, sRet, sRetN, sExpr, sPass, sRaise, sBad, eVar, eC, eTup, eLst, aCons, aNil, eCall, ar, DE.e2, eAnd, eOr, eNot, eIf, eNeg, tVal, tAndM, tOrM, tNotM, tYesM, eChain, isiD, tyOf, isTy, eM1, oNone, oSome, eCut, R.bind_ok, R.bind_exc, R.bindS_ok, R.bindS_exc, RS.bind_next, RS.bind_ret, RS.bind_exc, LINE, ofS_inj, ofS_ok, eqD_int, eqD_ss, inD3_ss, inD2_ss, h]
/-- letters as the program has them -/
def letOk : D → Bool
  | .str z => decide (1 ≤ z.length ∧ z.length ≤ 4) && z.cps.toList.all fun c => decide (c ∈ (Str.ofString "abcdefghijklmnopqrstuvwxyz").cps.toList) && decide (Txt.count z ⟨#[c]⟩ = 1)
  | _ => false
def SMALLS : Str := "abcdefghijklmnopqrstuvwxyz"
theorem ev_are_letters (k : Nat) (d : D) (s : Store) (hd : pl d = true) : fns (k + 1) i_are_letters [d] s = .ok (.bl (letOk d)) s := by
  rw [e_are_letters]
  cases d with
  | str z =>
    simp only [pl, Bool.and_eq_true, decide_eq_true_eq] at hd
    have hl : z.cps.toList.length ≤ 1000 := hd.2
    have e := eLc_all (t := .one 1) (vs := [1]) (em := eAnd (DE.e2 (inD false) (eVar 1) (eC (.str "abcdefghijklmnopqrstuvwxyz"))) (DE.e2 (eqD false) (eM1 countD (eVar 0) (eVar 1)) (eC (.int 1)))) (im := itV' (eVar 0)) (env := [some (.str z), none]) (s := s)
      (fun c => .str ⟨#[c]⟩) (fun c => .bl (decide (c ∈ (Str.ofString "abcdefghijklmnopqrstuvwxyz").cps.toList) && decide (Txt.count z ⟨#[c]⟩ = 1))) z.cps.toList (by simp [itV', bodyF, env0, sSeq, sSet, sIf, sRet, sRetN, sExpr, sPass, sRaise, sBad, eVar, eC, eTup, eLst, aCons, aNil, eCall, ar, DE.e2, eAnd, eOr, eNot, eIf, eNeg, tVal, tAndM, tOrM, tNotM, tYesM, eChain, isiD, tyOf, isTy, eM1, oNone, oSome, eCut, R.bind_ok, R.bind_exc, R.bindS_ok, R.bindS_exc, RS.bind_next, RS.bind_ret, RS.bind_exc, LINE, ofS_inj, ofS_ok, eqD_int, eqD_ss, inD3_ss, inD2_ss, DE.signs]) hl (fun c hc => by
        refine ⟨_, rfl, ?_⟩
        generalize (Str.ofString "abcdefghijklmnopqrstuvwxyz") = S
        by_cases h : c ∈ S.cps
        · simp [bodyF, env0, sSeq, sSet, sIf, sRet, sRetN, sExpr, sPass, sRaise, sBad, eVar, eC, eTup, eLst, aCons, aNil, eCall, ar, DE.e2, eAnd, eOr, eNot, eIf, eNeg, tVal, tAndM, tOrM, tNotM, tYesM, eChain, isiD, tyOf, isTy, eM1, oNone, oSome, eCut, R.bind_ok, R.bind_exc, R.bindS_ok, R.bindS_exc, RS.bind_next, RS.bind_ret, RS.bind_exc, LINE, ofS_inj, ofS_ok, eqD_int, eqD_ss, inD3_ss, inD2_ss, inD, h, countD, wipeE]
        · simp [bodyF, env0, sSeq, sSet, sIf, sRet, sRetN, sExpr, sPass, sRaise, sBad, eVar, eC, eTup, eLst, aCons, aNil, eCall, ar, DE.e2, eAnd, eOr, eNot, eIf, eNeg, tVal, tAndM, tOrM, tNotM, tYesM, eChain, isiD, tyOf, isTy, eM1, oNone, oSome, eCut, R.bind_ok, R.bind_exc, R.bindS_ok, R.bindS_exc, RS.bind_next, RS.bind_ret, RS.bind_exc, LINE, ofS_inj, ofS_ok, eqD_int, eqD_ss, inD3_ss, inD2_ss, inD, h, wipeE])
    have hlen : lenD [.str z] s = .ok (.int z.length) s := lenD_str hd.2
    simp only [letOk]
    by_cases h1 : 1 ≤ z.length
    · have h1' : (1 : Int) ≤ z.length := by omega
      by_cases h4 : z.length ≤ 4
      · have h4' : (z.length : Int) ≤ 4 := by omega
        simp only [decide_eq_true_eq, h1, h4]
        simp [m_are_letters, bodyF, env0, sSeq, sSet, sIf, sRet, sRetN, sExpr, sPass, sRaise, sBad, eVar, eC, eTup, eLst, aCons, aNil, eCall, ar, DE.e2, eAnd, eOr, eNot, eIf, eNeg, tVal, tAndM, tOrM, tNotM, tYesM, eChain, isiD, tyOf, isTy, eM1, oNone, oSome, eCut, R.bind_ok, R.bind_exc, R.bindS_ok, R.bindS_exc, RS.bind_next, RS.bind_ret, RS.bind_exc, LINE, ofS_inj, ofS_ok, eqD_int, eqD_ss, inD3_ss, inD2_ss, hlen, leD, cmpI, h1', h4', e, allD_map]
      · have h4' : ¬ (z.length : Int) ≤ 4 := by omega
        simp [m_are_letters, bodyF, env0, sSeq, sSet, sIf, sRet, sRetN, sExpr, sPass, sRaise, sBad, eVar, eC, eTup, eLst, aCons, aNil, eCall, ar, DE.e2, eAnd, eOr, eNot, eIf, eNeg, tVal, tAndM, tOrM, tNotM, tYesM, eChain, isiD, tyOf, isTy, eM1, oNone, oSome, eCut, R.bind_ok, R.bind_exc, R.bindS_ok, R.bindS_exc, RS.bind_next, RS.bind_ret, RS.bind_exc, LINE, ofS_inj, ofS_ok, eqD_int, eqD_ss, inD3_ss, inD2_ss, hlen, leD, cmpI, h4, h1', h4']
    · have h1' : ¬ (1 : Int) ≤ z.length := by omega
      simp [m_are_letters, bodyF, env0, sSeq, sSet, sIf, sRet, sRetN, sExpr, sPass, sRaise, sBad, eVar, eC, eTup, eLst, aCons, aNil, eCall, ar, DE.e2, eAnd, eOr, eNot, eIf, eNeg, tVal, tAndM, tOrM, tNotM, tYesM, eChain, isiD, tyOf, isTy, eM1, oNone, oSome, eCut, R.bind_ok, R.bind_exc, R.bindS_ok, R.bindS_exc, RS.bind_next, RS.bind_ret, RS.bind_exc, LINE, ofS_inj, ofS_ok, eqD_int, eqD_ss, inD3_ss, inD2_ss, hlen, leD, cmpI, h1, h1']
  | ref l => simp [pl] at hd
  | scr l => simp [pl] at hd
  | exc c l => simp [pl] at hd
  | _ => simp [m_are_letters, bodyF, env0, sSeq, sSet, sIf, sRet, sRetN, sExpr, sPass, sRaise, sBad, eVar, eC, eTup, eLst, aCons, aNil, eCall, ar, DE.e2, eAnd, eOr, eNot, eIf, eNeg, tVal, tAndM, tOrM, tNotM, tYesM, eChain, isiD, tyOf, isTy, eM1, oNone, oSome, eCut, R.bind_ok, R.bind_exc, R.bindS_ok, R.bindS_exc, RS.bind_next, RS.bind_ret, RS.bind_exc, LINE, ofS_inj, ofS_ok, eqD_int, eqD_ss, inD3_ss, inD2_ss, letOk]
end G
/-! EVL0: the law's letters, all of them -/
namespace G
open PySem PySem.Spec PyProof.Rows L2 DE PySem.StrLaws
/-! ### the law's letters -/
def SM : Str := "abcdefghijklmnopqrstuvwxyz"
def smAt (i : Int) : Nat := (atI SM.cps.toList i).getD 0
theorem SM_len : SM.length = 26 := by decide +kernel
theorem sm_ix {i : Int} {s : Store} (h0 : 0 ≤ i) (h : i < 26) : ixD (.str SM) (.int i) s = .ok (.str ⟨#[smAt i]⟩) s := by
  have hl : SM.cps.toList.length = 26 := SM_len
  obtain ⟨c, hc, e⟩ := atI_int SM.cps.toList i h0 (by rw [hl]; exact h)
  show (if SM.length ≤ LINE then (match atI SM.cps.toList i with | some c => (R.ok (D.str ⟨#[c]⟩) s : R D) | none => .bad) else .bad) = _
  rw [if_pos (by rw [SM_len]; decide)]
  simp only [smAt, e]
  rfl
/-- one to four letters: from the a-th on, each st behind the one ahead -/
def letsF (a n st : Nat) : Str := Str.join ⟨#[]⟩ ((List.range n).map fun k => ⟨#[smAt (((a + k * st) % 26 : Nat) : Int)]⟩)
def smK (c : Int) (k : Nat) : Nat := smAt ((((c / 4 % 26).toNat + k * (1 + c / 104 % 12).toNat) % 26 : Nat) : Int)
def lets (c : Int) : Str := letsF (c / 4 % 26).toNat (1 + c % 4).toNat (1 + c / 104 % 12).toNat
theorem lets_all : ((List.range 26).all fun a => (List.range 12).all fun st => (List.range 4).all fun n => letOk (.str (letsF a (n + 1) (st + 1))) && pl (.str (letsF a (n + 1) (st + 1)))) = true := by decide +kernel
theorem lets_ok (c : Int) : letOk (.str (lets c)) = true ∧ pl (.str (lets c)) = true := by
  have h4 : 0 ≤ c % 4 ∧ c % 4 < 4 := ⟨Int.emod_nonneg _ (by decide), Int.emod_lt_of_pos _ (by decide)⟩
  have h12 : 0 ≤ c / 104 % 12 ∧ c / 104 % 12 < 12 := ⟨Int.emod_nonneg _ (by decide), Int.emod_lt_of_pos _ (by decide)⟩
  have h26 : 0 ≤ c / 4 % 26 ∧ c / 4 % 26 < 26 := ⟨Int.emod_nonneg _ (by decide), Int.emod_lt_of_pos _ (by decide)⟩
  have h := lets_all
  rw [List.all_eq_true] at h
  have h := h (c / 4 % 26).toNat (List.mem_range.mpr (by omega))
  rw [List.all_eq_true] at h
  have h := h (c / 104 % 12).toNat (List.mem_range.mpr (by omega))
  rw [List.all_eq_true] at h
  have h := h (c % 4).toNat (List.mem_range.mpr (by omega))
  rw [Bool.and_eq_true] at h
  have e1 : (c % 4).toNat + 1 = (1 + c % 4).toNat := by omega
  have e2 : (c / 104 % 12).toNat + 1 = (1 + c / 104 % 12).toNat := by omega
  rw [e1, e2] at h
  exact h
end G
/-! EVL: what the law's defs answer: letters, patterns drawn, sizes -/
namespace G
open PySem PySem.Spec PyProof.Rows L2 DE PySem.StrLaws
/-! ### need_pattern -/
theorem ev_need_l (k : Nat) (d : D) (s : Store) (hd : pl d = true) : fns (k + 2) i_need_letters [d] s = if letOk d then .ok .non s else .exc 1 s := ev_need_letters k d s _ (ev_are_letters k d s hd)
theorem letOk_str {d : D} (h : letOk d = true) : ∃ z, d = .str z := by
  cases d <;> simp [letOk] at h
  exact ⟨_, rfl⟩
theorem np_letters {k : Nat} {lD d : D} {s : Store} (hl : pl lD = true) (hb : letOk lD = false) (hk : 3 ≤ k) : fns k i_need_pattern [lD, d] s = .exc 1 s := by
  obtain ⟨k, rfl⟩ : ∃ j, k = j + 3 := ⟨k - 3, by omega⟩
  rw [e_need_pattern]
  have := ev_need_l k lD s hl
  rw [hb] at this
  simp [m_need_pattern, bodyF, env0, sSeq, sSet, sIf, sRet, sRetN, sExpr, sPass, sRaise, sBad, eVar, eC, eTup, eLst, aCons, aNil, eCall, ar, DE.e2, eAnd, eOr, eNot, eIf, eNeg, tVal, tAndM, tOrM, tNotM, tYesM, eChain, isiD, tyOf, isTy, eM1, oNone, oSome, eCut, R.bind_ok, R.bind_exc, R.bindS_ok, R.bindS_exc, RS.bind_next, RS.bind_ret, RS.bind_exc, LINE, ofS_inj, ofS_ok, eqD_int, eqD_ss, inD3_ss, inD2_ss, this]
theorem np_pattern {k : Nat} {l : Str} {d : D} {s : Store} (hl : pl (.str l) = true) (ho : letOk (.str l) = true) (hd : pl d = true) (hp : pat l d = false) (hk : depD d + 3 ≤ k) : fns k i_need_pattern [.str l, d] s = .exc 2 s := by
  obtain ⟨k, rfl⟩ : ∃ j, k = j + 3 := ⟨k - 3, by omega⟩
  rw [e_need_pattern]
  have h1 := ev_need_l k (.str l) s hl
  rw [ho] at h1
  have h2 := ev_pat (l := l) (by simp only [pl, Bool.and_eq_true] at hl; exact hl.1) (depD d) (k + 2) d s (Nat.le_refl _) (by omega) hd
  rw [hp] at h2
  simp [m_need_pattern, bodyF, env0, sSeq, sSet, sIf, sRet, sRetN, sExpr, sPass, sRaise, sBad, eVar, eC, eTup, eLst, aCons, aNil, eCall, ar, DE.e2, eAnd, eOr, eNot, eIf, eNeg, tVal, tAndM, tOrM, tNotM, tYesM, eChain, isiD, tyOf, isTy, eM1, oNone, oSome, eCut, R.bind_ok, R.bind_exc, R.bindS_ok, R.bindS_exc, RS.bind_next, RS.bind_ret, RS.bind_exc, LINE, ofS_inj, ofS_ok, eqD_int, eqD_ss, inD3_ss, inD2_ss, h1, h2]
theorem np_ok {k : Nat} {l : Str} {p : Pt} {s : Store} (hl : pl (.str l) = true) (ho : letOk (.str l) = true) (hp : okP l p = true) (hk : depD (toD p) + 3 ≤ k) : fns k i_need_pattern [.str l, toD p] s = if 60 < siz p then .exc 3 s else .ok .non s := by
  obtain ⟨k, rfl⟩ : ∃ j, k = j + 3 := ⟨k - 3, by omega⟩
  rw [e_need_pattern]
  have h1 := ev_need_l k (.str l) s hl
  rw [ho] at h1
  have sl : strOk' l = true := by simp only [pl, Bool.and_eq_true] at hl; exact hl.1
  have h2 := ev_pat (l := l) sl (depD (toD p)) (k + 2) (toD p) s (Nat.le_refl _) (by omega) (pl_toD sl p hp)
  rw [pat_toD p hp] at h2
  have h3 := ev_nodes (k + 2) p s hp (by omega)
  by_cases h : 60 < siz p
  · have h' : (60 : Int) < (siz p : Nat) := by omega
    simp [m_need_pattern, bodyF, env0, sSeq, sSet, sIf, sRet, sRetN, sExpr, sPass, sRaise, sBad, eVar, eC, eTup, eLst, aCons, aNil, eCall, ar, DE.e2, eAnd, eOr, eNot, eIf, eNeg, tVal, tAndM, tOrM, tNotM, tYesM, eChain, isiD, tyOf, isTy, eM1, oNone, oSome, eCut, R.bind_ok, R.bind_exc, R.bindS_ok, R.bindS_exc, RS.bind_next, RS.bind_ret, RS.bind_exc, LINE, ofS_inj, ofS_ok, eqD_int, eqD_ss, inD3_ss, inD2_ss, h1, h2, h3, gtD, cmpI, h, h']
  · have h' : ¬ (60 : Int) < (siz p : Nat) := by omega
    simp [m_need_pattern, bodyF, env0, sSeq, sSet, sIf, sRet, sRetN, sExpr, sPass, sRaise, sBad, eVar, eC, eTup, eLst, aCons, aNil, eCall, ar, DE.e2, eAnd, eOr, eNot, eIf, eNeg, tVal, tAndM, tOrM, tNotM, tYesM, eChain, isiD, tyOf, isTy, eM1, oNone, oSome, eCut, R.bind_ok, R.bind_exc, R.bindS_ok, R.bindS_exc, RS.bind_next, RS.bind_ret, RS.bind_exc, LINE, ofS_inj, ofS_ok, eqD_int, eqD_ss, inD3_ss, inD2_ss, h1, h2, h3, gtD, cmpI, h, h']
theorem lets_step {c : Int} {Z : Str} {s : Store} (hZ : ∀ i : Int, 0 ≤ i → i < 26 → ixD (.str Z) (.int i) s = .ok (.str ⟨#[smAt i]⟩) s) (j : Nat) (hj : j < 4) :
    (DE.e2 ixD (eVar 1) (DE.e2 modD (DE.e2 addD (DE.e2 fdivD (eVar 0) (eC (.int 4))) (DE.e2 mulD (eVar 2) (DE.e2 addD (eC (.int 1)) (DE.e2 modD (DE.e2 fdivD (eVar 0) (eC (.int 104))) (eC (.int 12)))))) (eC (.int 26)))) [some (.int c), some (.str Z), some (.int (0 + (j : Nat)))] s = .ok (.str ⟨#[smK c j]⟩) s := by
  have h12 : 0 ≤ c / 104 % 12 ∧ c / 104 % 12 < 12 := ⟨Int.emod_nonneg _ (by decide), Int.emod_lt_of_pos _ (by decide)⟩
  have hb : ∀ x : Int, mulD (.int (j : Nat)) (.int x) s = .ok (.int ((j : Nat) * x)) s := fun x => mulD_int (by omega)
  have he : (c / 4 + (j : Int) * (1 + c / 104 % 12)) % 26 = ((((c / 4 % 26).toNat + j * (1 + c / 104 % 12).toNat) % 26 : Nat) : Int) := by
    have a1 : ((c / 4 % 26).toNat : Int) = c / 4 % 26 := Int.toNat_of_nonneg (Int.emod_nonneg _ (by decide))
    have a2 : ((1 + c / 104 % 12).toNat : Int) = 1 + c / 104 % 12 := Int.toNat_of_nonneg (by omega)
    rw [Int.natCast_emod, Int.natCast_add, Int.natCast_mul, a1, a2]
    generalize (j : Int) * (1 + c / 104 % 12) = x
    show _ = (c / 4 % 26 + x) % 26
    omega
  have hx := hZ ((((c / 4 % 26).toNat + j * (1 + c / 104 % 12).toNat) % 26 : Nat) : Int) (by omega) (by omega)
  have hy : ixD (.str Z) (.int ((c / 4 + (j : Int) * (1 + c / 104 % 12)) % 26)) s = .ok (.str ⟨#[smK c j]⟩) s := by rw [he]; exact hx
  simp [bodyF, env0, sSeq, sSet, sIf, sRet, sRetN, sExpr, sPass, sRaise, sBad, eVar, eC, eTup, eLst, aCons, aNil, eCall, ar, DE.e2, eAnd, eOr, eNot, eIf, eNeg, tVal, tAndM, tOrM, tNotM, tYesM, eChain, isiD, tyOf, isTy, eM1, oNone, oSome, eCut, R.bind_ok, R.bind_exc, R.bindS_ok, R.bindS_exc, RS.bind_next, RS.bind_ret, RS.bind_exc, LINE, ofS_inj, ofS_ok, eqD_int, eqD_ss, inD3_ss, inD2_ss, fdivD_int, modD_int, addD_int, hb, hy]
theorem ev_letters0 {c : Int} {Z : Str} {s : Store} (hZ : ∀ i : Int, 0 ≤ i → i < 26 → ixD (.str Z) (.int i) s = .ok (.str ⟨#[smAt i]⟩) s) :
    eLc (itR1 (aCons (DE.e2 addD (eC (.int 1)) (DE.e2 modD (eVar 0) (eC (.int 4)))) aNil)) (.one 2) [2] tYesM (DE.e2 ixD (eVar 1) (DE.e2 modD (DE.e2 addD (DE.e2 fdivD (eVar 0) (eC (.int 4))) (DE.e2 mulD (eVar 2) (DE.e2 addD (eC (.int 1)) (DE.e2 modD (DE.e2 fdivD (eVar 0) (eC (.int 104))) (eC (.int 12)))))) (eC (.int 26)))) [some (.int c), some (.str Z), none] s =
      .ok (.lst (((List.range (1 + c % 4).toNat).map fun k => (⟨#[smK c k]⟩ : Str)).map D.str)) s := by
  have h4 : 0 ≤ c % 4 ∧ c % 4 < 4 := ⟨Int.emod_nonneg _ (by decide), Int.emod_lt_of_pos _ (by decide)⟩
  rw [List.map_map]
  refine eLc_all (t := .one 2) (vs := [2]) (fun k : Nat => .int (0 + (k : Nat))) _ (List.range (1 + c % 4).toNat) ?_ (by rw [List.length_range]; omega) (fun j hj => ?_)
  · have : -P62 ≤ 1 + c % 4 ∧ 1 + c % 4 < P62 := by unfold P62; omega
    simp [itR1, bodyF, env0, sSeq, sSet, sIf, sRet, sRetN, sExpr, sPass, sRaise, sBad, eVar, eC, eTup, eLst, aCons, aNil, eCall, ar, DE.e2, eAnd, eOr, eNot, eIf, eNeg, tVal, tAndM, tOrM, tNotM, tYesM, eChain, isiD, tyOf, isTy, eM1, oNone, oSome, eCut, R.bind_ok, R.bind_exc, R.bindS_ok, R.bindS_exc, RS.bind_next, RS.bind_ret, RS.bind_exc, LINE, ofS_inj, ofS_ok, eqD_int, eqD_ss, inD3_ss, inD2_ss, addD_int, modD_int, this, rangeL]
  · have hj : j < (1 + c % 4).toNat := List.mem_range.mp hj
    exact ⟨_, rfl, lets_step hZ j (by omega)⟩
theorem one_sum (f : Nat → Nat) : ∀ xs : List Nat, (((xs.map fun k => (⟨#[f k]⟩ : Str)).map (·.length))).sum = xs.length
  | [] => rfl
  | x :: xs => by rw [List.map_cons, List.map_cons, List.sum_cons, one_sum f xs]; show 1 + _ = _; rw [List.length_cons]; omega
theorem empty_str : Str.ofString "" = ⟨#[]⟩ := by decide +kernel
theorem lets_join {c : Int} {s : Store} : joinD (Str.ofString "") (.lst (((List.range (1 + c % 4).toNat).map fun k => (⟨#[smK c k]⟩ : Str)).map D.str)) s = .ok (.str (lets c)) s := by
  have h4 : 0 ≤ c % 4 ∧ c % 4 < 4 := ⟨Int.emod_nonneg _ (by decide), Int.emod_lt_of_pos _ (by decide)⟩
  rw [empty_str, joinD_all (by
    rw [one_sum, List.length_range, List.length_map, List.length_range]
    show _ + _ * 0 ≤ _
    omega)]
  rw [show ∀ zs, Txt.join ⟨#[]⟩ zs = Str.join ⟨#[]⟩ zs from fun zs => glued_eq_join ⟨#[]⟩ zs]
  rfl
theorem ev_letters (k : Nat) (c : Int) (s : Store) : fns (k + 1) i__law_letters [.int c] s = .ok (.str (lets c)) s := by
  rw [e__law_letters]
  have e := ev_letters0 (c := c) (Z := SM) (s := s) fun i h0 h => sm_ix h0 h
  have es : SM = Str.ofString "abcdefghijklmnopqrstuvwxyz" := rfl
  have ej := lets_join (c := c) (s := s)
  simp only [m__law_letters, ← es]
  rw [List.map_map] at e ej
  generalize SM = Z at e ⊢
  generalize Str.ofString "" = Y at ej ⊢
  simp [bodyF, env0, sSeq, sSet, sIf, sRet, sRetN, sExpr, sPass, sRaise, sBad, eVar, eC, eTup, eLst, aCons, aNil, eCall, ar, DE.e2, eAnd, eOr, eNot, eIf, eNeg, tVal, tAndM, tOrM, tNotM, tYesM, eChain, isiD, tyOf, isTy, eM1, oNone, oSome, eCut, R.bind_ok, R.bind_exc, R.bindS_ok, R.bindS_exc, RS.bind_next, RS.bind_ret, RS.bind_exc, LINE, ofS_inj, ofS_ok, eqD_int, eqD_ss, inD3_ss, inD2_ss, e, ej]
end G
/-! EVS: patterns drawn, their sizes -/
namespace G
open PySem PySem.Spec PyProof.Rows L2 DE
/-- a cell of the script, 0 behind its end -/
def cellAt (ns : List Int) (k : Nat) : Int := (ns[k]?).getD 0
theorem ev_cell (n : Nat) (ns : List Int) (k : Nat) (s : Store) : fns (n + 1) i__law_cell_at [.scr ns, .int (k : Nat)] s = .ok (.int (cellAt ns k)) s := by
  rw [e__law_cell_at]
  have hl : lenD [.scr ns] s = .ok (.int ns.length) s := by
    show (match rdS s (.scr ns) with | some xs => (R.ok (D.int xs.length) s : R D) | none => .bad) = _
    simp [rdS]
  by_cases h : k < ns.length
  · have h' : (k : Int) < ns.length := by omega
    have hx : ixD (.scr ns) (.int (k : Nat)) s = .ok (.int (cellAt ns k)) s := by
      have e : atI (ns.map D.int) (k : Int) = some (.int (cellAt ns k)) := by
        rw [atI_nat _ _ (by rw [List.length_map]; exact h), List.getElem?_map]
        simp [cellAt, h]
      simp [ixD, rdS, e]
    simp [m__law_cell_at, bodyF, env0, sSeq, sSet, sIf, sRet, sRetN, sExpr, sPass, sRaise, sBad, eVar, eC, eTup, eLst, aCons, aNil, eCall, ar, DE.e2, eAnd, eOr, eNot, eIf, eNeg, tVal, tAndM, tOrM, tNotM, tYesM, eChain, isiD, tyOf, isTy, eM1, oNone, oSome, eCut, R.bind_ok, R.bind_exc, R.bindS_ok, R.bindS_exc, RS.bind_next, RS.bind_ret, RS.bind_exc, LINE, ofS_inj, ofS_ok, eqD_int, eqD_ss, inD3_ss, inD2_ss, hl, ltD, cmpI, h', hx]
  · have h' : ¬ (k : Int) < ns.length := by omega
    have hc : cellAt ns k = 0 := by simp [cellAt, List.getElem?_eq_none (Nat.le_of_not_lt h)]
    simp [m__law_cell_at, bodyF, env0, sSeq, sSet, sIf, sRet, sRetN, sExpr, sPass, sRaise, sBad, eVar, eC, eTup, eLst, aCons, aNil, eCall, ar, DE.e2, eAnd, eOr, eNot, eIf, eNeg, tVal, tAndM, tOrM, tNotM, tYesM, eChain, isiD, tyOf, isTy, eM1, oNone, oSome, eCut, R.bind_ok, R.bind_exc, R.bindS_ok, R.bindS_exc, RS.bind_next, RS.bind_ret, RS.bind_exc, LINE, ofS_inj, ofS_ok, eqD_int, eqD_ss, inD3_ss, inD2_ss, hl, ltD, cmpI, h', hc]
theorem ev_size {l : Str} : ∀ (k : Nat) (p : Pt) (s : Store), okP l p = true → depD (toD p) ≤ k → fns k i__law_size [toD p] s = .ok (.int (siz p)) s := by
  intro k
  induction k with
  | zero => intro p s _ h; have := dep_pos p; omega
  | succ k ih =>
    intro p s h hk
    have ⟨h1, h2⟩ := kids_ok h
    rw [e__law_size]
    cases p with
    | nary w ps =>
      have e := eLc_all (t := .one 1) (vs := [1]) (em := eCall (ar 1 (fns k i__law_size)) (aCons (eVar 1) aNil)) (im := itV' (DE.e2 ixD (eVar 0) (eC (.int 1)))) (env := [some (toD (.nary w ps)), none]) (s := s) toD (fun p => .int (siz p)) ps (by simp [itV', bodyF, env0, sSeq, sSet, sIf, sRet, sRetN, sExpr, sPass, sRaise, sBad, eVar, eC, eTup, eLst, aCons, aNil, eCall, ar, DE.e2, eAnd, eOr, eNot, eIf, eNeg, tVal, tAndM, tOrM, tNotM, tYesM, eChain, isiD, tyOf, isTy, eM1, oNone, oSome, eCut, R.bind_ok, R.bind_exc, R.bindS_ok, R.bindS_exc, RS.bind_next, RS.bind_ret, RS.bind_exc, LINE, ofS_inj, ofS_ok, eqD_int, eqD_ss, inD3_ss, inD2_ss, toD, ixD_t1, toDs_map]) h1 (fun q hq => by
        have := ih q s (h2 q hq).1 (by have := (h2 q hq).2; omega)
        exact ⟨_, rfl, by simp [wipeE, bodyF, env0, sSeq, sSet, sIf, sRet, sRetN, sExpr, sPass, sRaise, sBad, eVar, eC, eTup, eLst, aCons, aNil, eCall, ar, DE.e2, eAnd, eOr, eNot, eIf, eNeg, tVal, tAndM, tOrM, tNotM, tYesM, eChain, isiD, tyOf, isTy, eM1, oNone, oSome, eCut, R.bind_ok, R.bind_exc, R.bindS_ok, R.bindS_exc, RS.bind_next, RS.bind_ret, RS.bind_exc, LINE, ofS_inj, ofS_ok, eqD_int, eqD_ss, inD3_ss, inD2_ss, this]⟩)
      have t0 : ixD (toD (.nary w ps)) (.int 0) s = .ok (.str (Str.ofString w.s)) s := by simp only [toD, ixD_t0]
      cases w <;> simp only [W3.s] at t0 <;> simp [m__law_size, bodyF, env0, sSeq, sSet, sIf, sRet, sRetN, sExpr, sPass, sRaise, sBad, eVar, eC, eTup, eLst, aCons, aNil, eCall, ar, DE.e2, eAnd, eOr, eNot, eIf, eNeg, tVal, tAndM, tOrM, tNotM, tYesM, eChain, isiD, tyOf, isTy, eM1, oNone, oSome, eCut, R.bind_ok, R.bind_exc, R.bindS_ok, R.bindS_exc, RS.bind_next, RS.bind_ret, RS.bind_exc, LINE, ofS_inj, ofS_ok, eqD_int, eqD_ss, inD3_ss, inD2_ss, t0, e, sumD_map, addD_int, siz, sizs_int]
    | un u q =>
      have := ih q s (h2 q (by simp [kids])).1 (by have := (h2 q (by simp [kids])).2; omega)
      have t0 : ixD (toD (.un u q)) (.int 0) s = .ok (.str (Str.ofString u.s)) s := by simp only [toD, ixD_t0]
      have t1 : ixD (toD (.un u q)) (.int 1) s = .ok (toD q) s := by simp only [toD, ixD_t1]
      cases u <;> simp only [U2.s] at t0 <;> simp [m__law_size, bodyF, env0, sSeq, sSet, sIf, sRet, sRetN, sExpr, sPass, sRaise, sBad, eVar, eC, eTup, eLst, aCons, aNil, eCall, ar, DE.e2, eAnd, eOr, eNot, eIf, eNeg, tVal, tAndM, tOrM, tNotM, tYesM, eChain, isiD, tyOf, isTy, eM1, oNone, oSome, eCut, R.bind_ok, R.bind_exc, R.bindS_ok, R.bindS_exc, RS.bind_next, RS.bind_ret, RS.bind_exc, LINE, ofS_inj, ofS_ok, eqD_int, eqD_ss, inD3_ss, inD2_ss, t0, t1, this, addD_int, siz]
    | non => simp [m__law_size, bodyF, env0, sSeq, sSet, sIf, sRet, sRetN, sExpr, sPass, sRaise, sBad, eVar, eC, eTup, eLst, aCons, aNil, eCall, ar, DE.e2, eAnd, eOr, eNot, eIf, eNeg, tVal, tAndM, tOrM, tNotM, tYesM, eChain, isiD, tyOf, isTy, eM1, oNone, oSome, eCut, R.bind_ok, R.bind_exc, R.bindS_ok, R.bindS_exc, RS.bind_next, RS.bind_ret, RS.bind_exc, LINE, ofS_inj, ofS_ok, eqD_int, eqD_ss, inD3_ss, inD2_ss, toD, ixD_t0, siz]
    | emp => simp [m__law_size, bodyF, env0, sSeq, sSet, sIf, sRet, sRetN, sExpr, sPass, sRaise, sBad, eVar, eC, eTup, eLst, aCons, aNil, eCall, ar, DE.e2, eAnd, eOr, eNot, eIf, eNeg, tVal, tAndM, tOrM, tNotM, tYesM, eChain, isiD, tyOf, isTy, eM1, oNone, oSome, eCut, R.bind_ok, R.bind_exc, R.bindS_ok, R.bindS_exc, RS.bind_next, RS.bind_ret, RS.bind_exc, LINE, ofS_inj, ofS_ok, eqD_int, eqD_ss, inD3_ss, inD2_ss, toD, ixD_t0, siz]
    | sg c => simp [m__law_size, bodyF, env0, sSeq, sSet, sIf, sRet, sRetN, sExpr, sPass, sRaise, sBad, eVar, eC, eTup, eLst, aCons, aNil, eCall, ar, DE.e2, eAnd, eOr, eNot, eIf, eNeg, tVal, tAndM, tOrM, tNotM, tYesM, eChain, isiD, tyOf, isTy, eM1, oNone, oSome, eCut, R.bind_ok, R.bind_exc, R.bindS_ok, R.bindS_exc, RS.bind_next, RS.bind_ret, RS.bind_exc, LINE, ofS_inj, ofS_ok, eqD_int, eqD_ss, inD3_ss, inD2_ss, toD, ixD_t0, siz]
theorem toDs_len (ps : List Pt) : (toDs ps).length = ps.length := by rw [toDs_map, List.length_map]
theorem toDs_app (ps qs : List Pt) : toDs (ps ++ qs) = toDs ps ++ toDs qs := by rw [toDs_map, toDs_map, toDs_map, List.map_append]
theorem toDs_take (n : Nat) (ps : List Pt) : (toDs ps).take n = toDs (ps.take n) := by rw [toDs_map, toDs_map, List.map_take]
theorem toDs_drop (n : Nat) (ps : List Pt) : (toDs ps).drop n = toDs (ps.drop n) := by rw [toDs_map, toDs_map, List.map_drop]
theorem sizs_app : ∀ ps qs : List Pt, sizs (ps ++ qs) = sizs ps + sizs qs
  | [], qs => by simp [sizs]
  | p :: ps, qs => by simp only [List.cons_append, sizs, sizs_app ps qs]; omega
theorem sizs_cut (n : Nat) (ps : List Pt) : sizs (ps.take n) + sizs (ps.drop n) = sizs ps := by
  rw [← sizs_app, List.take_append_drop]
theorem okPs_app {l : Str} {ps qs : List Pt} : okPs l (ps ++ qs) = true ↔ okPs l ps = true ∧ okPs l qs = true := by
  rw [okPs_mem, okPs_mem, okPs_mem]
  constructor
  · intro h
    exact ⟨fun p hp => h p (List.mem_append_left _ hp), fun p hp => h p (List.mem_append_right _ hp)⟩
  · rintro ⟨h1, h2⟩ p hp
    rcases List.mem_append.mp hp with hp | hp
    · exact h1 p hp
    · exact h2 p hp
theorem addD_lst {xs ys : List D} {s : Store} (h : xs.length + ys.length ≤ 1000) : addD (.lst xs) (.lst ys) s = .ok (.lst (xs ++ ys)) s := by
  show (if xs.length + ys.length ≤ sizeLine then (R.ok (D.lst (xs ++ ys)) s : R D) else .bad) = _
  rw [if_pos (Nat.le_trans h (by decide))]
theorem cut_to (xs : List D) (j : Int) (s : Store) (h0 : 0 ≤ j) (h : j ≤ xs.length) : cutD (.lst xs) none (some j) s = .ok (.lst (xs.take j.toNat)) s := by
  have e : HT.sIx xs.length xs.length (some j) = j.toNat := by
    show (if j < 0 then _ else min j.toNat xs.length) = _
    rw [if_neg (by omega)]
    omega
  show R.ok (D.lst (cutL xs none (some j))) s = _
  unfold cutL
  rw [e, show HT.sIx xs.length 0 none = 0 from rfl, List.drop_zero, Nat.sub_zero]
theorem cut_from (xs : List D) (j : Int) (s : Store) (h0 : 0 ≤ j) (h : j ≤ xs.length) : cutD (.lst xs) (some j) none s = .ok (.lst (xs.drop j.toNat)) s := by
  have e : HT.sIx xs.length 0 (some j) = j.toNat := by
    show (if j < 0 then _ else min j.toNat xs.length) = _
    rw [if_neg (by omega)]
    omega
  show R.ok (D.lst (cutL xs (some j) none)) s = _
  unfold cutL
  rw [e, show HT.sIx xs.length xs.length none = xs.length from rfl, List.take_of_length_le (by rw [List.length_drop]; omega)]
theorem cut_but1 (xs : List D) (s : Store) : cutD (.lst xs) none (some (-1)) s = .ok (.lst (xs.take (xs.length - 1))) s := by
  have e : HT.sIx xs.length xs.length (some (-1)) = xs.length - 1 := by
    show (if (-1 : Int) < 0 then ((-1 : Int) + (xs.length : Int)).toNat else min (-1 : Int).toNat xs.length) = _
    rw [if_pos (by decide)]
    omega
  show R.ok (D.lst (cutL xs none (some (-1)))) s = _
  unfold cutL
  rw [e, show HT.sIx xs.length 0 none = 0 from rfl, List.drop_zero, Nat.sub_zero]
theorem last_ix {xs : List D} (h : xs ≠ []) (s : Store) : ixD (.lst xs) (.int (-1)) s = .ok (xs.getLast h) s := by
  have hl : 0 < xs.length := List.length_pos_iff.mpr h
  have e : atI xs (-1) = some (xs.getLast h) := by
    unfold atI ixN
    rw [if_neg (by decide), if_pos (by omega)]
    show xs[(-1 + (xs.length : Int)).toNat]? = _
    have e1 : (-1 + (xs.length : Int)).toNat = xs.length - 1 := by omega
    rw [e1, ← List.getLast?_eq_getElem?, List.getLast?_eq_some_getLast h]
  simp [ixD, rdS, e]
theorem ne_nil_lst {xs : List D} {s : Store} (h : pls xs = true) (hy : layDs xs = true) (hr : subs (fr s 0 3) xs = some xs) (hd : depDs xs + 1 ≤ 190) (neg : Bool) : eqD neg (.lst xs) (.lst []) s = .ok (.bl (if neg then !xs.isEmpty else xs.isEmpty)) s := by
  have e1 : res s (.lst xs) = some (.lst xs) := by show sub _ _ = _; simp only [sub]; rw [hr]; rfl
  have e2 : res s (.lst []) = some (.lst []) := by simp [sub, subs]
  have e3 : eqv (.lst xs) (.lst []) = xs.isEmpty := by
    cases xs with
    | nil => simp [eqv, pyOf, pyOfs, PyData.eqv, PyData.eqvAll]
    | cons x xs => simp [eqv, pyOf, pyOfs, PyData.eqv, PyData.eqvAll]
  unfold eqD
  rw [e1, e2]
  simp only [layD, hy, layDs, depD, e3]
  rw [if_pos ⟨trivial, trivial, hd⟩]
mutual
theorem lay_toD {l : Str} (hl : strOk' l = true) : ∀ p : Pt, okP l p = true → layD (toD p) = true ∧ pureD (toD p) = true
  | .non, _ => by simp [toD, layD, layDs, ofS_ok, pureD, pureDs]
  | .emp, _ => by simp [toD, layD, layDs, ofS_ok, pureD, pureDs]
  | .sg c, h => by
    have h1 := pl_toD hl (.sg c) h
    have h2 : strOk' ⟨#[c]⟩ = true := by
      simp only [toD, pl, pls, Bool.and_eq_true] at h1
      exact h1.2.2.1.1
    simp [toD, layD, layDs, ofS_ok, pureD, pureDs, h2]
  | .un u p, h => by
    have h1 := lay_toD hl p (by simpa [okP] using h)
    simp [toD, layD, layDs, ofS_ok, pureD, pureDs, h1.1, h1.2]
  | .nary w ps, h => by
    simp only [okP, Bool.and_eq_true, decide_eq_true_eq] at h
    have h1 := lay_toDs hl ps h.2
    simp [toD, layD, layDs, ofS_ok, pureD, pureDs, h1.1, h1.2]
theorem lay_toDs {l : Str} (hl : strOk' l = true) : ∀ ps : List Pt, okPs l ps = true → layDs (toDs ps) = true ∧ pureDs (toDs ps) = true
  | [], _ => by simp [toDs, layDs, pureDs]
  | p :: ps, h => by
    simp only [okPs, Bool.and_eq_true] at h
    have h1 := lay_toD hl p h.1
    have h2 := lay_toDs hl ps h.2
    simp [toDs, layDs, pureDs, h1.1, h1.2, h2.1, h2.2]
end
theorem depDs_le {ps : List D} {n : Nat} (h : ∀ p ∈ ps, depD p ≤ n) : depDs ps ≤ n := by
  induction ps with
  | nil => simp [depDs]
  | cons p ps ih =>
    simp only [depDs]
    have := h p List.mem_cons_self
    have := ih fun q hq => h q (List.mem_cons_of_mem _ hq)
    omega
theorem stack_eq {l : Str} (hl : strOk' l = true) {st : List Pt} (h : okPs l st = true) (hs : sizs st ≤ 150) (s : Store) (neg : Bool) : eqD neg (.lst (toDs st)) (.lst []) s = .ok (.bl (if neg then !st.isEmpty else st.isEmpty)) s := by
  have h1 := lay_toDs hl st h
  have hd : depDs (toDs st) ≤ 151 := depDs_le fun d hd => by
    rw [toDs_map] at hd
    obtain ⟨p, hp, rfl⟩ := List.mem_map.mp hd
    have := dep_siz p (okPs_mem.mp h p hp)
    have := siz_mem p hp
    omega
  rw [ne_nil_lst (pl_toDs hl st h) h1.1 (subs_pure _ _ h1.2) (by omega)]
  have : (toDs st).isEmpty = st.isEmpty := by cases st <;> rfl
  rw [this]
/-- letters as the law has them -/
structure LetF (l : Str) : Prop where
  ok : letOk (.str l) = true
  pl : pl (.str l) = true
theorem LetF.sok {l : Str} (h : LetF l) : strOk' l = true := by
  have := h.pl
  simp only [G.pl, Bool.and_eq_true] at this
  exact this.1
theorem LetF.len {l : Str} (h : LetF l) : 1 ≤ l.length ∧ l.length ≤ 4 := by
  have := h.ok
  simp only [letOk, Bool.and_eq_true, decide_eq_true_eq] at this
  exact this.1
theorem lets_F (c : Int) : LetF (lets c) := ⟨(lets_ok c).1, (lets_ok c).2⟩
theorem let_ix {l : Str} (h : LetF l) {i : Int} (s : Store) (h0 : 0 ≤ i) (hi : i < l.length) : ∃ c ∈ l.cps.toList, ixD (.str l) (.int i) s = .ok (.str ⟨#[c]⟩) s := by
  obtain ⟨c, hc, e⟩ := atI_int l.cps.toList i h0 hi
  refine ⟨c, hc, ?_⟩
  show (if l.length ≤ LINE then (match atI l.cps.toList i with | some c => (R.ok (D.str ⟨#[c]⟩) s : R D) | none => .bad) else .bad) = _
  rw [if_pos (by have := h.len.2; unfold LINE; omega), e]
theorem ix3 (x y z : D) (i : Int) (s : Store) (h0 : 0 ≤ i) (h : i < 3) : ixD (.lst [x, y, z]) (.int i) s = .ok (if i = 0 then x else if i = 1 then y else z) s := by
  have : i = 0 ∨ i = 1 ∨ i = 2 := by omega
  rcases this with rfl | rfl | rfl <;> simp [ixD, rdS, atI, ixN]
theorem ix2 (x y : D) (i : Int) (s : Store) (h0 : 0 ≤ i) (h : i < 2) : ixD (.lst [x, y]) (.int i) s = .ok (if i = 0 then x else y) s := by
  have : i = 0 ∨ i = 1 := by omega
  rcases this with rfl | rfl <;> simp [ixD, rdS, atI, ixN]
theorem w3_ix (i : Int) (s : Store) (h0 : 0 ≤ i) (h : i < 3) : ∃ w : W3, ixD (.lst [.str (Str.ofString "row"), .str (Str.ofString "or"), .str (Str.ofString "and")]) (.int i) s = .ok (.str (Str.ofString w.s)) s := by
  rw [ix3 _ _ _ _ _ h0 h]
  by_cases h1 : i = 0
  · exact ⟨.row, by rw [if_pos h1]; rfl⟩
  by_cases h2 : i = 1
  · exact ⟨.or, by rw [if_neg h1, if_pos h2]; rfl⟩
  · exact ⟨.and, by rw [if_neg h1, if_neg h2]; rfl⟩
theorem sizs_one (p : Pt) : sizs [p] = siz p := by simp [sizs]
theorem ev_step {l : Str} (hL : LetF l) (k : Nat) (st : List Pt) (c : Int) (s : Store) (h : okPs l st = true) (hs : sizs st ≤ 100) :
    ∃ st', fns (k + 1) i__law_step [.str l, .lst (toDs st), .int c] s = .ok (.lst (toDs st')) s ∧ okPs l st' = true ∧ sizs st' ≤ sizs st + 1 := by
  rw [e__law_step]
  have hk : 0 ≤ c % 11 ∧ c % 11 < 11 := ⟨Int.emod_nonneg _ (by decide), Int.emod_lt_of_pos _ (by decide)⟩
  have hlen := siz_len st
  have hll := toDs_len st
  have hL1 := hL.len
  have eL : lenD [.str l] s = .ok (.int l.length) s := lenD_str (by omega)
  have se := stack_eq hL.sok h (by omega) s true
  by_cases hA : 4 < c % 11 ∧ c % 11 < 8 ∧ 1 < st.length
  · obtain ⟨h1, h2, h3⟩ := hA
    have h3' : (1 : Int) < st.length := by omega
    have hr : 0 ≤ c / 11 % 2 ∧ c / 11 % 2 < 2 := ⟨Int.emod_nonneg _ (by decide), Int.emod_lt_of_pos _ (by decide)⟩
    obtain ⟨w, ew⟩ := w3_ix (c % 11 - 5) s (by omega) (by omega)
    obtain ⟨m, hm, hm2, hml⟩ : ∃ m : Int, (if 2 + c / 11 % 2 < (st.length : Int) then 2 + c / 11 % 2 else (st.length : Int)) = m ∧ 2 ≤ m ∧ m ≤ st.length := ⟨_, rfl, by split <;> omega, by split <;> omega⟩
    have c1 := cut_to (toDs st) (st.length - m) s (by omega) (by rw [hll]; omega)
    have c2 := cut_from (toDs st) (st.length - m) s (by omega) (by rw [hll]; omega)
    have ea : addD (.lst ((toDs st).take ((st.length : Int) - m).toNat)) (.lst [.tup [.str (Str.ofString w.s), .tup ((toDs st).drop ((st.length : Int) - m).toNat)]]) s = .ok (.lst (toDs (st.take ((st.length : Int) - m).toNat ++ [.nary w (st.drop ((st.length : Int) - m).toNat)]))) s := by
      rw [addD_lst (by rw [List.length_take, hll]; simp only [List.length_cons, List.length_nil]; omega), toDs_app, toDs_take, toDs_drop]
      simp only [toDs, toD]
    have hcut := sizs_cut ((st.length : Int) - m).toNat st
    refine ⟨st.take ((st.length : Int) - m).toNat ++ [.nary w (st.drop ((st.length : Int) - m).toNat)], ?_, ?_, ?_⟩
    · simp [m__law_step, bodyF, env0, sSeq, sSet, sIf, sRet, sRetN, sExpr, sPass, sRaise, sBad, eVar, eC, eTup, eLst, aCons, aNil, eCall, ar, DE.e2, eAnd, eOr, eNot, eIf, eNeg, tVal, tAndM, tOrM, tNotM, tYesM, eChain, isiD, tyOf, isTy, eM1, oNone, oSome, eCut, R.bind_ok, R.bind_exc, R.bindS_ok, R.bindS_exc, RS.bind_next, RS.bind_ret, RS.bind_exc, LINE, ofS_inj, ofS_ok, eqD_int, eqD_ss, inD3_ss, inD2_ss, fdivD_int, modD_int, subD_int, addD_int, gtD, ltD, cmpI, h1, h2, h3', lenD_lst, hll, minD, hm, c1, c2, ew, tupleD, rdS, ea]
    · rw [okPs_app]
      refine ⟨okPs_mem.mpr fun p hp => okPs_mem.mp h p (List.mem_of_mem_take hp), ?_⟩
      simp only [okPs, okP, Bool.and_true, Bool.and_eq_true, decide_eq_true_eq]
      refine ⟨⟨?_, ?_⟩, okPs_mem.mpr fun p hp => okPs_mem.mp h p (List.mem_of_mem_drop hp)⟩
      · rw [List.length_drop]; omega
      · rw [List.length_drop]; omega
    · rw [sizs_app, sizs_one]
      simp only [siz]
      omega
  have hA' : ¬ (4 < c % 11 ∧ c % 11 < 8 ∧ (1 : Int) < st.length) := fun ⟨a, b, d⟩ => hA ⟨a, b, by omega⟩
  by_cases hB : 7 < c % 11 ∧ st ≠ []
  · obtain ⟨h1, h2⟩ := hB
    have h8 : ¬ c % 11 < 8 := by omega
    have h5 : 4 < c % 11 := by omega
    have hne : st.isEmpty = false := by cases st with | nil => exact absurd rfl h2 | cons _ _ => rfl
    have hne' : toDs st ≠ [] := by cases st with | nil => exact absurd rfl h2 | cons _ _ => simp [toDs]
    have hpos : 0 < st.length := List.length_pos_iff.mpr h2
    obtain ⟨u, eu⟩ : ∃ u : U2, ixD (.lst [.str (Str.ofString "many"), .str (Str.ofString "not"), .str (Str.ofString "many")]) (.int (c % 11 - 8)) s = .ok (.str (Str.ofString u.s)) s := by
      rw [ix3 _ _ _ _ _ (by omega) (by omega)]
      by_cases q1 : c % 11 - 8 = 0
      · exact ⟨.many, by rw [if_pos q1]; rfl⟩
      by_cases q2 : c % 11 - 8 = 1
      · exact ⟨.not, by rw [if_neg q1, if_pos q2]; rfl⟩
      · exact ⟨.many, by rw [if_neg q1, if_neg q2]; rfl⟩
    have el := last_ix hne' s
    have hg : (toDs st).getLast hne' = toD (st.getLast h2) := by
      have : ∀ (xs : List D) (hx : xs ≠ []), xs = st.map toD → xs.getLast hx = toD (st.getLast h2) := fun xs hx e => by subst e; exact List.getLast_map _
      exact this _ hne' (toDs_map st)
    rw [hg] at el
    have c1 := cut_but1 (toDs st) s
    have ea : addD (.lst ((toDs st).take ((toDs st).length - 1))) (.lst [.tup [.str (Str.ofString u.s), toD (st.getLast h2)]]) s = .ok (.lst (toDs (st.take (st.length - 1) ++ [.un u (st.getLast h2)]))) s := by
      rw [addD_lst (by rw [List.length_take, hll]; simp only [List.length_cons, List.length_nil]; omega), toDs_app, hll, toDs_take]
      simp only [toDs, toD]
    have hcut : sizs (st.take (st.length - 1)) + siz (st.getLast h2) = sizs st := by
      have e := List.dropLast_concat_getLast h2
      have e2 := congrArg sizs e
      rw [sizs_app, sizs_one, List.dropLast_eq_take] at e2
      exact e2
    refine ⟨st.take (st.length - 1) ++ [.un u (st.getLast h2)], ?_, ?_, ?_⟩
    · simp [m__law_step, bodyF, env0, sSeq, sSet, sIf, sRet, sRetN, sExpr, sPass, sRaise, sBad, eVar, eC, eTup, eLst, aCons, aNil, eCall, ar, DE.e2, eAnd, eOr, eNot, eIf, eNeg, tVal, tAndM, tOrM, tNotM, tYesM, eChain, isiD, tyOf, isTy, eM1, oNone, oSome, eCut, R.bind_ok, R.bind_exc, R.bindS_ok, R.bindS_exc, RS.bind_next, RS.bind_ret, RS.bind_exc, LINE, ofS_inj, ofS_ok, eqD_int, eqD_ss, inD3_ss, inD2_ss, fdivD_int, modD_int, subD_int, addD_int, gtD, ltD, cmpI, h1, h8, h5, se, hne, c1, eu, el, ea]
    · rw [okPs_app]
      refine ⟨okPs_mem.mpr fun p hp => okPs_mem.mp h p (List.mem_of_mem_take hp), ?_⟩
      simp only [okPs, okP, Bool.and_true]
      exact okPs_mem.mp h _ (List.getLast_mem h2)
    · rw [sizs_app, sizs_one]
      simp only [siz]
      omega
  have app : ∀ p : Pt, okP l p = true → siz p = 1 → okPs l (st ++ [p]) = true ∧ sizs (st ++ [p]) ≤ sizs st + 1 ∧ addD (.lst (toDs st)) (.lst [toD p]) s = .ok (.lst (toDs (st ++ [p]))) s := fun p hp h1 => by
    refine ⟨okPs_app.mpr ⟨h, by simp [okPs, hp]⟩, by rw [sizs_app, sizs_one]; omega, ?_⟩
    rw [addD_lst (by rw [hll]; simp only [List.length_cons, List.length_nil]; omega), toDs_app]
    rfl
  by_cases h4 : c % 11 = 4
  · have h5 : ¬ 4 < c % 11 := by omega
    have h7 : ¬ 7 < c % 11 := by omega
    have hr : 0 ≤ c / 11 % 3 ∧ c / 11 % 3 < 3 := ⟨Int.emod_nonneg _ (by decide), Int.emod_lt_of_pos _ (by decide)⟩
    have ei := ix3 (toD .emp) (toD .non) (toD .emp) (c / 11 % 3) s hr.1 hr.2
    obtain ⟨p, hp, h1, ep⟩ : ∃ p : Pt, okP l p = true ∧ siz p = 1 ∧ ixD (.lst [toD .emp, toD .non, toD .emp]) (.int (c / 11 % 3)) s = .ok (toD p) s := by
      rw [ei]
      split
      · exact ⟨.emp, rfl, rfl, rfl⟩
      · split
        · exact ⟨.non, rfl, rfl, rfl⟩
        · exact ⟨.emp, rfl, rfl, rfl⟩
    obtain ⟨a1, a2, a3⟩ := app p hp h1
    simp only [toD] at ep
    refine ⟨_, ?_, a1, a2⟩
    simp [m__law_step, bodyF, env0, sSeq, sSet, sIf, sRet, sRetN, sExpr, sPass, sRaise, sBad, eVar, eC, eTup, eLst, aCons, aNil, eCall, ar, DE.e2, eAnd, eOr, eNot, eIf, eNeg, tVal, tAndM, tOrM, tNotM, tYesM, eChain, isiD, tyOf, isTy, eM1, oNone, oSome, eCut, R.bind_ok, R.bind_exc, R.bindS_ok, R.bindS_exc, RS.bind_next, RS.bind_ret, RS.bind_exc, LINE, ofS_inj, ofS_ok, eqD_int, eqD_ss, inD3_ss, inD2_ss, fdivD_int, modD_int, gtD, ltD, cmpI, h4, ep, a3]
  · have hr : 0 ≤ c / 11 % (l.length : Int) ∧ c / 11 % (l.length : Int) < l.length := ⟨Int.emod_nonneg _ (by omega), Int.emod_lt_of_pos _ (by omega)⟩
    obtain ⟨g, hg, eg⟩ := let_ix hL s hr.1 hr.2
    obtain ⟨a1, a2, a3⟩ := app (.sg g) (by simp only [okP]; exact decide_eq_true hg) rfl
    have em : modD (.int (c / 11)) (.int l.length) s = .ok (.int (c / 11 % l.length)) s := modD_int (by omega)
    simp only [toD] at a3
    refine ⟨_, ?_, a1, a2⟩
    by_cases p1 : 4 < c % 11
    · by_cases p2 : c % 11 < 8
      · have p3 : ¬ (1 : Int) < st.length := fun q => hA' ⟨p1, p2, q⟩
        have p4 : ¬ 7 < c % 11 := by omega
        simp [m__law_step, bodyF, env0, sSeq, sSet, sIf, sRet, sRetN, sExpr, sPass, sRaise, sBad, eVar, eC, eTup, eLst, aCons, aNil, eCall, ar, DE.e2, eAnd, eOr, eNot, eIf, eNeg, tVal, tAndM, tOrM, tNotM, tYesM, eChain, isiD, tyOf, isTy, eM1, oNone, oSome, eCut, R.bind_ok, R.bind_exc, R.bindS_ok, R.bindS_exc, RS.bind_next, RS.bind_ret, RS.bind_exc, LINE, ofS_inj, ofS_ok, eqD_int, eqD_ss, inD3_ss, inD2_ss, fdivD_int, modD_int, gtD, ltD, cmpI, lenD_lst, hll, p1, p2, p3, p4, h4, eL, em, eg, a3]
      · have p4 : 7 < c % 11 := by omega
        have hst : st = [] := Classical.byContradiction fun q => hB ⟨p4, q⟩
        have hem : st.isEmpty = true := by rw [hst]; rfl
        simp [m__law_step, bodyF, env0, sSeq, sSet, sIf, sRet, sRetN, sExpr, sPass, sRaise, sBad, eVar, eC, eTup, eLst, aCons, aNil, eCall, ar, DE.e2, eAnd, eOr, eNot, eIf, eNeg, tVal, tAndM, tOrM, tNotM, tYesM, eChain, isiD, tyOf, isTy, eM1, oNone, oSome, eCut, R.bind_ok, R.bind_exc, R.bindS_ok, R.bindS_exc, RS.bind_next, RS.bind_ret, RS.bind_exc, LINE, ofS_inj, ofS_ok, eqD_int, eqD_ss, inD3_ss, inD2_ss, fdivD_int, modD_int, gtD, ltD, cmpI, p1, p2, p4, h4, se, hem, eL, em, eg, a3]
    · have p4 : ¬ 7 < c % 11 := by omega
      simp [m__law_step, bodyF, env0, sSeq, sSet, sIf, sRet, sRetN, sExpr, sPass, sRaise, sBad, eVar, eC, eTup, eLst, aCons, aNil, eCall, ar, DE.e2, eAnd, eOr, eNot, eIf, eNeg, tVal, tAndM, tOrM, tNotM, tYesM, eChain, isiD, tyOf, isTy, eM1, oNone, oSome, eCut, R.bind_ok, R.bind_exc, R.bindS_ok, R.bindS_exc, RS.bind_next, RS.bind_ret, RS.bind_exc, LINE, ofS_inj, ofS_ok, eqD_int, eqD_ss, inD3_ss, inD2_ss, fdivD_int, modD_int, gtD, ltD, cmpI, p1, p4, h4, eL, em, eg, a3]
/-- a pattern put together by cells -/
theorem ev_drawn {l : Str} (hL : LetF l) (k : Nat) (cs : List Int) (s : Store) (hk : 60 ≤ k) : ∃ p, fns (k + 1) i__law_drawn [.str l, .lst (cs.map D.int), .int 50] s = .ok (toD p) s ∧ okP l p = true ∧ siz p ≤ 50 := by
  rw [e__law_drawn]
  obtain ⟨k, rfl⟩ : ∃ j, k = j + 1 := ⟨k - 1, by omega⟩
  let I : DE.Env → Prop := fun env => ∃ st c lt o, env = [some (.str l), some (.lst (cs.map D.int)), some (.int 50), some (.lst (toDs st)), c, lt, o] ∧ okPs l st = true ∧ sizs st < 50
  have hf := for_inv (g := gVar 4) (body := sSeq (sSet 5 (eCall (ar 3 (fns (k + 1) i__law_step)) (aCons (eVar 0) (aCons (eVar 3) (aCons (eVar 4) aNil)))))
      (sIf (tVal (DE.e2 ltD (eCall sumD (aCons (eLc (itV' (eVar 5)) (.one 6) [6] tYesM (eCall (ar 1 (fns (k + 1) i__law_size)) (aCons (eVar 6) aNil))) aNil)) (eVar 2))) (sSet 3 (eVar 5)) sPass))
    (a := (cs.map D.int, none)) (s := s) (by simp) I (cs.map D.int) [some (.str l), some (.lst (cs.map D.int)), some (.int 50), some (.lst []), none, none, none] ⟨[], none, none, none, rfl, rfl, by simp [sizs]⟩ (fun x hx env hI => by
      obtain ⟨c, _, rfl⟩ := List.mem_map.mp hx
      obtain ⟨st, c0, lt, o, rfl, h1, h2⟩ := hI
      obtain ⟨st', e1, h3, h4⟩ := ev_step hL k st c s h1 (by omega)
      have hl := siz_len st'
      have e2 := eLc_all (t := .one 6) (vs := [6]) (em := eCall (ar 1 (fns (k + 1) i__law_size)) (aCons (eVar 6) aNil)) (im := itV' (eVar 5)) (env := [some (.str l), some (.lst (cs.map D.int)), some (.int 50), some (.lst (toDs st)), some (.int c), some (.lst (toDs st')), o]) (s := s) toD (fun p => .int (siz p)) st' (by simp [itV', bodyF, env0, sSeq, sSet, sIf, sRet, sRetN, sExpr, sPass, sRaise, sBad, eVar, eC, eTup, eLst, aCons, aNil, eCall, ar, DE.e2, eAnd, eOr, eNot, eIf, eNeg, tVal, tAndM, tOrM, tNotM, tYesM, eChain, isiD, tyOf, isTy, eM1, oNone, oSome, eCut, R.bind_ok, R.bind_exc, R.bindS_ok, R.bindS_exc, RS.bind_next, RS.bind_ret, RS.bind_exc, LINE, ofS_inj, ofS_ok, eqD_int, eqD_ss, inD3_ss, inD2_ss, toDs_map]) (by omega) (fun q hq => by
        have h5 := okPs_mem.mp h3 q hq
        have := ev_size (k + 1) q s h5 (by have := dep_siz q h5; have := siz_mem q hq; omega)
        exact ⟨_, rfl, by simp [wipeE, bodyF, env0, sSeq, sSet, sIf, sRet, sRetN, sExpr, sPass, sRaise, sBad, eVar, eC, eTup, eLst, aCons, aNil, eCall, ar, DE.e2, eAnd, eOr, eNot, eIf, eNeg, tVal, tAndM, tOrM, tNotM, tYesM, eChain, isiD, tyOf, isTy, eM1, oNone, oSome, eCut, R.bind_ok, R.bind_exc, R.bindS_ok, R.bindS_exc, RS.bind_next, RS.bind_ret, RS.bind_exc, LINE, ofS_inj, ofS_ok, eqD_int, eqD_ss, inD3_ss, inD2_ss, this]⟩)
      by_cases h5 : sizs st' < 50
      · have h5' : ((sizs st' : Nat) : Int) < 50 := by omega
        refine ⟨_, _, rfl, ?_, st', some (.int c), some (.lst (toDs st')), o, rfl, h3, h5⟩
        simp [bodyF, env0, sSeq, sSet, sIf, sRet, sRetN, sExpr, sPass, sRaise, sBad, eVar, eC, eTup, eLst, aCons, aNil, eCall, ar, DE.e2, eAnd, eOr, eNot, eIf, eNeg, tVal, tAndM, tOrM, tNotM, tYesM, eChain, isiD, tyOf, isTy, eM1, oNone, oSome, eCut, R.bind_ok, R.bind_exc, R.bindS_ok, R.bindS_exc, RS.bind_next, RS.bind_ret, RS.bind_exc, LINE, ofS_inj, ofS_ok, eqD_int, eqD_ss, inD3_ss, inD2_ss, e1, e2, sumD_map, sizs_int, ltD, cmpI, h5']
      · have h5' : ¬ ((sizs st' : Nat) : Int) < 50 := by omega
        refine ⟨_, _, rfl, ?_, st, some (.int c), some (.lst (toDs st')), o, rfl, h1, h2⟩
        simp [bodyF, env0, sSeq, sSet, sIf, sRet, sRetN, sExpr, sPass, sRaise, sBad, eVar, eC, eTup, eLst, aCons, aNil, eCall, ar, DE.e2, eAnd, eOr, eNot, eIf, eNeg, tVal, tAndM, tOrM, tNotM, tYesM, eChain, isiD, tyOf, isTy, eM1, oNone, oSome, eCut, R.bind_ok, R.bind_exc, R.bindS_ok, R.bindS_exc, RS.bind_next, RS.bind_ret, RS.bind_exc, LINE, ofS_inj, ofS_ok, eqD_int, eqD_ss, inD3_ss, inD2_ss, e1, e2, sumD_map, sizs_int, ltD, cmpI, h5'])
  obtain ⟨env2, ef, st, c0, lt, o, rfl, h1, h2⟩ := hf
  have se := stack_eq hL.sok h1 (by omega) s false
  have hlen := siz_len st
  have hll := toDs_len st
  have hcl : lenD [.lst (cs.map D.int)] s = .ok (.int cs.length) s := by rw [lenD_lst, List.length_map]
  have hr : 0 ≤ (cs.length : Int) % 3 ∧ (cs.length : Int) % 3 < 3 := ⟨Int.emod_nonneg _ (by decide), Int.emod_lt_of_pos _ (by decide)⟩
  obtain ⟨w, ew⟩ := w3_ix ((cs.length : Int) % 3) s hr.1 hr.2
  match st, h1, h2, ef, se, hlen, hll with
  | [], h1, h2, ef, se, hlen, hll =>
    refine ⟨.emp, ?_, rfl, by simp [siz]⟩
    simp [m__law_drawn, bodyF, env0, sSeq, sSet, sIf, sRet, sRetN, sExpr, sPass, sRaise, sBad, eVar, eC, eTup, eLst, aCons, aNil, eCall, ar, DE.e2, eAnd, eOr, eNot, eIf, eNeg, tVal, tAndM, tOrM, tNotM, tYesM, eChain, isiD, tyOf, isTy, eM1, oNone, oSome, eCut, R.bind_ok, R.bind_exc, R.bindS_ok, R.bindS_exc, RS.bind_next, RS.bind_ret, RS.bind_exc, LINE, ofS_inj, ofS_ok, eqD_int, eqD_ss, inD3_ss, inD2_ss, sFor, itV', ef, se, toD]
  | [p], h1, h2, ef, se, hlen, hll =>
    refine ⟨p, ?_, by simpa [okPs] using h1, by simp [sizs] at h2; omega⟩
    simp only [toDs] at ef se hll
    have e0 : ixD (.lst [toD p]) (.int 0) s = .ok (toD p) s := by simp [ixD, rdS, atI_0]
    simp [m__law_drawn, bodyF, env0, sSeq, sSet, sIf, sRet, sRetN, sExpr, sPass, sRaise, sBad, eVar, eC, eTup, eLst, aCons, aNil, eCall, ar, DE.e2, eAnd, eOr, eNot, eIf, eNeg, tVal, tAndM, tOrM, tNotM, tYesM, eChain, isiD, tyOf, isTy, eM1, oNone, oSome, eCut, R.bind_ok, R.bind_exc, R.bindS_ok, R.bindS_exc, RS.bind_next, RS.bind_ret, RS.bind_exc, LINE, ofS_inj, ofS_ok, eqD_int, eqD_ss, inD3_ss, inD2_ss, sFor, itV', ef, se, lenD_lst, e0]
  | p :: q :: ps, h1, h2, ef, se, hlen, hll =>
    refine ⟨.nary w (p :: q :: ps), ?_, ?_, by simp only [siz]; omega⟩
    · have hn : ¬ ((ps.length : Int) + 1 + 1 = 1) := by omega
      have hlp : lenD [.lst (toDs (p :: q :: ps))] s = .ok (.int ((ps.length : Int) + 1 + 1)) s := by rw [lenD_lst, hll]; simp
      have ht : tupleD [.lst (toDs (p :: q :: ps))] s = .ok (.tup (toDs (p :: q :: ps))) s := rfl
      generalize hz : toDs (p :: q :: ps) = Z at ef se hlp ht
      simp [m__law_drawn, bodyF, env0, sSeq, sSet, sIf, sRet, sRetN, sExpr, sPass, sRaise, sBad, eVar, eC, eTup, eLst, aCons, aNil, eCall, ar, DE.e2, eAnd, eOr, eNot, eIf, eNeg, tVal, tAndM, tOrM, tNotM, tYesM, eChain, isiD, tyOf, isTy, eM1, oNone, oSome, eCut, R.bind_ok, R.bind_exc, R.bindS_ok, R.bindS_exc, RS.bind_next, RS.bind_ret, RS.bind_exc, LINE, ofS_inj, ofS_ok, eqD_int, eqD_ss, inD3_ss, inD2_ss, sFor, itV', ef, se, hlp, hn, ew, ht, hcl, modD_int, toD, hz]
    · simp only [okP, Bool.and_eq_true, decide_eq_true_eq]
      exact ⟨⟨by simp, by simp only [List.length_cons] at hlen ⊢; omega⟩, h1⟩
end G
/-! EVG: k01: patterns grown, what is no pattern, what are no letters -/
namespace G
open PySem PySem.Spec PyProof.Rows L2 DE
theorem rep_one (n : Nat) (x : D) : (List.replicate n [x]).flatten = List.replicate n x := by
  induction n with
  | zero => rfl
  | succ n ih => rw [List.replicate_succ, List.flatten_cons, ih]; rfl
theorem toDs_rep (n : Nat) (p : Pt) : toDs (List.replicate n p) = List.replicate n (toD p) := by rw [toDs_map, List.map_replicate]
theorem mul_one_tup {x : D} {k : Int} {s : Store} (h : 2 ≤ k ∧ k ≤ 1000) : mulD (.tup [x]) (.int k) s = .ok (.tup (List.replicate k.toNat x)) s := by
  unfold mulD
  simp only
  rw [if_pos ⟨by simp, h.1, h.2, by simp⟩, repL, rep_one]
theorem ev_grown {l : Str} (hL : LetF l) (k : Nat) (p : Pt) (c : Int) (s : Store) (h : okP l p = true) (hs : siz p ≤ 50) (hk : 60 ≤ k) :
    ∃ g, fns (k + 1) i__law_grown [toD p, .int c] s = .ok (toD g) s ∧ okP l g = true ∧ depD (toD g) ≤ 77 := by
  rw [e__law_grown]
  have hd := dep_siz p h
  have hp := siz_pos p
  have hr : 0 ≤ c % 6 ∧ c % 6 < 6 := ⟨Int.emod_nonneg _ (by decide), Int.emod_lt_of_pos _ (by decide)⟩
  have ez := ev_size k p s h (by omega)
  have tower : ∀ n : Int, 0 ≤ n → n ≤ 61 → siz p + n.toNat ≤ 76 → ∃ g, (match (sSeq (sFor (itR1 (aCons (eVar 2) aNil)) (gVar 3) (sSet 0 (eTup (aCons (DE.e2 ixD (eLst (aCons (eC (.str "many")) (aCons (eC (.str "not")) aNil))) (DE.e2 modD (eVar 3) (eC (.int 2)))) (aCons (eVar 0) aNil))))) (sRet (eVar 0))) [some (toD p), some (.int c), some (.int n), none, none] s with
      | RS.next env s => R.ok D.non s
      | RS.ret d s => R.ok d s
      | RS.exc c s => R.exc c s
      | x => R.bad) = .ok (toD g) s ∧ okP l g = true ∧ depD (toD g) ≤ 77 := by
    intro n h0 h1 h2
    have hm : -P62 ≤ n ∧ n < P62 := by unfold P62; omega
    have hf := for_ind (g := gVar 3) (body := (sSet 0 (eTup (aCons (DE.e2 ixD (eLst (aCons (eC (.str "many")) (aCons (eC (.str "not")) aNil))) (DE.e2 modD (eVar 3) (eC (.int 2)))) (aCons (eVar 0) aNil)))))
      (a := (rangeL 0 n, none)) (s := s) (by simp) (fun i env => ∃ q t, env = [some (toD q), some (.int c), some (.int n), t, none] ∧ okP l q = true ∧ siz q = siz p + i) (rangeL 0 n) 0 [some (toD p), some (.int c), some (.int n), none, none] ⟨p, none, rfl, h, rfl⟩ (fun j x hx env hI => by
        obtain ⟨q, t, rfl, h3, h4⟩ := hI
        have hx : x = .int (0 + (j : Nat)) := by
          unfold rangeL at hx
          rw [List.getElem?_map] at hx
          cases e : (List.range (n - 0).toNat)[j]? with
          | none => rw [e] at hx; cases hx
          | some v =>
            rw [e] at hx
            obtain ⟨hj, ev⟩ := List.getElem?_eq_some_iff.mp e
            rw [List.getElem_range] at ev
            subst ev
            simp at hx
            rw [← hx]
            simp
        subst hx
        have hr2 : 0 ≤ (j : Int) % 2 ∧ (j : Int) % 2 < 2 := ⟨Int.emod_nonneg _ (by decide), Int.emod_lt_of_pos _ (by decide)⟩
        obtain ⟨u, eu⟩ : ∃ u : U2, ixD (.lst [.str (Str.ofString "many"), .str (Str.ofString "not")]) (.int ((j : Int) % 2)) s = .ok (.str (Str.ofString u.s)) s := by
          rw [ix2 _ _ _ _ hr2.1 hr2.2]
          by_cases q1 : (j : Int) % 2 = 0
          · exact ⟨.many, by rw [if_pos q1]; rfl⟩
          · exact ⟨.not, by rw [if_neg q1]; rfl⟩
        refine ⟨_, _, rfl, ?_, .un u q, some (.int (0 + (j : Nat))), rfl, by simpa [okP] using h3, by simp only [siz]; omega⟩
        simp [bodyF, env0, sSeq, sSet, sIf, sRet, sRetN, sExpr, sPass, sRaise, sBad, eVar, eC, eTup, eLst, aCons, aNil, eCall, ar, DE.e2, eAnd, eOr, eNot, eIf, eNeg, tVal, tAndM, tOrM, tNotM, tYesM, eChain, isiD, tyOf, isTy, eM1, oNone, oSome, eCut, R.bind_ok, R.bind_exc, R.bindS_ok, R.bindS_exc, RS.bind_next, RS.bind_ret, RS.bind_exc, LINE, ofS_inj, ofS_ok, eqD_int, eqD_ss, inD3_ss, inD2_ss, modD_int, eu, toD])
    obtain ⟨env2, ef, q, t, rfl, h3, h4⟩ := hf
    have hlen : (rangeL 0 n).length = n.toNat := by unfold rangeL; rw [List.length_map, List.length_range]; simp
    rw [hlen] at h4
    refine ⟨q, ?_, h3, by have := dep_siz q h3; omega⟩
    simp [bodyF, env0, sSeq, sSet, sIf, sRet, sRetN, sExpr, sPass, sRaise, sBad, eVar, eC, eTup, eLst, aCons, aNil, eCall, ar, DE.e2, eAnd, eOr, eNot, eIf, eNeg, tVal, tAndM, tOrM, tNotM, tYesM, eChain, isiD, tyOf, isTy, eM1, oNone, oSome, eCut, R.bind_ok, R.bind_exc, R.bindS_ok, R.bindS_exc, RS.bind_next, RS.bind_ret, RS.bind_exc, LINE, ofS_inj, ofS_ok, eqD_int, eqD_ss, inD3_ss, inD2_ss, sFor, itR1, hm, ef]
  by_cases h1 : c % 6 = 1
  · obtain ⟨g, eg, h2, h3⟩ := tower (c / 6 % 26) (Int.emod_nonneg _ (by decide)) (by have := Int.emod_lt_of_pos (c / 6) (show (0 : Int) < 26 by decide); omega) (by have := Int.emod_lt_of_pos (c / 6) (show (0 : Int) < 26 by decide); have := Int.emod_nonneg (c / 6) (show (26 : Int) ≠ 0 by decide); omega)
    refine ⟨g, ?_, h2, h3⟩
    rw [← eg]
    simp only [m__law_grown]
    generalize sFor (itR1 (aCons (eVar 2) aNil)) (gVar 3) (sSet 0 (eTup (aCons (DE.e2 ixD (eLst (aCons (eC (.str "many")) (aCons (eC (.str "not")) aNil))) (DE.e2 modD (eVar 3) (eC (.int 2)))) (aCons (eVar 0) aNil)))) = F
    simp [bodyF, env0, sSeq, sSet, sIf, sRet, sRetN, sExpr, sPass, sRaise, sBad, eVar, eC, eTup, eLst, aCons, aNil, eCall, ar, DE.e2, eAnd, eOr, eNot, eIf, eNeg, tVal, tAndM, tOrM, tNotM, tYesM, eChain, isiD, tyOf, isTy, eM1, oNone, oSome, eCut, R.bind_ok, R.bind_exc, R.bindS_ok, R.bindS_exc, RS.bind_next, RS.bind_ret, RS.bind_exc, LINE, ofS_inj, ofS_ok, eqD_int, eqD_ss, inD3_ss, inD2_ss, modD_int, fdivD_int, h1]
    try rfl
  by_cases h2 : c % 6 = 2
  · have hr2 : 0 ≤ c / 6 % 2 ∧ c / 6 % 2 < 2 := ⟨Int.emod_nonneg _ (by decide), Int.emod_lt_of_pos _ (by decide)⟩
    obtain ⟨g, eg, h3, h4⟩ := tower (60 + c / 6 % 2 - (siz p : Nat)) (by omega) (by omega) (by omega)
    refine ⟨g, ?_, h3, h4⟩
    rw [← eg]
    simp only [m__law_grown]
    generalize sFor (itR1 (aCons (eVar 2) aNil)) (gVar 3) (sSet 0 (eTup (aCons (DE.e2 ixD (eLst (aCons (eC (.str "many")) (aCons (eC (.str "not")) aNil))) (DE.e2 modD (eVar 3) (eC (.int 2)))) (aCons (eVar 0) aNil)))) = F
    simp [bodyF, env0, sSeq, sSet, sIf, sRet, sRetN, sExpr, sPass, sRaise, sBad, eVar, eC, eTup, eLst, aCons, aNil, eCall, ar, DE.e2, eAnd, eOr, eNot, eIf, eNeg, tVal, tAndM, tOrM, tNotM, tYesM, eChain, isiD, tyOf, isTy, eM1, oNone, oSome, eCut, R.bind_ok, R.bind_exc, R.bindS_ok, R.bindS_exc, RS.bind_next, RS.bind_ret, RS.bind_exc, LINE, ofS_inj, ofS_ok, eqD_int, eqD_ss, inD3_ss, inD2_ss, modD_int, fdivD_int, subD_int, addD_int, h1, h2, ez]
    try rfl
  by_cases h3 : c % 6 = 3
  · have hr3 : 0 ≤ c / 6 % 3 ∧ c / 6 % 3 < 3 := ⟨Int.emod_nonneg _ (by decide), Int.emod_lt_of_pos _ (by decide)⟩
    have hq : 0 ≤ (58 : Int) / (siz p : Nat) ∧ (58 : Int) / (siz p : Nat) ≤ 58 := ⟨Int.ediv_nonneg (by decide) (by omega), Int.ediv_le_self _ (by decide)⟩
    obtain ⟨m, hm, hm1, hm2⟩ : ∃ m : Int, (if 58 / ((siz p : Nat) : Int) + c / 6 % 3 > 2 then 58 / ((siz p : Nat) : Int) + c / 6 % 3 else 2) = m ∧ 2 ≤ m ∧ m ≤ 60 := ⟨_, rfl, by split <;> omega, by split <;> omega⟩
    obtain ⟨w, ew⟩ := w3_ix (c / 18 % 3) s (Int.emod_nonneg _ (by decide)) (Int.emod_lt_of_pos _ (by decide))
    have ef : fdivD (.int 58) (.int (siz p : Nat)) s = .ok (.int (58 / (siz p : Nat))) s := fdivD_int (by omega)
    have emx : maxD [.int 2, .int (58 / ((siz p : Nat) : Int) + c / 6 % 3)] s = .ok (.int m) s := by rw [← hm]; rfl
    have emu := mul_one_tup (x := toD p) (k := m) (s := s) (by omega)
    refine ⟨.nary w (List.replicate m.toNat p), ?_, ?_, ?_⟩
    · simp [m__law_grown, bodyF, env0, sSeq, sSet, sIf, sRet, sRetN, sExpr, sPass, sRaise, sBad, eVar, eC, eTup, eLst, aCons, aNil, eCall, ar, DE.e2, eAnd, eOr, eNot, eIf, eNeg, tVal, tAndM, tOrM, tNotM, tYesM, eChain, isiD, tyOf, isTy, eM1, oNone, oSome, eCut, R.bind_ok, R.bind_exc, R.bindS_ok, R.bindS_exc, RS.bind_next, RS.bind_ret, RS.bind_exc, LINE, ofS_inj, ofS_ok, eqD_int, eqD_ss, inD3_ss, inD2_ss, modD_int, fdivD_int, addD_int, h1, h2, h3, ez, ef, emx, ew, emu, toD, toDs_rep]
    · simp only [okP, Bool.and_eq_true, decide_eq_true_eq, List.length_replicate]
      exact ⟨⟨by omega, by omega⟩, okPs_mem.mpr fun q hq => by rw [(List.mem_replicate.mp hq).2]; exact h⟩
    · have : depDs (toDs (List.replicate m.toNat p)) ≤ depD (toD p) := depDs_le fun d hd => by
        rw [toDs_rep] at hd
        rw [(List.mem_replicate.mp hd).2]
        exact Nat.le_refl _
      simp only [toD, depD, depDs]
      omega
  · obtain ⟨g, eg, h4, h5⟩ := tower 0 (by decide) (by decide) (by simp; omega)
    refine ⟨g, ?_, h4, h5⟩
    rw [← eg]
    simp only [m__law_grown]
    generalize sFor (itR1 (aCons (eVar 2) aNil)) (gVar 3) (sSet 0 (eTup (aCons (DE.e2 ixD (eLst (aCons (eC (.str "many")) (aCons (eC (.str "not")) aNil))) (DE.e2 modD (eVar 3) (eC (.int 2)))) (aCons (eVar 0) aNil)))) = F
    simp [bodyF, env0, sSeq, sSet, sIf, sRet, sRetN, sExpr, sPass, sRaise, sBad, eVar, eC, eTup, eLst, aCons, aNil, eCall, ar, DE.e2, eAnd, eOr, eNot, eIf, eNeg, tVal, tAndM, tOrM, tNotM, tYesM, eChain, isiD, tyOf, isTy, eM1, oNone, oSome, eCut, R.bind_ok, R.bind_exc, R.bindS_ok, R.bindS_exc, RS.bind_next, RS.bind_ret, RS.bind_exc, LINE, ofS_inj, ofS_ok, eqD_int, eqD_ss, inD3_ss, inD2_ss, modD_int, fdivD_int, h1, h2, h3]
    try rfl
/-! ### what are no letters -/
def noLs : List D := [.str "", .str "abcde", .str "aa", .str "aba", .str "A", .str "a1", .str "a b", .non, .int 5, .lst [.str "a"], .tup [.str "a"], .bl true, .dct [.inr "a"] [.int 1], .str "ab\n"]
theorem noLs_ok : (noLs.all fun d => pl d && !letOk d) = true := by decide +kernel
theorem ev_no_letters (k : Nat) (c : Int) (s : Store) : ∃ d, fns (k + 1) i__law_no_letters [.int c] s = .ok d s ∧ pl d = true ∧ letOk d = false := by
  rw [e__law_no_letters]
  obtain ⟨d, hd, e⟩ := ixD_int (xs := noLs) (i := c % 14) (s := s) (Int.emod_nonneg _ (by decide)) (Int.emod_lt_of_pos _ (by decide))
  have h := List.all_eq_true.mp noLs_ok d hd
  rw [Bool.and_eq_true] at h
  refine ⟨d, ?_, h.1, by simpa using h.2⟩
  unfold noLs at e
  simp [m__law_no_letters, bodyF, env0, sSeq, sSet, sIf, sRet, sRetN, sExpr, sPass, sRaise, sBad, eVar, eC, eTup, eLst, aCons, aNil, eCall, ar, DE.e2, eAnd, eOr, eNot, eIf, eNeg, tVal, tAndM, tOrM, tNotM, tYesM, eChain, isiD, tyOf, isTy, eM1, oNone, oSome, eCut, R.bind_ok, R.bind_exc, R.bindS_ok, R.bindS_exc, RS.bind_next, RS.bind_ret, RS.bind_exc, LINE, ofS_inj, ofS_ok, eqD_int, eqD_ss, inD3_ss, inD2_ss, modD_int, e]
theorem lets_str : ((List.range 26).all fun a => (List.range 12).all fun st => (List.range 4).all fun n => SM.cps.toList.any fun c => !(letsF a (n + 1) (st + 1)).cps.toList.contains c) = true := by decide +kernel
theorem lets_strange (c : Int) : ∃ g ∈ SM.cps.toList, g ∉ (lets c).cps.toList := by
  have h4 : 0 ≤ c % 4 ∧ c % 4 < 4 := ⟨Int.emod_nonneg _ (by decide), Int.emod_lt_of_pos _ (by decide)⟩
  have h12 : 0 ≤ c / 104 % 12 ∧ c / 104 % 12 < 12 := ⟨Int.emod_nonneg _ (by decide), Int.emod_lt_of_pos _ (by decide)⟩
  have h26 : 0 ≤ c / 4 % 26 ∧ c / 4 % 26 < 26 := ⟨Int.emod_nonneg _ (by decide), Int.emod_lt_of_pos _ (by decide)⟩
  have h := lets_str
  rw [List.all_eq_true] at h
  have h := h (c / 4 % 26).toNat (List.mem_range.mpr (by omega))
  rw [List.all_eq_true] at h
  have h := h (c / 104 % 12).toNat (List.mem_range.mpr (by omega))
  rw [List.all_eq_true] at h
  have h := h (c % 4).toNat (List.mem_range.mpr (by omega))
  rw [List.any_eq_true] at h
  obtain ⟨g, hg, h⟩ := h
  have e1 : (c % 4).toNat + 1 = (1 + c % 4).toNat := by omega
  have e2 : (c / 104 % 12).toNat + 1 = (1 + c / 104 % 12).toNat := by omega
  rw [e1, e2] at h
  exact ⟨g, hg, by unfold lets; simpa using h⟩
theorem SM_ok : strOk' SM = true := ofS_ok _
theorem ev_stranger {l : Str} (hx : ∃ g ∈ SM.cps.toList, g ∉ l.cps.toList) (k : Nat) (c : Int) (s : Store) : ∃ g, fns (k + 1) i__law_stranger [.str l, .int c] s = .ok (.str ⟨#[g]⟩) s ∧ g ∉ l.cps.toList ∧ g < 0x110000 := by
  rw [e__law_stranger]
  have e := fun (Z : Str) (hZ : Z.cps.toList.length ≤ 1000) => eLc_by (t := .one 3) (vs := [3]) (tt := (tVal (DE.e2 (inD true) (eVar 3) (eVar 0)))) (em := eVar 3) (im := itV' (eC (.str Z))) (env := [some (.str l), some (.int c), none, none]) (s := s) (fun g => .str ⟨#[g]⟩) (fun g => !decide (g ∈ l.cps.toList)) (fun g => .str ⟨#[g]⟩) Z.cps.toList (by simp [itV', bodyF, env0, sSeq, sSet, sIf, sRet, sRetN, sExpr, sPass, sRaise, sBad, eVar, eC, eTup, eLst, aCons, aNil, eCall, ar, DE.e2, eAnd, eOr, eNot, eIf, eNeg, tVal, tAndM, tOrM, tNotM, tYesM, eChain, isiD, tyOf, isTy, eM1, oNone, oSome, eCut, R.bind_ok, R.bind_exc, R.bindS_ok, R.bindS_exc, RS.bind_next, RS.bind_ret, RS.bind_exc, LINE, ofS_inj, ofS_ok, eqD_int, eqD_ss, inD3_ss, inD2_ss, DE.signs]) hZ (fun g hg => by
    refine ⟨_, rfl, ?_, fun _ => ?_⟩
    · simp [bodyF, env0, sSeq, sSet, sIf, sRet, sRetN, sExpr, sPass, sRaise, sBad, eVar, eC, eTup, eLst, aCons, aNil, eCall, ar, DE.e2, eAnd, eOr, eNot, eIf, eNeg, tVal, tAndM, tOrM, tNotM, tYesM, eChain, isiD, tyOf, isTy, eM1, oNone, oSome, eCut, R.bind_ok, R.bind_exc, R.bindS_ok, R.bindS_exc, RS.bind_next, RS.bind_ret, RS.bind_exc, LINE, ofS_inj, ofS_ok, eqD_int, eqD_ss, inD3_ss, inD2_ss, wipeE, inD]
    · simp [bodyF, env0, sSeq, sSet, sIf, sRet, sRetN, sExpr, sPass, sRaise, sBad, eVar, eC, eTup, eLst, aCons, aNil, eCall, ar, DE.e2, eAnd, eOr, eNot, eIf, eNeg, tVal, tAndM, tOrM, tNotM, tYesM, eChain, isiD, tyOf, isTy, eM1, oNone, oSome, eCut, R.bind_ok, R.bind_exc, R.bindS_ok, R.bindS_exc, RS.bind_next, RS.bind_ret, RS.bind_exc, LINE, ofS_inj, ofS_ok, eqD_int, eqD_ss, inD3_ss, inD2_ss, wipeE])
  have hl : SM.cps.toList.length = 26 := SM_len
  have e := e SM (by omega)
  obtain ⟨g0, hg0, hg1⟩ := hx
  have hne : 0 < ((SM.cps.toList.filter (fun g => !decide (g ∈ l.cps.toList))).map (fun g => D.str ⟨#[g]⟩)).length := by
    rw [List.length_map]
    exact List.length_pos_of_mem (List.mem_filter.mpr ⟨hg0, by simpa using hg1⟩)
  have hmem : ∀ x ∈ ((SM.cps.toList.filter (fun g => !decide (g ∈ l.cps.toList))).map (fun g => D.str ⟨#[g]⟩)), ∃ g, x = .str ⟨#[g]⟩ ∧ g ∉ l.cps.toList ∧ g < 0x110000 := fun x hx => by
    obtain ⟨g, hg, rfl⟩ := List.mem_map.mp hx
    obtain ⟨h1, h2⟩ := List.mem_filter.mp hg
    refine ⟨g, rfl, by simpa using h2, ?_⟩
    have := SM_ok
    unfold strOk' at this
    rw [← Array.all_toList, List.all_eq_true] at this
    simpa using this g h1
  generalize ((SM.cps.toList.filter (fun g => !decide (g ∈ l.cps.toList))).map (fun g => D.str ⟨#[g]⟩)) = Y at e hne hmem
  have em : modD (.int c) (.int (Y.length : Nat)) s = .ok (.int (c % (Y.length : Nat))) s := modD_int (by omega)
  obtain ⟨x, hx, ex⟩ := ixD_int (xs := Y) (i := c % (Y.length : Nat)) (s := s) (Int.emod_nonneg _ (by omega)) (Int.emod_lt_of_pos _ (by omega))
  obtain ⟨g, rfl, h1, h2⟩ := hmem x hx
  refine ⟨g, ?_, h1, h2⟩
  have es : Str.ofString "abcdefghijklmnopqrstuvwxyz" = SM := rfl
  simp only [m__law_stranger, es]
  generalize SM = Z at e
  simp [bodyF, env0, sSeq, sSet, sIf, sRet, sRetN, sExpr, sPass, sRaise, sBad, eVar, eC, eTup, eLst, aCons, aNil, eCall, ar, DE.e2, eAnd, eOr, eNot, eIf, eNeg, tVal, tAndM, tOrM, tNotM, tYesM, eChain, isiD, tyOf, isTy, eM1, oNone, oSome, eCut, R.bind_ok, R.bind_exc, R.bindS_ok, R.bindS_exc, RS.bind_next, RS.bind_ret, RS.bind_exc, LINE, ofS_inj, ofS_ok, eqD_int, eqD_ss, inD3_ss, inD2_ss, e, lenD_lst, em, ex]
/-! ### what is no pattern -/
theorem parts_toD {l : Str} (p : Pt) : parts l (toD p) = false := by
  cases p <;> simp [toD, parts, pats, pat]
structure Wrong (l : Str) (n : Nat) (d : D) : Prop where
  pl : pl d = true
  no : pat l d = false
  dep : depD d ≤ n
theorem let_SM {l : Str} (h : LetF l) : ∀ c ∈ l.cps.toList, c ∈ SM.cps.toList := fun c hc => by
  have := h.ok
  simp only [letOk, Bool.and_eq_true] at this
  have := List.all_eq_true.mp this.2 c hc
  rw [Bool.and_eq_true] at this
  exact of_decide_eq_true this.1
theorem A_no : 65 ∉ SM.cps.toList := by decide +kernel
theorem app_ok {a b : Str} (ha : strOk' a = true) (hb : strOk' b = true) : strOk' (a ++ b) = true := by
  unfold strOk' at *
  show (a.cps ++ b.cps).all _ = true
  rw [Array.all_append, ha, hb]
  rfl
theorem app_len (a b : Str) : (a ++ b).length = a.length + b.length := Array.size_append
/-- the twenty-seven -/
def noPs (l : Str) (P : D) (x g : Nat) : List D := [.tup [.str "none", .int 1], .tup [], .tup [.str "sign"], .tup [.str "sign", .str "A"], .tup [.str "sign", .str ⟨#[x]⟩], .tup [.str "sign", .str ""],
  .tup [.str "sign", .str (l ++ l)], .tup [.str "row", .tup [P]], .tup [.str "row", .lst [P, P]], .tup [.str "or", .tup []],
  .tup [.str "and", P], .tup [.str "many"], .tup [.str "many", P, P], .tup [.str "not", .non], .tup [.str "word", P],
  .str "empty", .non, .lst [.str "empty"], .int 5, .tup [.str "or", .tup [P, .non]], .tup [.str "empty", .tup []], .tup [.str "row", P, P],
  .tup [.str "sign", .int 5], .tup [.str "sign", .non], .tup [.str "sign", .lst [.str ⟨#[g]⟩]], .tup [.lst [.str "sign"], .str ⟨#[g]⟩], .tup [.dct [] [], .str ⟨#[g]⟩]]
theorem noPs_wrong {l : Str} (hL : LetF l) (p : Pt) (hp : okP l p = true) {x g : Nat} (hx : x ∉ l.cps.toList) (hx2 : x < 0x110000) (hg : g ∈ l.cps.toList) : ∀ d ∈ noPs l (toD p) x g, Wrong l (depD (toD p) + 3) d := by
  have h1 := pl_toD hL.sok p hp
  have h2 := parts_toD (l := l) p
  have h3 := hL.len
  have h4 := app_len l l
  have hg2 : pl (.str ⟨#[g]⟩) = true := by
    have := pl_toD hL.sok (.sg g) (by simp only [okP]; exact decide_eq_true hg)
    simp only [toD, pl.eq_1, pls, Bool.and_eq_true] at this
    exact this.2.2.1
  have hx3 : pl (.str ⟨#[x]⟩) = true := by simp [pl, strOk', hx2, sg_len]
  have hll : pl (.str (l ++ l)) = true := by
    simp only [pl, Bool.and_eq_true, decide_eq_true_eq]
    exact ⟨app_ok hL.sok hL.sok, by omega⟩
  have hw : ∀ w : String, w.toList.length ≤ 1000 → pl (.str (Str.ofString w)) = true := fun w h => by
    simp only [pl, Bool.and_eq_true, decide_eq_true_eq]
    refine ⟨ofS_ok w, ?_⟩
    show (Str.ofString w).cps.size ≤ 1000
    rw [ofS_list]
    simpa using h
  have hA : isSg l (.str (Str.ofString "A")) = false := by
    have e : (Str.ofString "A") = ⟨#[65]⟩ := by decide +kernel
    rw [e]
    have : 65 ∉ l.cps.toList := fun q => A_no (let_SM hL _ q)
    simp only [isSg]
    simpa [sg_len] using this
  have hX : isSg l (.str ⟨#[x]⟩) = false := by
    simp only [isSg]
    simpa [sg_len] using hx
  have hE : isSg l (.str (Str.ofString "")) = false := by
    have e : (Str.ofString "").length = 0 := by decide +kernel
    simp [isSg, e]
  have hLL : isSg l (.str (l ++ l)) = false := by
    have : ¬ (l ++ l).length = 1 := by omega
    simp [isSg, this]
  have hpos := dep_pos p
  have i1 : isSg l (.int 5) = false := rfl
  have i2 : isSg l .non = false := rfl
  have i3 : ∀ xs, isSg l (.lst xs) = false := fun _ => rfl
  intro d hd
  simp only [noPs, List.mem_cons, List.not_mem_nil, or_false] at hd
  generalize toD p = P at *
  generalize l ++ l = LL at *
  rcases hd with rfl | rfl | rfl | rfl | rfl | rfl | rfl | rfl | rfl | rfl | rfl | rfl | rfl | rfl | rfl | rfl | rfl | rfl | rfl | rfl | rfl | rfl | rfl | rfl | rfl | rfl | rfl <;>
    exact ⟨by simp [pl.eq_1, pl.eq_2, pl.eq_3, pl.eq_7, pl.eq_8, pl.eq_9, pls, hw, h1, hg2, hx3, hll], by simp [pat, patT, ofS_inj, pats, parts, partss, i1, i2, i3, hA, hX, hE, hLL, h2], by simp [depD, depDs]; try omega⟩
end G
/-! EVW: k01: what is asked, the law -/
namespace G
open PySem PySem.Spec PyProof.Rows L2 DE
theorem add_str {a b : Str} {s : Store} (h : a.length + b.length ≤ 1000) : addD (.str a) (.str b) s = .ok (.str (a ++ b)) s := by
  show (if a.length + b.length ≤ sizeLine then (R.ok (D.str (a ++ b)) s : R D) else .bad) = _
  rw [if_pos (Nat.le_trans h (by decide))]
theorem ev_no_pattern {l : Str} (hL : LetF l) (hS : ∃ g ∈ SM.cps.toList, g ∉ l.cps.toList) (k : Nat) (p : Pt) (hp : okP l p = true) (c : Int) (s : Store) : ∃ d, fns (k + 2) i__law_no_pattern [.str l, toD p, .int c] s = .ok d s ∧ Wrong l (depD (toD p) + 3) d := by
  rw [e__law_no_pattern]
  obtain ⟨x, ex, hx, hx2⟩ := ev_stranger hS k (c / 27) s
  have hl := hL.len
  obtain ⟨g, hg, eg⟩ := let_ix hL (i := 0) s (by decide) (by omega)
  obtain ⟨d, hd, e⟩ := ixD_int (xs := noPs l (toD p) x g) (i := c % 27) (s := s) (Int.emod_nonneg _ (by decide)) (Int.emod_lt_of_pos _ (by decide))
  refine ⟨d, ?_, noPs_wrong hL p hp hx hx2 hg d hd⟩
  have ea : addD (.str l) (.str l) s = .ok (.str (l ++ l)) s := add_str (by omega)
  unfold noPs at e
  generalize toD p = P at e
  generalize l ++ l = LL at e ea
  simp [m__law_no_pattern, bodyF, env0, sSeq, sSet, sIf, sRet, sRetN, sExpr, sPass, sRaise, sBad, eVar, eC, eTup, eLst, aCons, aNil, eCall, ar, DE.e2, eAnd, eOr, eNot, eIf, eNeg, tVal, tAndM, tOrM, tNotM, tYesM, eChain, isiD, tyOf, isTy, eM1, oNone, oSome, eCut, R.bind_ok, R.bind_exc, R.bindS_ok, R.bindS_exc, RS.bind_next, RS.bind_ret, RS.bind_exc, LINE, ofS_inj, ofS_ok, eqD_int, eqD_ss, inD3_ss, inD2_ss, modD_int, fdivD_int, ex, ea, eg, addD_lst, e]
theorem ev_about {l : Str} (k : Nat) {P d : D} {n : Nat} (hP : pl P = true) (hd : Wrong l (depD P + 3) d) (c : Int) (s : Store) : ∃ d', fns (k + 1) i__law_about [P, d, .int c] s = .ok d' s ∧ Wrong l (depD P + 5) d' := by
  rw [e__law_about]
  obtain ⟨w, ew⟩ := w3_ix (c % 3) s (Int.emod_nonneg _ (by decide)) (Int.emod_lt_of_pos _ (by decide))
  have hw : pl (.str (Str.ofString w.s)) = true := by cases w <;> simp only [pl, W3.s] <;> decide +kernel
  obtain ⟨d1, d2, d3⟩ := hd
  by_cases h1 : 2 < c % 6
  · refine ⟨d, ?_, d1, d2, by omega⟩
    simp [m__law_about, bodyF, env0, sSeq, sSet, sIf, sRet, sRetN, sExpr, sPass, sRaise, sBad, eVar, eC, eTup, eLst, aCons, aNil, eCall, ar, DE.e2, eAnd, eOr, eNot, eIf, eNeg, tVal, tAndM, tOrM, tNotM, tYesM, eChain, isiD, tyOf, isTy, eM1, oNone, oSome, eCut, R.bind_ok, R.bind_exc, R.bindS_ok, R.bindS_exc, RS.bind_next, RS.bind_ret, RS.bind_exc, LINE, ofS_inj, ofS_ok, eqD_int, eqD_ss, inD3_ss, inD2_ss, modD_int, gtD, cmpI, h1]
  · by_cases h2 : c / 6 % 2 = 1
    · refine ⟨.tup [.str (Str.ofString w.s), .tup [P, P, d]], ?_, ?_, ?_, ?_⟩
      · simp [m__law_about, bodyF, env0, sSeq, sSet, sIf, sRet, sRetN, sExpr, sPass, sRaise, sBad, eVar, eC, eTup, eLst, aCons, aNil, eCall, ar, DE.e2, eAnd, eOr, eNot, eIf, eNeg, tVal, tAndM, tOrM, tNotM, tYesM, eChain, isiD, tyOf, isTy, eM1, oNone, oSome, eCut, R.bind_ok, R.bind_exc, R.bindS_ok, R.bindS_exc, RS.bind_next, RS.bind_ret, RS.bind_exc, LINE, ofS_inj, ofS_ok, eqD_int, eqD_ss, inD3_ss, inD2_ss, modD_int, fdivD_int, gtD, cmpI, h1, h2, ew]
      · simp [pl.eq_1, pls, hw, hP, d1]
      · cases w <;> simp [pat, patT, partss, parts, pats, ofS_inj, W3.s, d2]
      · simp [depD, depDs]; omega
    · refine ⟨.tup [.str (Str.ofString w.s), .tup [d, P]], ?_, ?_, ?_, ?_⟩
      · simp [m__law_about, bodyF, env0, sSeq, sSet, sIf, sRet, sRetN, sExpr, sPass, sRaise, sBad, eVar, eC, eTup, eLst, aCons, aNil, eCall, ar, DE.e2, eAnd, eOr, eNot, eIf, eNeg, tVal, tAndM, tOrM, tNotM, tYesM, eChain, isiD, tyOf, isTy, eM1, oNone, oSome, eCut, R.bind_ok, R.bind_exc, R.bindS_ok, R.bindS_exc, RS.bind_next, RS.bind_ret, RS.bind_exc, LINE, ofS_inj, ofS_ok, eqD_int, eqD_ss, inD3_ss, inD2_ss, modD_int, fdivD_int, gtD, cmpI, h1, h2, ew]
      · simp [pl.eq_1, pls, hw, hP, d1]
      · cases w <;> simp [pat, patT, partss, parts, pats, ofS_inj, W3.s, d2]
      · simp [depD, depDs]; omega
/-! ### asked -/
theorem asked_exc {k : Nat} {lD d : D} {s : Store} {c : Nat} (w : Int) (hw : 1 ≤ w ∧ w ≤ 5) (h : fns (k + 1) i_need_pattern [lD, d] s = .exc c s) (h' : fns k i_need_pattern [lD, d] s = .exc c s)
    (h5 : fns k i_need_pattern [lD, toD .emp] s = .ok .non s ∨ fns k i_need_pattern [lD, toD .emp] s = .exc c s) : fns (k + 2) i__law_asked [.int w, lD, d] s = .exc c s := by
  rw [e__law_asked]
  have w5 : w = 1 ∨ w = 2 ∨ w = 3 ∨ w = 4 ∨ w = 5 := by omega
  have f2 : fns (k + 1) i_fits [lD, d, .non] s = .exc c s := by
    rw [e_fits]
    simp [m_fits, bodyF, env0, sSeq, sSet, sIf, sRet, sRetN, sExpr, sPass, sRaise, sBad, eVar, eC, eTup, eLst, aCons, aNil, eCall, ar, DE.e2, eAnd, eOr, eNot, eIf, eNeg, tVal, tAndM, tOrM, tNotM, tYesM, eChain, isiD, tyOf, isTy, eM1, oNone, oSome, eCut, R.bind_ok, R.bind_exc, R.bindS_ok, R.bindS_exc, RS.bind_next, RS.bind_ret, RS.bind_exc, LINE, ofS_inj, ofS_ok, eqD_int, eqD_ss, inD3_ss, inD2_ss, h']
  have f3 : fns (k + 1) i_machine_of [lD, d] s = .exc c s := by
    rw [e_machine_of]
    simp [m_machine_of, bodyF, env0, sSeq, sSet, sIf, sRet, sRetN, sExpr, sPass, sRaise, sBad, eVar, eC, eTup, eLst, aCons, aNil, eCall, ar, DE.e2, eAnd, eOr, eNot, eIf, eNeg, tVal, tAndM, tOrM, tNotM, tYesM, eChain, isiD, tyOf, isTy, eM1, oNone, oSome, eCut, R.bind_ok, R.bind_exc, R.bindS_ok, R.bindS_exc, RS.bind_next, RS.bind_ret, RS.bind_exc, LINE, ofS_inj, ofS_ok, eqD_int, eqD_ss, inD3_ss, inD2_ss, h']
  have f4 : fns (k + 1) i_told_alike [lD, d, .non] s = .exc c s := by
    rw [e_told_alike]
    simp [m_told_alike, bodyF, env0, sSeq, sSet, sIf, sRet, sRetN, sExpr, sPass, sRaise, sBad, eVar, eC, eTup, eLst, aCons, aNil, eCall, ar, DE.e2, eAnd, eOr, eNot, eIf, eNeg, tVal, tAndM, tOrM, tNotM, tYesM, eChain, isiD, tyOf, isTy, eM1, oNone, oSome, eCut, R.bind_ok, R.bind_exc, R.bindS_ok, R.bindS_exc, RS.bind_next, RS.bind_ret, RS.bind_exc, LINE, ofS_inj, ofS_ok, eqD_int, eqD_ss, inD3_ss, inD2_ss, h']
  have f5 : fns (k + 1) i_told_alike [lD, toD .emp, d] s = .exc c s := by
    rw [e_told_alike]
    rcases h5 with h5 | h5 <;> simp [m_told_alike, bodyF, env0, sSeq, sSet, sIf, sRet, sRetN, sExpr, sPass, sRaise, sBad, eVar, eC, eTup, eLst, aCons, aNil, eCall, ar, DE.e2, eAnd, eOr, eNot, eIf, eNeg, tVal, tAndM, tOrM, tNotM, tYesM, eChain, isiD, tyOf, isTy, eM1, oNone, oSome, eCut, R.bind_ok, R.bind_exc, R.bindS_ok, R.bindS_exc, RS.bind_next, RS.bind_ret, RS.bind_exc, LINE, ofS_inj, ofS_ok, eqD_int, eqD_ss, inD3_ss, inD2_ss, h', h5]
  simp only [toD] at f5
  rcases w5 with rfl | rfl | rfl | rfl | rfl <;> simp [m__law_asked, bodyF, env0, sSeq, sSet, sIf, sRet, sRetN, sExpr, sPass, sRaise, sBad, eVar, eC, eTup, eLst, aCons, aNil, eCall, ar, DE.e2, eAnd, eOr, eNot, eIf, eNeg, tVal, tAndM, tOrM, tNotM, tYesM, eChain, isiD, tyOf, isTy, eM1, oNone, oSome, eCut, R.bind_ok, R.bind_exc, R.bindS_ok, R.bindS_exc, RS.bind_next, RS.bind_ret, RS.bind_exc, LINE, ofS_inj, ofS_ok, eqD_int, eqD_ss, inD3_ss, inD2_ss, h, f2, f3, f4, f5]
theorem told_exc {k : Nat} {lD d : D} {s : Store} {c : Nat} (w : Int) (h1 : 1 ≤ c) (h5 : c ≤ 5) (h : fns k i__law_asked [.int w, lD, d] s = .exc c s) : fns (k + 1) i__law_told [.int w, lD, d] s = .ok (kindD c) s := by
  rw [e__law_told]
  simp [m__law_told, bodyF, env0, sSeq, sSet, sIf, sRet, sRetN, sExpr, sPass, sRaise, sBad, eVar, eC, eTup, eLst, aCons, aNil, eCall, ar, DE.e2, eAnd, eOr, eNot, eIf, eNeg, tVal, tAndM, tOrM, tNotM, tYesM, eChain, isiD, tyOf, isTy, eM1, oNone, oSome, eCut, R.bind_ok, R.bind_exc, R.bindS_ok, R.bindS_exc, RS.bind_next, RS.bind_ret, RS.bind_exc, LINE, ofS_inj, ofS_ok, eqD_int, eqD_ss, inD3_ss, inD2_ss, sTry, h, h1, h5]
theorem told_ok {k : Nat} {lD d v : D} {s : Store} (w : Int) (h : fns k i__law_asked [.int w, lD, d] s = .ok v s) : fns (k + 1) i__law_told [.int w, lD, d] s = .ok v s := by
  rw [e__law_told]
  simp [m__law_told, bodyF, env0, sSeq, sSet, sIf, sRet, sRetN, sExpr, sPass, sRaise, sBad, eVar, eC, eTup, eLst, aCons, aNil, eCall, ar, DE.e2, eAnd, eOr, eNot, eIf, eNeg, tVal, tAndM, tOrM, tNotM, tYesM, eChain, isiD, tyOf, isTy, eM1, oNone, oSome, eCut, R.bind_ok, R.bind_exc, R.bindS_ok, R.bindS_exc, RS.bind_next, RS.bind_ret, RS.bind_exc, LINE, ofS_inj, ofS_ok, eqD_int, eqD_ss, inD3_ss, inD2_ss, sTry, h]
theorem asked0 {k : Nat} {lD d : D} {s : Store} (hl : pl lD = true) : fns (k + 3) i__law_asked [.int 0, lD, d] s = if letOk lD then .ok .non s else .exc 1 s := by
  rw [e__law_asked]
  have := ev_need_l k lD s hl
  cases h : letOk lD <;> rw [h] at this <;> simp [m__law_asked, bodyF, env0, sSeq, sSet, sIf, sRet, sRetN, sExpr, sPass, sRaise, sBad, eVar, eC, eTup, eLst, aCons, aNil, eCall, ar, DE.e2, eAnd, eOr, eNot, eIf, eNeg, tVal, tAndM, tOrM, tNotM, tYesM, eChain, isiD, tyOf, isTy, eM1, oNone, oSome, eCut, R.bind_ok, R.bind_exc, R.bindS_ok, R.bindS_exc, RS.bind_next, RS.bind_ret, RS.bind_exc, LINE, ofS_inj, ofS_ok, eqD_int, eqD_ss, inD3_ss, inD2_ss, this]
theorem asked1 {k : Nat} {lD d : D} {s : Store} {r : R D} (h : fns k i_need_pattern [lD, d] s = r) : fns (k + 1) i__law_asked [.int 1, lD, d] s = r := by
  rw [e__law_asked]
  subst h
  cases h : fns k i_need_pattern [lD, d] s <;> simp [m__law_asked, bodyF, env0, sSeq, sSet, sIf, sRet, sRetN, sExpr, sPass, sRaise, sBad, eVar, eC, eTup, eLst, aCons, aNil, eCall, ar, DE.e2, eAnd, eOr, eNot, eIf, eNeg, tVal, tAndM, tOrM, tNotM, tYesM, eChain, isiD, tyOf, isTy, eM1, oNone, oSome, eCut, R.bind_ok, R.bind_exc, R.bindS_ok, R.bindS_exc, RS.bind_next, RS.bind_ret, RS.bind_exc, LINE, ofS_inj, ofS_ok, eqD_int, eqD_ss, inD3_ss, inD2_ss, h]
/-! ### the law -/
theorem law_true (ns : List Int) (s : Store) : fns 101 i_law [.scr ns] s = .ok (.bl true) s := by
  rw [e_law]
  have c0 : fns 100 i__law_cell_at [.scr ns, .int 0] s = .ok (.int (cellAt ns 0)) s := ev_cell 99 ns 0 s
  have c1 : fns 100 i__law_cell_at [.scr ns, .int 1] s = .ok (.int (cellAt ns 1)) s := ev_cell 99 ns 1 s
  have c2 : fns 100 i__law_cell_at [.scr ns, .int 2] s = .ok (.int (cellAt ns 2)) s := ev_cell 99 ns 2 s
  have eL := ev_letters 99 (cellAt ns 0) s
  have hL := lets_F (cellAt ns 0)
  have hS := lets_strange (cellAt ns 0)
  generalize cellAt ns 0 = x0 at *
  generalize lets x0 = l at *
  have cut : DE.cutD (.scr ns) (some 3) (some 23) s = .ok (.lst ((cutL ns (some 3) (some 23)).map D.int)) s := by
    show R.ok (D.lst (cutL (ns.map D.int) (some 3) (some 23))) s = _
    unfold cutL
    rw [List.length_map, ← List.map_drop, ← List.map_take]
  obtain ⟨p0, e1, hp0, hs0⟩ := ev_drawn hL 99 (cutL ns (some 3) (some 23)) s (by decide)
  generalize cutL ns (some 3) (some 23) = cs at *
  obtain ⟨p, e2, hp, hd⟩ := ev_grown hL 99 p0 (cellAt ns 1) s hp0 hs0 (by decide)
  generalize cellAt ns 1 = x1 at *
  have e3 := ev_size 100 p s hp (by omega)
  have e4 := ev_nodes 100 p s hp (by omega)
  have sl := hL.sok
  have hP := pl_toD sl p hp
  have e5 := ev_pat sl (depD (toD p)) 100 (toD p) s (Nat.le_refl _) (by omega) hP
  rw [pat_toD p hp] at e5
  have t0 : fns 100 i__law_told [.int 0, .str l, .non] s = .ok .non s := told_ok 0 (by rw [asked0 (k := 96) hL.pl, hL.ok]; rfl)
  have npk : ∀ k, 96 ≤ k → fns k i_need_pattern [.str l, toD p] s = if 60 < siz p then .exc 3 s else .ok .non s := fun k hk => np_ok hL.pl hL.ok hp (by omega)
  have npe : ∀ k, 96 ≤ k → fns k i_need_pattern [.str l, toD .emp] s = .ok .non s := fun k hk => by
    have := np_ok (k := k) (s := s) hL.pl hL.ok (p := .emp) rfl (by simp [toD, depD, depDs]; omega)
    rw [if_neg (by simp [siz])] at this
    exact this
  -- what is no pattern
  generalize cellAt ns 2 = x2 at *
  obtain ⟨w0, e6, hw0⟩ := ev_no_pattern hL hS 98 p hp (x2 / 12) s
  obtain ⟨w, e7, hw⟩ := ev_about (l := l) 99 (n := 0) hP hw0 x2 s
  have e8 := ev_pat sl (depD w) 100 w s (Nat.le_refl _) (by have := hw.dep; omega) hw.pl
  rw [hw.no] at e8
  have npw : ∀ k, 97 ≤ k → fns k i_need_pattern [.str l, w] s = .exc 2 s := fun k hk => np_pattern hL.pl hL.ok hw.pl hw.no (by have := hw.dep; omega)
  have way : 1 ≤ 1 + x2 / 7 % 5 ∧ 1 + x2 / 7 % 5 ≤ 5 := by
    have := Int.emod_nonneg (x2 / 7) (show (5 : Int) ≠ 0 by decide)
    have := Int.emod_lt_of_pos (x2 / 7) (show (0 : Int) < 5 by decide)
    omega
  generalize hq : 1 + x2 / 7 % 5 = q at way
  have tw : ∀ v : Int, 1 ≤ v ∧ v ≤ 5 → fns 100 i__law_told [.int v, .str l, w] s = .ok (kindD 2) s := fun v hv => told_exc v (by decide) (by decide) (asked_exc (k := 97) v hv (npw _ (by decide)) (npw _ (by decide)) (.inl (npe _ (by decide))))
  -- what are no letters
  obtain ⟨n0, e9, hn1, hn2⟩ := ev_no_letters 99 x2 s
  have npn : ∀ (k : Nat) (d : D), 3 ≤ k → fns k i_need_pattern [n0, d] s = .exc 1 s := fun k d hk => np_letters hn1 hn2 hk
  have tn0 : fns 100 i__law_told [.int 0, n0, .non] s = .ok (kindD 1) s := told_exc 0 (by decide) (by decide) (by rw [asked0 (k := 96) hn1, hn2]; rfl)
  have tn : ∀ (v : Int) (d : D), 1 ≤ v ∧ v ≤ 5 → fns 100 i__law_told [.int v, n0, d] s = .ok (kindD 1) s := fun v d hv => told_exc v (by decide) (by decide) (asked_exc (k := 97) v hv (npn _ _ (by decide)) (npn _ _ (by decide)) (.inr (npn _ _ (by decide))))
  obtain ⟨th, eth⟩ : ∃ d, ixD (.lst [w, toD p]) (.int (x2 / 14 % 2)) s = .ok d s := ⟨_, ix2 _ _ _ _ (Int.emod_nonneg _ (by decide)) (Int.emod_lt_of_pos _ (by decide))⟩
  obtain ⟨tx, etx⟩ : ∃ d, ixD (.lst [.non, .str (Str.ofString "a")]) (.int (x2 % 2)) s = .ok d s := ⟨_, ix2 _ _ _ _ (Int.emod_nonneg _ (by decide)) (Int.emod_lt_of_pos _ (by decide))⟩
  have er : fns 100 i__law_read [n0, tx] s = .ok (kindD 1) s := by
    have f : fns 99 i_read [n0, tx] s = .exc 1 s := by
      have := ev_need_l 96 n0 s hn1
      rw [hn2] at this
      rw [e_read]
      simp [m_read, bodyF, env0, sSeq, sSet, sIf, sRet, sRetN, sExpr, sPass, sRaise, sBad, eVar, eC, eTup, eLst, aCons, aNil, eCall, ar, DE.e2, eAnd, eOr, eNot, eIf, eNeg, tVal, tAndM, tOrM, tNotM, tYesM, eChain, isiD, tyOf, isTy, eM1, oNone, oSome, eCut, R.bind_ok, R.bind_exc, R.bindS_ok, R.bindS_exc, RS.bind_next, RS.bind_ret, RS.bind_exc, LINE, ofS_inj, ofS_ok, eqD_int, eqD_ss, inD3_ss, inD2_ss, this]
    rw [e__law_read]
    simp [m__law_read, bodyF, env0, sSeq, sSet, sIf, sRet, sRetN, sExpr, sPass, sRaise, sBad, eVar, eC, eTup, eLst, aCons, aNil, eCall, ar, DE.e2, eAnd, eOr, eNot, eIf, eNeg, tVal, tAndM, tOrM, tNotM, tYesM, eChain, isiD, tyOf, isTy, eM1, oNone, oSome, eCut, R.bind_ok, R.bind_exc, R.bindS_ok, R.bindS_exc, RS.bind_next, RS.bind_ret, RS.bind_exc, LINE, ofS_inj, ofS_ok, eqD_int, eqD_ss, inD3_ss, inD2_ss, sTry, f]
  have q1 : kindD 1 = .lst [.str (Str.ofString "letters")] := rfl
  have q2 : kindD 2 = .lst [.str (Str.ofString "pattern")] := rfl
  have q3 : kindD 3 = .lst [.str (Str.ofString "great")] := rfl
  simp only [show (99 + 1 : Nat) = 100 from rfl, show (98 + 2 : Nat) = 100 from rfl] at eL e1 e2 e6 e7 e9
  rw [q1] at tn0 tn er
  rw [q2] at tw
  have n1 := tn 1 th (by decide)
  have nq := tn q th way
  have w1 := tw 1 (by decide)
  have wq := tw q way
  clear tn tw npn npw hS hP
  by_cases big : 60 < siz p
  · have big' : (60 : Int) < (siz p : Nat) := by omega
    have tp : ∀ v : Int, 1 ≤ v ∧ v ≤ 5 → fns 100 i__law_told [.int v, .str l, toD p] s = .ok (kindD 3) s := fun v hv => told_exc v (by decide) (by decide) (asked_exc (k := 97) v hv (by rw [npk 98 (by decide), if_pos big]) (by rw [npk 97 (by decide), if_pos big]) (.inl (npe 97 (by decide))))
    rw [q3] at tp
    have p1 := tp 1 (by decide)
    have pq := tp q way
    clear tp npk npe
    generalize toD p = P at *
    generalize fns 100 = call at *
    refine body_ret ?_
    unfold m_law
    refine seq_ret (env1 := [some (.scr ns), some (.str l), none, none, none, none, none, none, none, none, none]) (s1 := s) (by simp [bodyF, env0, sSeq, sSet, sIf, sRet, sRetN, sExpr, sPass, sRaise, sBad, eVar, eC, eTup, eLst, aCons, aNil, eCall, ar, DE.e2, eAnd, eOr, eNot, eIf, eNeg, tVal, tAndM, tOrM, tNotM, tYesM, eChain, isiD, tyOf, isTy, eM1, oNone, oSome, eCut, R.bind_ok, R.bind_exc, R.bindS_ok, R.bindS_exc, RS.bind_next, RS.bind_ret, RS.bind_exc, LINE, ofS_inj, ofS_ok, eqD_int, eqD_ss, inD3_ss, inD2_ss, c0, eL]) ?_
    refine seq_ret (env1 := [some (.scr ns), some (.str l), some (P), none, none, none, none, none, none, none, none]) (s1 := s) (by simp [bodyF, env0, sSeq, sSet, sIf, sRet, sRetN, sExpr, sPass, sRaise, sBad, eVar, eC, eTup, eLst, aCons, aNil, eCall, ar, DE.e2, eAnd, eOr, eNot, eIf, eNeg, tVal, tAndM, tOrM, tNotM, tYesM, eChain, isiD, tyOf, isTy, eM1, oNone, oSome, eCut, R.bind_ok, R.bind_exc, R.bindS_ok, R.bindS_exc, RS.bind_next, RS.bind_ret, RS.bind_exc, LINE, ofS_inj, ofS_ok, eqD_int, eqD_ss, inD3_ss, inD2_ss, c1, cut, e1, e2]) ?_
    refine seq_ret (env1 := [some (.scr ns), some (.str l), some (P), some (.int (siz p : Nat)), none, none, none, none, none, none, none]) (s1 := s) (by simp [bodyF, env0, sSeq, sSet, sIf, sRet, sRetN, sExpr, sPass, sRaise, sBad, eVar, eC, eTup, eLst, aCons, aNil, eCall, ar, DE.e2, eAnd, eOr, eNot, eIf, eNeg, tVal, tAndM, tOrM, tNotM, tYesM, eChain, isiD, tyOf, isTy, eM1, oNone, oSome, eCut, R.bind_ok, R.bind_exc, R.bindS_ok, R.bindS_exc, RS.bind_next, RS.bind_ret, RS.bind_exc, LINE, ofS_inj, ofS_ok, eqD_int, eqD_ss, inD3_ss, inD2_ss, e3]) ?_
    refine seq_ret (env1 := [some (.scr ns), some (.str l), some (P), some (.int (siz p : Nat)), some (.int (siz p : Nat)), none, none, none, none, none, none]) (s1 := s) (by simp [bodyF, env0, sSeq, sSet, sIf, sRet, sRetN, sExpr, sPass, sRaise, sBad, eVar, eC, eTup, eLst, aCons, aNil, eCall, ar, DE.e2, eAnd, eOr, eNot, eIf, eNeg, tVal, tAndM, tOrM, tNotM, tYesM, eChain, isiD, tyOf, isTy, eM1, oNone, oSome, eCut, R.bind_ok, R.bind_exc, R.bindS_ok, R.bindS_exc, RS.bind_next, RS.bind_ret, RS.bind_exc, LINE, ofS_inj, ofS_ok, eqD_int, eqD_ss, inD3_ss, inD2_ss, e4]) ?_
    refine seq_ret (env1 := [some (.scr ns), some (.str l), some (P), some (.int (siz p : Nat)), some (.int (siz p : Nat)), none, none, none, none, none, none]) (s1 := s) (by simp [bodyF, env0, sSeq, sSet, sIf, sRet, sRetN, sExpr, sPass, sRaise, sBad, eVar, eC, eTup, eLst, aCons, aNil, eCall, ar, DE.e2, eAnd, eOr, eNot, eIf, eNeg, tVal, tAndM, tOrM, tNotM, tYesM, eChain, isiD, tyOf, isTy, eM1, oNone, oSome, eCut, R.bind_ok, R.bind_exc, R.bindS_ok, R.bindS_exc, RS.bind_next, RS.bind_ret, RS.bind_exc, LINE, ofS_inj, ofS_ok, eqD_int, eqD_ss, inD3_ss, inD2_ss, eqD_int]) ?_
    refine seq_ret (env1 := [some (.scr ns), some (.str l), some (P), some (.int (siz p : Nat)), some (.int (siz p : Nat)), none, none, none, none, none, none]) (s1 := s) (by simp [bodyF, env0, sSeq, sSet, sIf, sRet, sRetN, sExpr, sPass, sRaise, sBad, eVar, eC, eTup, eLst, aCons, aNil, eCall, ar, DE.e2, eAnd, eOr, eNot, eIf, eNeg, tVal, tAndM, tOrM, tNotM, tYesM, eChain, isiD, tyOf, isTy, eM1, oNone, oSome, eCut, R.bind_ok, R.bind_exc, R.bindS_ok, R.bindS_exc, RS.bind_next, RS.bind_ret, RS.bind_exc, LINE, ofS_inj, ofS_ok, eqD_int, eqD_ss, inD3_ss, inD2_ss, e5, isnD_true]) ?_
    refine seq_ret (env1 := [some (.scr ns), some (.str l), some (P), some (.int (siz p : Nat)), some (.int (siz p : Nat)), none, none, none, none, none, none]) (s1 := s) (by simp [bodyF, env0, sSeq, sSet, sIf, sRet, sRetN, sExpr, sPass, sRaise, sBad, eVar, eC, eTup, eLst, aCons, aNil, eCall, ar, DE.e2, eAnd, eOr, eNot, eIf, eNeg, tVal, tAndM, tOrM, tNotM, tYesM, eChain, isiD, tyOf, isTy, eM1, oNone, oSome, eCut, R.bind_ok, R.bind_exc, R.bindS_ok, R.bindS_exc, RS.bind_next, RS.bind_ret, RS.bind_exc, LINE, ofS_inj, ofS_ok, eqD_int, eqD_ss, inD3_ss, inD2_ss, t0, isD, isNon]) ?_
    refine seq_ret (env1 := [some (.scr ns), some (.str l), some (P), some (.int (siz p : Nat)), some (.int (siz p : Nat)), some (.non), none, none, none, none, none]) (s1 := s) (by simp [bodyF, env0, sSeq, sSet, sIf, sRet, sRetN, sExpr, sPass, sRaise, sBad, eVar, eC, eTup, eLst, aCons, aNil, eCall, ar, DE.e2, eAnd, eOr, eNot, eIf, eNeg, tVal, tAndM, tOrM, tNotM, tYesM, eChain, isiD, tyOf, isTy, eM1, oNone, oSome, eCut, R.bind_ok, R.bind_exc, R.bindS_ok, R.bindS_exc, RS.bind_next, RS.bind_ret, RS.bind_exc, LINE, ofS_inj, ofS_ok, eqD_int, eqD_ss, inD3_ss, inD2_ss, eqD_int]) ?_
    refine seq_ret (env1 := [some (.scr ns), some (.str l), some (P), some (.int (siz p : Nat)), some (.int (siz p : Nat)), some (.lst [.str (Str.ofString "great")]), none, none, none, none, none]) (s1 := s) (by simp [bodyF, env0, sSeq, sSet, sIf, sRet, sRetN, sExpr, sPass, sRaise, sBad, eVar, eC, eTup, eLst, aCons, aNil, eCall, ar, DE.e2, eAnd, eOr, eNot, eIf, eNeg, tVal, tAndM, tOrM, tNotM, tYesM, eChain, isiD, tyOf, isTy, eM1, oNone, oSome, eCut, R.bind_ok, R.bind_exc, R.bindS_ok, R.bindS_exc, RS.bind_next, RS.bind_ret, RS.bind_exc, LINE, ofS_inj, ofS_ok, eqD_int, eqD_ss, inD3_ss, inD2_ss, gtD, cmpI, big']) ?_
    refine seq_ret (env1 := [some (.scr ns), some (.str l), some (P), some (.int (siz p : Nat)), some (.int (siz p : Nat)), some (.lst [.str (Str.ofString "great")]), none, none, none, none, none]) (s1 := s) (by simp [bodyF, env0, sSeq, sSet, sIf, sRet, sRetN, sExpr, sPass, sRaise, sBad, eVar, eC, eTup, eLst, aCons, aNil, eCall, ar, DE.e2, eAnd, eOr, eNot, eIf, eNeg, tVal, tAndM, tOrM, tNotM, tYesM, eChain, isiD, tyOf, isTy, eM1, oNone, oSome, eCut, R.bind_ok, R.bind_exc, R.bindS_ok, R.bindS_exc, RS.bind_next, RS.bind_ret, RS.bind_exc, LINE, ofS_inj, ofS_ok, eqD_int, eqD_ss, inD3_ss, inD2_ss, p1, eqD_kind, eqD_non]) ?_
    refine seq_ret (env1 := [some (.scr ns), some (.str l), some (P), some (.int (siz p : Nat)), some (.int (siz p : Nat)), some (.lst [.str (Str.ofString "great")]), some (.int x2), none, none, none, none]) (s1 := s) (by simp [bodyF, env0, sSeq, sSet, sIf, sRet, sRetN, sExpr, sPass, sRaise, sBad, eVar, eC, eTup, eLst, aCons, aNil, eCall, ar, DE.e2, eAnd, eOr, eNot, eIf, eNeg, tVal, tAndM, tOrM, tNotM, tYesM, eChain, isiD, tyOf, isTy, eM1, oNone, oSome, eCut, R.bind_ok, R.bind_exc, R.bindS_ok, R.bindS_exc, RS.bind_next, RS.bind_ret, RS.bind_exc, LINE, ofS_inj, ofS_ok, eqD_int, eqD_ss, inD3_ss, inD2_ss, c2]) ?_
    refine seq_ret (env1 := [some (.scr ns), some (.str l), some (P), some (.int (siz p : Nat)), some (.int (siz p : Nat)), some (.lst [.str (Str.ofString "great")]), some (.int x2), some (.int q), none, none, none]) (s1 := s) (by simp [bodyF, env0, sSeq, sSet, sIf, sRet, sRetN, sExpr, sPass, sRaise, sBad, eVar, eC, eTup, eLst, aCons, aNil, eCall, ar, DE.e2, eAnd, eOr, eNot, eIf, eNeg, tVal, tAndM, tOrM, tNotM, tYesM, eChain, isiD, tyOf, isTy, eM1, oNone, oSome, eCut, R.bind_ok, R.bind_exc, R.bindS_ok, R.bindS_exc, RS.bind_next, RS.bind_ret, RS.bind_exc, LINE, ofS_inj, ofS_ok, eqD_int, eqD_ss, inD3_ss, inD2_ss, modD_int, fdivD_int, addD_int, hq]) ?_
    refine seq_ret (env1 := [some (.scr ns), some (.str l), some (P), some (.int (siz p : Nat)), some (.int (siz p : Nat)), some (.lst [.str (Str.ofString "great")]), some (.int x2), some (.int q), none, none, none]) (s1 := s) (by simp [bodyF, env0, sSeq, sSet, sIf, sRet, sRetN, sExpr, sPass, sRaise, sBad, eVar, eC, eTup, eLst, aCons, aNil, eCall, ar, DE.e2, eAnd, eOr, eNot, eIf, eNeg, tVal, tAndM, tOrM, tNotM, tYesM, eChain, isiD, tyOf, isTy, eM1, oNone, oSome, eCut, R.bind_ok, R.bind_exc, R.bindS_ok, R.bindS_exc, RS.bind_next, RS.bind_ret, RS.bind_exc, LINE, ofS_inj, ofS_ok, eqD_int, eqD_ss, inD3_ss, inD2_ss, gtD, cmpI, big', eqD_kind, pq]) ?_
    refine seq_ret (env1 := [some (.scr ns), some (.str l), some (P), some (.int (siz p : Nat)), some (.int (siz p : Nat)), some (.lst [.str (Str.ofString "great")]), some (.int x2), some (.int q), some (w), none, none]) (s1 := s) (by simp [bodyF, env0, sSeq, sSet, sIf, sRet, sRetN, sExpr, sPass, sRaise, sBad, eVar, eC, eTup, eLst, aCons, aNil, eCall, ar, DE.e2, eAnd, eOr, eNot, eIf, eNeg, tVal, tAndM, tOrM, tNotM, tYesM, eChain, isiD, tyOf, isTy, eM1, oNone, oSome, eCut, R.bind_ok, R.bind_exc, R.bindS_ok, R.bindS_exc, RS.bind_next, RS.bind_ret, RS.bind_exc, LINE, ofS_inj, ofS_ok, eqD_int, eqD_ss, inD3_ss, inD2_ss, fdivD_int, e6, e7]) ?_
    refine seq_ret (env1 := [some (.scr ns), some (.str l), some (P), some (.int (siz p : Nat)), some (.int (siz p : Nat)), some (.lst [.str (Str.ofString "great")]), some (.int x2), some (.int q), some (w), none, none]) (s1 := s) (by simp [bodyF, env0, sSeq, sSet, sIf, sRet, sRetN, sExpr, sPass, sRaise, sBad, eVar, eC, eTup, eLst, aCons, aNil, eCall, ar, DE.e2, eAnd, eOr, eNot, eIf, eNeg, tVal, tAndM, tOrM, tNotM, tYesM, eChain, isiD, tyOf, isTy, eM1, oNone, oSome, eCut, R.bind_ok, R.bind_exc, R.bindS_ok, R.bindS_exc, RS.bind_next, RS.bind_ret, RS.bind_exc, LINE, ofS_inj, ofS_ok, eqD_int, eqD_ss, inD3_ss, inD2_ss, e8, w1, isnD_false, eqD_kind]) ?_
    refine seq_ret (env1 := [some (.scr ns), some (.str l), some (P), some (.int (siz p : Nat)), some (.int (siz p : Nat)), some (.lst [.str (Str.ofString "great")]), some (.int x2), some (.int q), some (w), none, none]) (s1 := s) (by simp [bodyF, env0, sSeq, sSet, sIf, sRet, sRetN, sExpr, sPass, sRaise, sBad, eVar, eC, eTup, eLst, aCons, aNil, eCall, ar, DE.e2, eAnd, eOr, eNot, eIf, eNeg, tVal, tAndM, tOrM, tNotM, tYesM, eChain, isiD, tyOf, isTy, eM1, oNone, oSome, eCut, R.bind_ok, R.bind_exc, R.bindS_ok, R.bindS_exc, RS.bind_next, RS.bind_ret, RS.bind_exc, LINE, ofS_inj, ofS_ok, eqD_int, eqD_ss, inD3_ss, inD2_ss, wq, eqD_kind]) ?_
    refine seq_ret (env1 := [some (.scr ns), some (.str l), some (P), some (.int (siz p : Nat)), some (.int (siz p : Nat)), some (.lst [.str (Str.ofString "great")]), some (.int x2), some (.int q), some (w), some (n0), none]) (s1 := s) (by simp [bodyF, env0, sSeq, sSet, sIf, sRet, sRetN, sExpr, sPass, sRaise, sBad, eVar, eC, eTup, eLst, aCons, aNil, eCall, ar, DE.e2, eAnd, eOr, eNot, eIf, eNeg, tVal, tAndM, tOrM, tNotM, tYesM, eChain, isiD, tyOf, isTy, eM1, oNone, oSome, eCut, R.bind_ok, R.bind_exc, R.bindS_ok, R.bindS_exc, RS.bind_next, RS.bind_ret, RS.bind_exc, LINE, ofS_inj, ofS_ok, eqD_int, eqD_ss, inD3_ss, inD2_ss, e9]) ?_
    refine seq_ret (env1 := [some (.scr ns), some (.str l), some (P), some (.int (siz p : Nat)), some (.int (siz p : Nat)), some (.lst [.str (Str.ofString "great")]), some (.int x2), some (.int q), some (w), some (n0), some (th)]) (s1 := s) (by simp [bodyF, env0, sSeq, sSet, sIf, sRet, sRetN, sExpr, sPass, sRaise, sBad, eVar, eC, eTup, eLst, aCons, aNil, eCall, ar, DE.e2, eAnd, eOr, eNot, eIf, eNeg, tVal, tAndM, tOrM, tNotM, tYesM, eChain, isiD, tyOf, isTy, eM1, oNone, oSome, eCut, R.bind_ok, R.bind_exc, R.bindS_ok, R.bindS_exc, RS.bind_next, RS.bind_ret, RS.bind_exc, LINE, ofS_inj, ofS_ok, eqD_int, eqD_ss, inD3_ss, inD2_ss, modD_int, fdivD_int, eth]) ?_
    refine seq_ret (env1 := [some (.scr ns), some (.str l), some (P), some (.int (siz p : Nat)), some (.int (siz p : Nat)), some (.lst [.str (Str.ofString "great")]), some (.int x2), some (.int q), some (w), some (n0), some (th)]) (s1 := s) (by simp [bodyF, env0, sSeq, sSet, sIf, sRet, sRetN, sExpr, sPass, sRaise, sBad, eVar, eC, eTup, eLst, aCons, aNil, eCall, ar, DE.e2, eAnd, eOr, eNot, eIf, eNeg, tVal, tAndM, tOrM, tNotM, tYesM, eChain, isiD, tyOf, isTy, eM1, oNone, oSome, eCut, R.bind_ok, R.bind_exc, R.bindS_ok, R.bindS_exc, RS.bind_next, RS.bind_ret, RS.bind_exc, LINE, ofS_inj, ofS_ok, eqD_int, eqD_ss, inD3_ss, inD2_ss, tn0, n1, eqD_kind]) ?_
    simp [bodyF, env0, sSeq, sSet, sIf, sRet, sRetN, sExpr, sPass, sRaise, sBad, eVar, eC, eTup, eLst, aCons, aNil, eCall, ar, DE.e2, eAnd, eOr, eNot, eIf, eNeg, tVal, tAndM, tOrM, tNotM, tYesM, eChain, isiD, tyOf, isTy, eM1, oNone, oSome, eCut, R.bind_ok, R.bind_exc, R.bindS_ok, R.bindS_exc, RS.bind_next, RS.bind_ret, RS.bind_exc, LINE, ofS_inj, ofS_ok, eqD_int, eqD_ss, inD3_ss, inD2_ss, nq, er, etx, modD_int, eqD_kind]
  · have big' : ¬ (60 : Int) < (siz p : Nat) := by omega
    have p1 : fns 100 i__law_told [.int 1, .str l, toD p] s = .ok .non s := told_ok 1 (asked1 (k := 98) (by rw [npk 98 (by decide), if_neg big]))
    clear npk npe
    generalize toD p = P at *
    generalize fns 100 = call at *
    refine body_ret ?_
    unfold m_law
    refine seq_ret (env1 := [some (.scr ns), some (.str l), none, none, none, none, none, none, none, none, none]) (s1 := s) (by simp [bodyF, env0, sSeq, sSet, sIf, sRet, sRetN, sExpr, sPass, sRaise, sBad, eVar, eC, eTup, eLst, aCons, aNil, eCall, ar, DE.e2, eAnd, eOr, eNot, eIf, eNeg, tVal, tAndM, tOrM, tNotM, tYesM, eChain, isiD, tyOf, isTy, eM1, oNone, oSome, eCut, R.bind_ok, R.bind_exc, R.bindS_ok, R.bindS_exc, RS.bind_next, RS.bind_ret, RS.bind_exc, LINE, ofS_inj, ofS_ok, eqD_int, eqD_ss, inD3_ss, inD2_ss, c0, eL]) ?_
    refine seq_ret (env1 := [some (.scr ns), some (.str l), some (P), none, none, none, none, none, none, none, none]) (s1 := s) (by simp [bodyF, env0, sSeq, sSet, sIf, sRet, sRetN, sExpr, sPass, sRaise, sBad, eVar, eC, eTup, eLst, aCons, aNil, eCall, ar, DE.e2, eAnd, eOr, eNot, eIf, eNeg, tVal, tAndM, tOrM, tNotM, tYesM, eChain, isiD, tyOf, isTy, eM1, oNone, oSome, eCut, R.bind_ok, R.bind_exc, R.bindS_ok, R.bindS_exc, RS.bind_next, RS.bind_ret, RS.bind_exc, LINE, ofS_inj, ofS_ok, eqD_int, eqD_ss, inD3_ss, inD2_ss, c1, cut, e1, e2]) ?_
    refine seq_ret (env1 := [some (.scr ns), some (.str l), some (P), some (.int (siz p : Nat)), none, none, none, none, none, none, none]) (s1 := s) (by simp [bodyF, env0, sSeq, sSet, sIf, sRet, sRetN, sExpr, sPass, sRaise, sBad, eVar, eC, eTup, eLst, aCons, aNil, eCall, ar, DE.e2, eAnd, eOr, eNot, eIf, eNeg, tVal, tAndM, tOrM, tNotM, tYesM, eChain, isiD, tyOf, isTy, eM1, oNone, oSome, eCut, R.bind_ok, R.bind_exc, R.bindS_ok, R.bindS_exc, RS.bind_next, RS.bind_ret, RS.bind_exc, LINE, ofS_inj, ofS_ok, eqD_int, eqD_ss, inD3_ss, inD2_ss, e3]) ?_
    refine seq_ret (env1 := [some (.scr ns), some (.str l), some (P), some (.int (siz p : Nat)), some (.int (siz p : Nat)), none, none, none, none, none, none]) (s1 := s) (by simp [bodyF, env0, sSeq, sSet, sIf, sRet, sRetN, sExpr, sPass, sRaise, sBad, eVar, eC, eTup, eLst, aCons, aNil, eCall, ar, DE.e2, eAnd, eOr, eNot, eIf, eNeg, tVal, tAndM, tOrM, tNotM, tYesM, eChain, isiD, tyOf, isTy, eM1, oNone, oSome, eCut, R.bind_ok, R.bind_exc, R.bindS_ok, R.bindS_exc, RS.bind_next, RS.bind_ret, RS.bind_exc, LINE, ofS_inj, ofS_ok, eqD_int, eqD_ss, inD3_ss, inD2_ss, e4]) ?_
    refine seq_ret (env1 := [some (.scr ns), some (.str l), some (P), some (.int (siz p : Nat)), some (.int (siz p : Nat)), none, none, none, none, none, none]) (s1 := s) (by simp [bodyF, env0, sSeq, sSet, sIf, sRet, sRetN, sExpr, sPass, sRaise, sBad, eVar, eC, eTup, eLst, aCons, aNil, eCall, ar, DE.e2, eAnd, eOr, eNot, eIf, eNeg, tVal, tAndM, tOrM, tNotM, tYesM, eChain, isiD, tyOf, isTy, eM1, oNone, oSome, eCut, R.bind_ok, R.bind_exc, R.bindS_ok, R.bindS_exc, RS.bind_next, RS.bind_ret, RS.bind_exc, LINE, ofS_inj, ofS_ok, eqD_int, eqD_ss, inD3_ss, inD2_ss, eqD_int]) ?_
    refine seq_ret (env1 := [some (.scr ns), some (.str l), some (P), some (.int (siz p : Nat)), some (.int (siz p : Nat)), none, none, none, none, none, none]) (s1 := s) (by simp [bodyF, env0, sSeq, sSet, sIf, sRet, sRetN, sExpr, sPass, sRaise, sBad, eVar, eC, eTup, eLst, aCons, aNil, eCall, ar, DE.e2, eAnd, eOr, eNot, eIf, eNeg, tVal, tAndM, tOrM, tNotM, tYesM, eChain, isiD, tyOf, isTy, eM1, oNone, oSome, eCut, R.bind_ok, R.bind_exc, R.bindS_ok, R.bindS_exc, RS.bind_next, RS.bind_ret, RS.bind_exc, LINE, ofS_inj, ofS_ok, eqD_int, eqD_ss, inD3_ss, inD2_ss, e5, isnD_true]) ?_
    refine seq_ret (env1 := [some (.scr ns), some (.str l), some (P), some (.int (siz p : Nat)), some (.int (siz p : Nat)), none, none, none, none, none, none]) (s1 := s) (by simp [bodyF, env0, sSeq, sSet, sIf, sRet, sRetN, sExpr, sPass, sRaise, sBad, eVar, eC, eTup, eLst, aCons, aNil, eCall, ar, DE.e2, eAnd, eOr, eNot, eIf, eNeg, tVal, tAndM, tOrM, tNotM, tYesM, eChain, isiD, tyOf, isTy, eM1, oNone, oSome, eCut, R.bind_ok, R.bind_exc, R.bindS_ok, R.bindS_exc, RS.bind_next, RS.bind_ret, RS.bind_exc, LINE, ofS_inj, ofS_ok, eqD_int, eqD_ss, inD3_ss, inD2_ss, t0, isD, isNon]) ?_
    refine seq_ret (env1 := [some (.scr ns), some (.str l), some (P), some (.int (siz p : Nat)), some (.int (siz p : Nat)), some (.non), none, none, none, none, none]) (s1 := s) (by simp [bodyF, env0, sSeq, sSet, sIf, sRet, sRetN, sExpr, sPass, sRaise, sBad, eVar, eC, eTup, eLst, aCons, aNil, eCall, ar, DE.e2, eAnd, eOr, eNot, eIf, eNeg, tVal, tAndM, tOrM, tNotM, tYesM, eChain, isiD, tyOf, isTy, eM1, oNone, oSome, eCut, R.bind_ok, R.bind_exc, R.bindS_ok, R.bindS_exc, RS.bind_next, RS.bind_ret, RS.bind_exc, LINE, ofS_inj, ofS_ok, eqD_int, eqD_ss, inD3_ss, inD2_ss, eqD_int]) ?_
    refine seq_ret (env1 := [some (.scr ns), some (.str l), some (P), some (.int (siz p : Nat)), some (.int (siz p : Nat)), some (.non), none, none, none, none, none]) (s1 := s) (by simp [bodyF, env0, sSeq, sSet, sIf, sRet, sRetN, sExpr, sPass, sRaise, sBad, eVar, eC, eTup, eLst, aCons, aNil, eCall, ar, DE.e2, eAnd, eOr, eNot, eIf, eNeg, tVal, tAndM, tOrM, tNotM, tYesM, eChain, isiD, tyOf, isTy, eM1, oNone, oSome, eCut, R.bind_ok, R.bind_exc, R.bindS_ok, R.bindS_exc, RS.bind_next, RS.bind_ret, RS.bind_exc, LINE, ofS_inj, ofS_ok, eqD_int, eqD_ss, inD3_ss, inD2_ss, gtD, cmpI, big']) ?_
    refine seq_ret (env1 := [some (.scr ns), some (.str l), some (P), some (.int (siz p : Nat)), some (.int (siz p : Nat)), some (.non), none, none, none, none, none]) (s1 := s) (by simp [bodyF, env0, sSeq, sSet, sIf, sRet, sRetN, sExpr, sPass, sRaise, sBad, eVar, eC, eTup, eLst, aCons, aNil, eCall, ar, DE.e2, eAnd, eOr, eNot, eIf, eNeg, tVal, tAndM, tOrM, tNotM, tYesM, eChain, isiD, tyOf, isTy, eM1, oNone, oSome, eCut, R.bind_ok, R.bind_exc, R.bindS_ok, R.bindS_exc, RS.bind_next, RS.bind_ret, RS.bind_exc, LINE, ofS_inj, ofS_ok, eqD_int, eqD_ss, inD3_ss, inD2_ss, p1, eqD_kind, eqD_non]) ?_
    refine seq_ret (env1 := [some (.scr ns), some (.str l), some (P), some (.int (siz p : Nat)), some (.int (siz p : Nat)), some (.non), some (.int x2), none, none, none, none]) (s1 := s) (by simp [bodyF, env0, sSeq, sSet, sIf, sRet, sRetN, sExpr, sPass, sRaise, sBad, eVar, eC, eTup, eLst, aCons, aNil, eCall, ar, DE.e2, eAnd, eOr, eNot, eIf, eNeg, tVal, tAndM, tOrM, tNotM, tYesM, eChain, isiD, tyOf, isTy, eM1, oNone, oSome, eCut, R.bind_ok, R.bind_exc, R.bindS_ok, R.bindS_exc, RS.bind_next, RS.bind_ret, RS.bind_exc, LINE, ofS_inj, ofS_ok, eqD_int, eqD_ss, inD3_ss, inD2_ss, c2]) ?_
    refine seq_ret (env1 := [some (.scr ns), some (.str l), some (P), some (.int (siz p : Nat)), some (.int (siz p : Nat)), some (.non), some (.int x2), some (.int q), none, none, none]) (s1 := s) (by simp [bodyF, env0, sSeq, sSet, sIf, sRet, sRetN, sExpr, sPass, sRaise, sBad, eVar, eC, eTup, eLst, aCons, aNil, eCall, ar, DE.e2, eAnd, eOr, eNot, eIf, eNeg, tVal, tAndM, tOrM, tNotM, tYesM, eChain, isiD, tyOf, isTy, eM1, oNone, oSome, eCut, R.bind_ok, R.bind_exc, R.bindS_ok, R.bindS_exc, RS.bind_next, RS.bind_ret, RS.bind_exc, LINE, ofS_inj, ofS_ok, eqD_int, eqD_ss, inD3_ss, inD2_ss, modD_int, fdivD_int, addD_int, hq]) ?_
    refine seq_ret (env1 := [some (.scr ns), some (.str l), some (P), some (.int (siz p : Nat)), some (.int (siz p : Nat)), some (.non), some (.int x2), some (.int q), none, none, none]) (s1 := s) (by simp [bodyF, env0, sSeq, sSet, sIf, sRet, sRetN, sExpr, sPass, sRaise, sBad, eVar, eC, eTup, eLst, aCons, aNil, eCall, ar, DE.e2, eAnd, eOr, eNot, eIf, eNeg, tVal, tAndM, tOrM, tNotM, tYesM, eChain, isiD, tyOf, isTy, eM1, oNone, oSome, eCut, R.bind_ok, R.bind_exc, R.bindS_ok, R.bindS_exc, RS.bind_next, RS.bind_ret, RS.bind_exc, LINE, ofS_inj, ofS_ok, eqD_int, eqD_ss, inD3_ss, inD2_ss, gtD, cmpI, big', eqD_kind]) ?_
    refine seq_ret (env1 := [some (.scr ns), some (.str l), some (P), some (.int (siz p : Nat)), some (.int (siz p : Nat)), some (.non), some (.int x2), some (.int q), some (w), none, none]) (s1 := s) (by simp [bodyF, env0, sSeq, sSet, sIf, sRet, sRetN, sExpr, sPass, sRaise, sBad, eVar, eC, eTup, eLst, aCons, aNil, eCall, ar, DE.e2, eAnd, eOr, eNot, eIf, eNeg, tVal, tAndM, tOrM, tNotM, tYesM, eChain, isiD, tyOf, isTy, eM1, oNone, oSome, eCut, R.bind_ok, R.bind_exc, R.bindS_ok, R.bindS_exc, RS.bind_next, RS.bind_ret, RS.bind_exc, LINE, ofS_inj, ofS_ok, eqD_int, eqD_ss, inD3_ss, inD2_ss, fdivD_int, e6, e7]) ?_
    refine seq_ret (env1 := [some (.scr ns), some (.str l), some (P), some (.int (siz p : Nat)), some (.int (siz p : Nat)), some (.non), some (.int x2), some (.int q), some (w), none, none]) (s1 := s) (by simp [bodyF, env0, sSeq, sSet, sIf, sRet, sRetN, sExpr, sPass, sRaise, sBad, eVar, eC, eTup, eLst, aCons, aNil, eCall, ar, DE.e2, eAnd, eOr, eNot, eIf, eNeg, tVal, tAndM, tOrM, tNotM, tYesM, eChain, isiD, tyOf, isTy, eM1, oNone, oSome, eCut, R.bind_ok, R.bind_exc, R.bindS_ok, R.bindS_exc, RS.bind_next, RS.bind_ret, RS.bind_exc, LINE, ofS_inj, ofS_ok, eqD_int, eqD_ss, inD3_ss, inD2_ss, e8, w1, isnD_false, eqD_kind]) ?_
    refine seq_ret (env1 := [some (.scr ns), some (.str l), some (P), some (.int (siz p : Nat)), some (.int (siz p : Nat)), some (.non), some (.int x2), some (.int q), some (w), none, none]) (s1 := s) (by simp [bodyF, env0, sSeq, sSet, sIf, sRet, sRetN, sExpr, sPass, sRaise, sBad, eVar, eC, eTup, eLst, aCons, aNil, eCall, ar, DE.e2, eAnd, eOr, eNot, eIf, eNeg, tVal, tAndM, tOrM, tNotM, tYesM, eChain, isiD, tyOf, isTy, eM1, oNone, oSome, eCut, R.bind_ok, R.bind_exc, R.bindS_ok, R.bindS_exc, RS.bind_next, RS.bind_ret, RS.bind_exc, LINE, ofS_inj, ofS_ok, eqD_int, eqD_ss, inD3_ss, inD2_ss, wq, eqD_kind]) ?_
    refine seq_ret (env1 := [some (.scr ns), some (.str l), some (P), some (.int (siz p : Nat)), some (.int (siz p : Nat)), some (.non), some (.int x2), some (.int q), some (w), some (n0), none]) (s1 := s) (by simp [bodyF, env0, sSeq, sSet, sIf, sRet, sRetN, sExpr, sPass, sRaise, sBad, eVar, eC, eTup, eLst, aCons, aNil, eCall, ar, DE.e2, eAnd, eOr, eNot, eIf, eNeg, tVal, tAndM, tOrM, tNotM, tYesM, eChain, isiD, tyOf, isTy, eM1, oNone, oSome, eCut, R.bind_ok, R.bind_exc, R.bindS_ok, R.bindS_exc, RS.bind_next, RS.bind_ret, RS.bind_exc, LINE, ofS_inj, ofS_ok, eqD_int, eqD_ss, inD3_ss, inD2_ss, e9]) ?_
    refine seq_ret (env1 := [some (.scr ns), some (.str l), some (P), some (.int (siz p : Nat)), some (.int (siz p : Nat)), some (.non), some (.int x2), some (.int q), some (w), some (n0), some (th)]) (s1 := s) (by simp [bodyF, env0, sSeq, sSet, sIf, sRet, sRetN, sExpr, sPass, sRaise, sBad, eVar, eC, eTup, eLst, aCons, aNil, eCall, ar, DE.e2, eAnd, eOr, eNot, eIf, eNeg, tVal, tAndM, tOrM, tNotM, tYesM, eChain, isiD, tyOf, isTy, eM1, oNone, oSome, eCut, R.bind_ok, R.bind_exc, R.bindS_ok, R.bindS_exc, RS.bind_next, RS.bind_ret, RS.bind_exc, LINE, ofS_inj, ofS_ok, eqD_int, eqD_ss, inD3_ss, inD2_ss, modD_int, fdivD_int, eth]) ?_
    refine seq_ret (env1 := [some (.scr ns), some (.str l), some (P), some (.int (siz p : Nat)), some (.int (siz p : Nat)), some (.non), some (.int x2), some (.int q), some (w), some (n0), some (th)]) (s1 := s) (by simp [bodyF, env0, sSeq, sSet, sIf, sRet, sRetN, sExpr, sPass, sRaise, sBad, eVar, eC, eTup, eLst, aCons, aNil, eCall, ar, DE.e2, eAnd, eOr, eNot, eIf, eNeg, tVal, tAndM, tOrM, tNotM, tYesM, eChain, isiD, tyOf, isTy, eM1, oNone, oSome, eCut, R.bind_ok, R.bind_exc, R.bindS_ok, R.bindS_exc, RS.bind_next, RS.bind_ret, RS.bind_exc, LINE, ofS_inj, ofS_ok, eqD_int, eqD_ss, inD3_ss, inD2_ss, tn0, n1, eqD_kind]) ?_
    simp [bodyF, env0, sSeq, sSet, sIf, sRet, sRetN, sExpr, sPass, sRaise, sBad, eVar, eC, eTup, eLst, aCons, aNil, eCall, ar, DE.e2, eAnd, eOr, eNot, eIf, eNeg, tVal, tAndM, tOrM, tNotM, tYesM, eChain, isiD, tyOf, isTy, eM1, oNone, oSome, eCut, R.bind_ok, R.bind_exc, R.bindS_ok, R.bindS_exc, RS.bind_next, RS.bind_ret, RS.bind_exc, LINE, ofS_inj, ofS_ok, eqD_int, eqD_ss, inD3_ss, inD2_ss, nq, er, etx, modD_int, eqD_kind]
end G
namespace G
open PySem PySem.Spec PyProof.Rows L2 DE
theorem kit_ref {K : PySem.W.Frag} {a c : Addr} {b : Bool} (h1 : PySem.W.isClsIn K c = true) (h2 : PySem.W.typeIn K (.ref c) = some (.type "type")) (hc : PySem.W.subIn K (.ref c) (.ref c) = some true) (hs : PySem.W.subIn K (.ref a) (.ref c) = some b) : PySem.W.kitOne K (.ref a) (.ref c) = some b := by
  unfold PySem.W.kitOne
  by_cases h : a = c
  · subst h
    rw [if_pos (by simp), ← hc, hs]
  · rw [if_neg (by simpa using h)]
    unfold PySem.W.kitCls
    have e2 : ((PySem.W.clsIn K c).isSome && PySem.W.typeIn K (.ref c) == some (.type "type")) = true := by
      have h1' : (PySem.W.clsIn K c).isSome = true := h1
      rw [h1', h2] <;> rfl
    simp only
    rw [if_pos e2, hs]
theorem kit_ve {K : PySem.W.Frag} {a : Addr} (hs : PySem.W.subIn K (.ref a) (.type "ValueError") = some true) : PySem.W.kitOne K (.ref a) (.type "ValueError") = some true := by
  unfold PySem.W.kitOne
  rw [if_neg (by simp)]
  unfold PySem.W.kitCls
  simp only
  rw [if_pos (by decide +kernel), hs]
theorem exm_ref {K : PySem.W.Frag} {a c : Addr} (h1 : PySem.W.isClsIn K c = true) (h2 : PySem.W.typeIn K (.ref c) = some (.type "type")) (hb : PySem.W.subIn K (.ref c) (.type "BaseException") = some true) (hs : PySem.W.subIn K (.ref a) (.ref c) = some true) : PySem.W.exmOne K (.ref a) (.ref c) = some true := by
  unfold PySem.W.exmOne
  rw [if_pos (by rw [hb] <;> rfl)]
  unfold PySem.W.kitCls
  have e2 : ((PySem.W.clsIn K c).isSome && PySem.W.typeIn K (.ref c) == some (.type "type")) = true := by
    have h1' : (PySem.W.clsIn K c).isSome = true := h1
    rw [h1', h2] <;> rfl
  simp only
  rw [if_pos e2, hs]
def spLaw (K : PySem.W.Frag) : Sp := fun vs H Q _ => ∃ (a : Addr) (ns : List Int), vs = [.ref a] ∧ ns.length ≤ 63 ∧ Only H ∧ SqL K H a (ns.map V.int) ∧ ∀ H', Q (.bl true) H'
theorem sp_law {K : PySem.W.Frag} {ca : Nat → Addr} (fn : Fn) (h : ∀ ns : List Int, ns.length ≤ 63 → ∃ s', fn [.scr ns] [] = .ok (.bl true) s') : ∀ vs H Q E, spLaw K vs H Q E → spOf K ca 1 fn vs H Q E := by
  rintro vs H Q E ⟨a, ns, rfl, hl, hO, hS, hQ⟩
  obtain ⟨s', e⟩ := h ns hl
  refine ⟨⟨[], []⟩, [.scr ns], [], rfl, ⟨rfl, List.nodup_nil, fun l a c e1 _ => by simp at e1, fun b hb => by simp at hb⟩, .cons ?_ .nil, ?_⟩
  · simp only [RD]
    refine ⟨a, rfl, ?_⟩
    rcases hS with h | h
    · exact .inl ⟨by simp, by simp, h⟩
    · exact .inr h
  · rw [e]
    intro L' v H' k S r
    simp only [RD] at r
    subst r
    exact hQ H'
theorem all_mk {P : Program} {w : World} {K : PySem.W.Frag} {h : Heap} {mg : Str → Option Value} {fa : Addr} (X : K.In h) (G : h.Ns mainGlobals mg) (hfa : mg "law" = some (.ref fa))
    {f0 f1 f2 f3 f4 f5 f6 f7 f8 f9 f10 f11 f12 f13 f14 f15 f16 f17 f18 f19 f20 f21 f22 f23 f24 f25 f26 C0 C1 C2 C3 C4 C5 : Addr} {od0 an0 od1 an1 od2 an2 od3 an3 od4 an4 od5 an5 od6 an6 od7 an7 od8 an8 od9 an9 od10 an10 od11 an11 od12 an12 od13 an13 od14 an14 od15 an15 od16 an16 od17 an17 od18 an18 od19 an19 od20 an20 od21 an21 od22 an22 od23 an23 od24 an24 od25 an25 od26 an26 : Option Addr} {sl0 sl1 sl2 sl3 sl4 sl5 sl6 sl7 sl8 sl9 sl10 sl11 sl12 sl13 sl14 sl15 sl16 sl17 sl18 sl19 sl20 sl21 sl22 sl23 sl24 sl25 sl26 : Array (Option Value)} {oc0 kV0 dc0 pm0 cd0 ct0 oc1 kV1 dc1 pm1 cd1 ct1 oc2 kV2 dc2 pm2 cd2 ct2 oc3 kV3 dc3 pm3 cd3 ct3 oc4 kV4 dc4 pm4 cd4 ct4 oc5 kV5 dc5 pm5 cd5 ct5 oc6 kV6 dc6 pm6 cd6 ct6 oc7 kV7 dc7 pm7 cd7 ct7 oc8 kV8 dc8 pm8 cd8 ct8 oc9 kV9 dc9 pm9 cd9 ct9 oc10 kV10 dc10 pm10 cd10 ct10 oc11 kV11 dc11 pm11 cd11 ct11 oc12 kV12 dc12 pm12 cd12 ct12 oc13 kV13 dc13 pm13 cd13 ct13 oc14 kV14 dc14 pm14 cd14 ct14 oc15 kV15 dc15 pm15 cd15 ct15 oc16 kV16 dc16 pm16 cd16 ct16 oc17 kV17 dc17 pm17 cd17 ct17 oc18 kV18 dc18 pm18 cd18 ct18 oc19 kV19 dc19 pm19 cd19 ct19 oc20 kV20 dc20 pm20 cd20 ct20 oc21 kV21 dc21 pm21 cd21 ct21 oc22 kV22 dc22 pm22 cd22 ct22 oc23 kV23 dc23 pm23 cd23 ct23 oc24 kV24 dc24 pm24 cd24 ct24 oc25 kV25 dc25 pm25 cd25 ct25 oc26 kV26 dc26 pm26 cd26 ct26 : Value} {t_SMALL t_MOST_LETTERS t_MOST_NODES : Tok}
    (a0 : PySem.W.nsIn K mainGlobals "are_letters" = some (some (.ref f0)))
    (l0 : K.lookup f0 = some ⟨oc0, od0, .func (PySem.W.fnOf "are_letters" "are_letters" (defArgs s_are_letters) (defBody s_are_letters) (defScope s_are_letters) .none kV0 dc0 pm0 an0 cd0 ct0), sl0⟩)
    (c0 : PySem.W.codeIn K cd0 "are_letters" = true)
    (k0 : PySem.W.keepIn K (.ref f0) = true)
    (a1 : PySem.W.nsIn K mainGlobals "need_letters" = some (some (.ref f1)))
    (l1 : K.lookup f1 = some ⟨oc1, od1, .func (PySem.W.fnOf "need_letters" "need_letters" (defArgs s_need_letters) (defBody s_need_letters) (defScope s_need_letters) .none kV1 dc1 pm1 an1 cd1 ct1), sl1⟩)
    (c1 : PySem.W.codeIn K cd1 "need_letters" = true)
    (k1 : PySem.W.keepIn K (.ref f1) = true)
    (a2 : PySem.W.nsIn K mainGlobals "is_sign" = some (some (.ref f2)))
    (l2 : K.lookup f2 = some ⟨oc2, od2, .func (PySem.W.fnOf "is_sign" "is_sign" (defArgs s_is_sign) (defBody s_is_sign) (defScope s_is_sign) .none kV2 dc2 pm2 an2 cd2 ct2), sl2⟩)
    (c2 : PySem.W.codeIn K cd2 "is_sign" = true)
    (k2 : PySem.W.keepIn K (.ref f2) = true)
    (a3 : PySem.W.nsIn K mainGlobals "are_parts" = some (some (.ref f3)))
    (l3 : K.lookup f3 = some ⟨oc3, od3, .func (PySem.W.fnOf "are_parts" "are_parts" (defArgs s_are_parts) (defBody s_are_parts) (defScope s_are_parts) .none kV3 dc3 pm3 an3 cd3 ct3), sl3⟩)
    (c3 : PySem.W.codeIn K cd3 "are_parts" = true)
    (k3 : PySem.W.keepIn K (.ref f3) = true)
    (a4 : PySem.W.nsIn K mainGlobals "is_pattern" = some (some (.ref f4)))
    (l4 : K.lookup f4 = some ⟨oc4, od4, .func (PySem.W.fnOf "is_pattern" "is_pattern" (defArgs s_is_pattern) (defBody s_is_pattern) (defScope s_is_pattern) .none kV4 dc4 pm4 an4 cd4 ct4), sl4⟩)
    (c4 : PySem.W.codeIn K cd4 "is_pattern" = true)
    (k4 : PySem.W.keepIn K (.ref f4) = true)
    (a5 : PySem.W.nsIn K mainGlobals "parts_of" = some (some (.ref f5)))
    (l5 : K.lookup f5 = some ⟨oc5, od5, .func (PySem.W.fnOf "parts_of" "parts_of" (defArgs s_parts_of) (defBody s_parts_of) (defScope s_parts_of) .none kV5 dc5 pm5 an5 cd5 ct5), sl5⟩)
    (c5 : PySem.W.codeIn K cd5 "parts_of" = true)
    (k5 : PySem.W.keepIn K (.ref f5) = true)
    (a6 : PySem.W.nsIn K mainGlobals "nodes" = some (some (.ref f6)))
    (l6 : K.lookup f6 = some ⟨oc6, od6, .func (PySem.W.fnOf "nodes" "nodes" (defArgs s_nodes) (defBody s_nodes) (defScope s_nodes) .none kV6 dc6 pm6 an6 cd6 ct6), sl6⟩)
    (c6 : PySem.W.codeIn K cd6 "nodes" = true)
    (k6 : PySem.W.keepIn K (.ref f6) = true)
    (a7 : PySem.W.nsIn K mainGlobals "need_pattern" = some (some (.ref f7)))
    (l7 : K.lookup f7 = some ⟨oc7, od7, .func (PySem.W.fnOf "need_pattern" "need_pattern" (defArgs s_need_pattern) (defBody s_need_pattern) (defScope s_need_pattern) .none kV7 dc7 pm7 an7 cd7 ct7), sl7⟩)
    (c7 : PySem.W.codeIn K cd7 "need_pattern" = true)
    (k7 : PySem.W.keepIn K (.ref f7) = true)
    (a8 : PySem.W.nsIn K mainGlobals "fits" = some (some (.ref f8)))
    (l8 : K.lookup f8 = some ⟨oc8, od8, .func (PySem.W.fnOf "fits" "fits" (defArgs s_fits) (defBody s_fits) (defScope s_fits) .none kV8 dc8 pm8 an8 cd8 ct8), sl8⟩)
    (c8 : PySem.W.codeIn K cd8 "fits" = true)
    (k8 : PySem.W.keepIn K (.ref f8) = true)
    (a9 : PySem.W.nsIn K mainGlobals "machine_of" = some (some (.ref f9)))
    (l9 : K.lookup f9 = some ⟨oc9, od9, .func (PySem.W.fnOf "machine_of" "machine_of" (defArgs s_machine_of) (defBody s_machine_of) (defScope s_machine_of) .none kV9 dc9 pm9 an9 cd9 ct9), sl9⟩)
    (c9 : PySem.W.codeIn K cd9 "machine_of" = true)
    (k9 : PySem.W.keepIn K (.ref f9) = true)
    (a10 : PySem.W.nsIn K mainGlobals "told_alike" = some (some (.ref f10)))
    (l10 : K.lookup f10 = some ⟨oc10, od10, .func (PySem.W.fnOf "told_alike" "told_alike" (defArgs s_told_alike) (defBody s_told_alike) (defScope s_told_alike) .none kV10 dc10 pm10 an10 cd10 ct10), sl10⟩)
    (c10 : PySem.W.codeIn K cd10 "told_alike" = true)
    (k10 : PySem.W.keepIn K (.ref f10) = true)
    (a11 : PySem.W.nsIn K mainGlobals "read" = some (some (.ref f11)))
    (l11 : K.lookup f11 = some ⟨oc11, od11, .func (PySem.W.fnOf "read" "read" (defArgs s_read) (defBody s_read) (defScope s_read) .none kV11 dc11 pm11 an11 cd11 ct11), sl11⟩)
    (c11 : PySem.W.codeIn K cd11 "read" = true)
    (k11 : PySem.W.keepIn K (.ref f11) = true)
    (a12 : PySem.W.nsIn K mainGlobals "_law_cell_at" = some (some (.ref f12)))
    (l12 : K.lookup f12 = some ⟨oc12, od12, .func (PySem.W.fnOf "_law_cell_at" "_law_cell_at" (defArgs s__law_cell_at) (defBody s__law_cell_at) (defScope s__law_cell_at) .none kV12 dc12 pm12 an12 cd12 ct12), sl12⟩)
    (c12 : PySem.W.codeIn K cd12 "_law_cell_at" = true)
    (k12 : PySem.W.keepIn K (.ref f12) = true)
    (a13 : PySem.W.nsIn K mainGlobals "_law_letters" = some (some (.ref f13)))
    (l13 : K.lookup f13 = some ⟨oc13, od13, .func (PySem.W.fnOf "_law_letters" "_law_letters" (defArgs s__law_letters) (defBody s__law_letters) (defScope s__law_letters) .none kV13 dc13 pm13 an13 cd13 ct13), sl13⟩)
    (c13 : PySem.W.codeIn K cd13 "_law_letters" = true)
    (k13 : PySem.W.keepIn K (.ref f13) = true)
    (a14 : PySem.W.nsIn K mainGlobals "_law_size" = some (some (.ref f14)))
    (l14 : K.lookup f14 = some ⟨oc14, od14, .func (PySem.W.fnOf "_law_size" "_law_size" (defArgs s__law_size) (defBody s__law_size) (defScope s__law_size) .none kV14 dc14 pm14 an14 cd14 ct14), sl14⟩)
    (c14 : PySem.W.codeIn K cd14 "_law_size" = true)
    (k14 : PySem.W.keepIn K (.ref f14) = true)
    (a15 : PySem.W.nsIn K mainGlobals "_law_step" = some (some (.ref f15)))
    (l15 : K.lookup f15 = some ⟨oc15, od15, .func (PySem.W.fnOf "_law_step" "_law_step" (defArgs s__law_step) (defBody s__law_step) (defScope s__law_step) .none kV15 dc15 pm15 an15 cd15 ct15), sl15⟩)
    (c15 : PySem.W.codeIn K cd15 "_law_step" = true)
    (k15 : PySem.W.keepIn K (.ref f15) = true)
    (a16 : PySem.W.nsIn K mainGlobals "_law_drawn" = some (some (.ref f16)))
    (l16 : K.lookup f16 = some ⟨oc16, od16, .func (PySem.W.fnOf "_law_drawn" "_law_drawn" (defArgs s__law_drawn) (defBody s__law_drawn) (defScope s__law_drawn) .none kV16 dc16 pm16 an16 cd16 ct16), sl16⟩)
    (c16 : PySem.W.codeIn K cd16 "_law_drawn" = true)
    (k16 : PySem.W.keepIn K (.ref f16) = true)
    (a17 : PySem.W.nsIn K mainGlobals "_law_no_letters" = some (some (.ref f17)))
    (l17 : K.lookup f17 = some ⟨oc17, od17, .func (PySem.W.fnOf "_law_no_letters" "_law_no_letters" (defArgs s__law_no_letters) (defBody s__law_no_letters) (defScope s__law_no_letters) .none kV17 dc17 pm17 an17 cd17 ct17), sl17⟩)
    (c17 : PySem.W.codeIn K cd17 "_law_no_letters" = true)
    (k17 : PySem.W.keepIn K (.ref f17) = true)
    (a18 : PySem.W.nsIn K mainGlobals "_law_stranger" = some (some (.ref f18)))
    (l18 : K.lookup f18 = some ⟨oc18, od18, .func (PySem.W.fnOf "_law_stranger" "_law_stranger" (defArgs s__law_stranger) (defBody s__law_stranger) (defScope s__law_stranger) .none kV18 dc18 pm18 an18 cd18 ct18), sl18⟩)
    (c18 : PySem.W.codeIn K cd18 "_law_stranger" = true)
    (k18 : PySem.W.keepIn K (.ref f18) = true)
    (a19 : PySem.W.nsIn K mainGlobals "_law_no_pattern" = some (some (.ref f19)))
    (l19 : K.lookup f19 = some ⟨oc19, od19, .func (PySem.W.fnOf "_law_no_pattern" "_law_no_pattern" (defArgs s__law_no_pattern) (defBody s__law_no_pattern) (defScope s__law_no_pattern) .none kV19 dc19 pm19 an19 cd19 ct19), sl19⟩)
    (c19 : PySem.W.codeIn K cd19 "_law_no_pattern" = true)
    (k19 : PySem.W.keepIn K (.ref f19) = true)
    (a20 : PySem.W.nsIn K mainGlobals "_law_about" = some (some (.ref f20)))
    (l20 : K.lookup f20 = some ⟨oc20, od20, .func (PySem.W.fnOf "_law_about" "_law_about" (defArgs s__law_about) (defBody s__law_about) (defScope s__law_about) .none kV20 dc20 pm20 an20 cd20 ct20), sl20⟩)
    (c20 : PySem.W.codeIn K cd20 "_law_about" = true)
    (k20 : PySem.W.keepIn K (.ref f20) = true)
    (a21 : PySem.W.nsIn K mainGlobals "_law_asked" = some (some (.ref f21)))
    (l21 : K.lookup f21 = some ⟨oc21, od21, .func (PySem.W.fnOf "_law_asked" "_law_asked" (defArgs s__law_asked) (defBody s__law_asked) (defScope s__law_asked) .none kV21 dc21 pm21 an21 cd21 ct21), sl21⟩)
    (c21 : PySem.W.codeIn K cd21 "_law_asked" = true)
    (k21 : PySem.W.keepIn K (.ref f21) = true)
    (a22 : PySem.W.nsIn K mainGlobals "_law_told" = some (some (.ref f22)))
    (l22 : K.lookup f22 = some ⟨oc22, od22, .func (PySem.W.fnOf "_law_told" "_law_told" (defArgs s__law_told) (defBody s__law_told) (defScope s__law_told) .none kV22 dc22 pm22 an22 cd22 ct22), sl22⟩)
    (c22 : PySem.W.codeIn K cd22 "_law_told" = true)
    (k22 : PySem.W.keepIn K (.ref f22) = true)
    (a23 : PySem.W.nsIn K mainGlobals "_law_read" = some (some (.ref f23)))
    (l23 : K.lookup f23 = some ⟨oc23, od23, .func (PySem.W.fnOf "_law_read" "_law_read" (defArgs s__law_read) (defBody s__law_read) (defScope s__law_read) .none kV23 dc23 pm23 an23 cd23 ct23), sl23⟩)
    (c23 : PySem.W.codeIn K cd23 "_law_read" = true)
    (k23 : PySem.W.keepIn K (.ref f23) = true)
    (a24 : PySem.W.nsIn K mainGlobals "_law_grown" = some (some (.ref f24)))
    (l24 : K.lookup f24 = some ⟨oc24, od24, .func (PySem.W.fnOf "_law_grown" "_law_grown" (defArgs s__law_grown) (defBody s__law_grown) (defScope s__law_grown) .none kV24 dc24 pm24 an24 cd24 ct24), sl24⟩)
    (c24 : PySem.W.codeIn K cd24 "_law_grown" = true)
    (k24 : PySem.W.keepIn K (.ref f24) = true)
    (a25 : PySem.W.nsIn K mainGlobals "law" = some (some (.ref f25)))
    (l25 : K.lookup f25 = some ⟨oc25, od25, .func (PySem.W.fnOf "law" "law" (defArgs s_law) (defBody s_law) (defScope s_law) .none kV25 dc25 pm25 an25 cd25 ct25), sl25⟩)
    (c25 : PySem.W.codeIn K cd25 "law" = true)
    (k25 : PySem.W.keepIn K (.ref f25) = true)
    (a26 : PySem.W.nsIn K mainGlobals "_law_kind" = some (some (.ref f26)))
    (l26 : K.lookup f26 = some ⟨oc26, od26, .func (PySem.W.fnOf "_law_kind" "_law_kind" (defArgs s__law_kind) (defBody s__law_kind) (defScope s__law_kind) .none kV26 dc26 pm26 an26 cd26 ct26), sl26⟩)
    (c26 : PySem.W.codeIn K cd26 "_law_kind" = true)
    (k26 : PySem.W.keepIn K (.ref f26) = true)
    (n_ValueError : PySem.W.nsIn K mainGlobals "ValueError" = some none)
    (n_all : PySem.W.nsIn K mainGlobals "all" = some none)
    (n_bool : PySem.W.nsIn K mainGlobals "bool" = some none)
    (n_int : PySem.W.nsIn K mainGlobals "int" = some none)
    (n_isinstance : PySem.W.nsIn K mainGlobals "isinstance" = some none)
    (n_len : PySem.W.nsIn K mainGlobals "len" = some none)
    (n_list : PySem.W.nsIn K mainGlobals "list" = some none)
    (n_max : PySem.W.nsIn K mainGlobals "max" = some none)
    (n_min : PySem.W.nsIn K mainGlobals "min" = some none)
    (n_range : PySem.W.nsIn K mainGlobals "range" = some none)
    (n_str : PySem.W.nsIn K mainGlobals "str" = some none)
    (n_sum : PySem.W.nsIn K mainGlobals "sum" = some none)
    (n_tuple : PySem.W.nsIn K mainGlobals "tuple" = some none)
    (s_SMALL : PySem.W.nsIn K mainGlobals "SMALL" = some (some (.str "abcdefghijklmnopqrstuvwxyz" t_SMALL)))
    (s_MOST_LETTERS : PySem.W.nsIn K mainGlobals "MOST_LETTERS" = some (some (.int 4 t_MOST_LETTERS)))
    (s_MOST_NODES : PySem.W.nsIn K mainGlobals "MOST_NODES" = some (some (.int 60 t_MOST_NODES)))
    (xg0 : PySem.W.nsIn K mainGlobals "PatternError" = some (some (.ref C0)))
    (xx0 : PySem.W.excIn K C0 [.type "ValueError", .type "Exception", .type "BaseException", .type "object"] "ValueError.__new__" = true)
    (xk0 : PySem.W.keepIn K (.ref C0) = true)
    (xb0 : PySem.W.subIn K (.ref C0) (.type "BaseException") = some true)
    (xt0 : PySem.W.typeIn K (.ref C0) = some (.type "type"))
    (xg1 : PySem.W.nsIn K mainGlobals "NoLetters" = some (some (.ref C1)))
    (xx1 : PySem.W.excIn K C1 [.type "ValueError", .type "Exception", .type "BaseException", .type "object"] "ValueError.__new__" = true)
    (xk1 : PySem.W.keepIn K (.ref C1) = true)
    (xb1 : PySem.W.subIn K (.ref C1) (.type "BaseException") = some true)
    (xt1 : PySem.W.typeIn K (.ref C1) = some (.type "type"))
    (xg2 : PySem.W.nsIn K mainGlobals "NoPattern" = some (some (.ref C2)))
    (xx2 : PySem.W.excIn K C2 [.type "ValueError", .type "Exception", .type "BaseException", .type "object"] "ValueError.__new__" = true)
    (xk2 : PySem.W.keepIn K (.ref C2) = true)
    (xb2 : PySem.W.subIn K (.ref C2) (.type "BaseException") = some true)
    (xt2 : PySem.W.typeIn K (.ref C2) = some (.type "type"))
    (xg3 : PySem.W.nsIn K mainGlobals "TooGreat" = some (some (.ref C3)))
    (xx3 : PySem.W.excIn K C3 [.type "ValueError", .type "Exception", .type "BaseException", .type "object"] "ValueError.__new__" = true)
    (xk3 : PySem.W.keepIn K (.ref C3) = true)
    (xb3 : PySem.W.subIn K (.ref C3) (.type "BaseException") = some true)
    (xt3 : PySem.W.typeIn K (.ref C3) = some (.type "type"))
    (xg4 : PySem.W.nsIn K mainGlobals "NoText" = some (some (.ref C4)))
    (xx4 : PySem.W.excIn K C4 [.type "ValueError", .type "Exception", .type "BaseException", .type "object"] "ValueError.__new__" = true)
    (xk4 : PySem.W.keepIn K (.ref C4) = true)
    (xb4 : PySem.W.subIn K (.ref C4) (.type "BaseException") = some true)
    (xt4 : PySem.W.typeIn K (.ref C4) = some (.type "type"))
    (xg5 : PySem.W.nsIn K mainGlobals "NoRoom" = some (some (.ref C5)))
    (xx5 : PySem.W.excIn K C5 [.type "ValueError", .type "Exception", .type "BaseException", .type "object"] "ValueError.__new__" = true)
    (xk5 : PySem.W.keepIn K (.ref C5) = true)
    (xb5 : PySem.W.subIn K (.ref C5) (.type "BaseException") = some true)
    (xt5 : PySem.W.typeIn K (.ref C5) = some (.type "type"))
    (eg1 : PySem.W.findIn K (.ref C1) "__getattribute__" = some (some (.builtin "BaseException.__getattribute__")))
    (ek1 : PySem.W.findIn K (.ref C1) "__getattr__" = some none)
    (ed1 : PySem.W.hasDictIn K C1 = true)
    (ea1 : PySem.W.findIn K (.ref C1) "__class__" = some (some (.builtin "object.__class__")))
    (em1 : PySem.W.mroIn K C1 (.type "object") = some true)
    (ev1 : PySem.W.subIn K (.ref C1) (.type "ValueError") = some true)
    (ex1 : PySem.W.subIn K (.ref C1) (.ref C0) = some true)
    (eo11 : PySem.W.subIn K (.ref C1) (.ref C1) = some true)
    (eo12 : PySem.W.subIn K (.ref C1) (.ref C2) = some false)
    (eo13 : PySem.W.subIn K (.ref C1) (.ref C3) = some false)
    (eo14 : PySem.W.subIn K (.ref C1) (.ref C4) = some false)
    (eo15 : PySem.W.subIn K (.ref C1) (.ref C5) = some false)
    (eg2 : PySem.W.findIn K (.ref C2) "__getattribute__" = some (some (.builtin "BaseException.__getattribute__")))
    (ek2 : PySem.W.findIn K (.ref C2) "__getattr__" = some none)
    (ed2 : PySem.W.hasDictIn K C2 = true)
    (ea2 : PySem.W.findIn K (.ref C2) "__class__" = some (some (.builtin "object.__class__")))
    (em2 : PySem.W.mroIn K C2 (.type "object") = some true)
    (ev2 : PySem.W.subIn K (.ref C2) (.type "ValueError") = some true)
    (ex2 : PySem.W.subIn K (.ref C2) (.ref C0) = some true)
    (eo21 : PySem.W.subIn K (.ref C2) (.ref C1) = some false)
    (eo22 : PySem.W.subIn K (.ref C2) (.ref C2) = some true)
    (eo23 : PySem.W.subIn K (.ref C2) (.ref C3) = some false)
    (eo24 : PySem.W.subIn K (.ref C2) (.ref C4) = some false)
    (eo25 : PySem.W.subIn K (.ref C2) (.ref C5) = some false)
    (eg3 : PySem.W.findIn K (.ref C3) "__getattribute__" = some (some (.builtin "BaseException.__getattribute__")))
    (ek3 : PySem.W.findIn K (.ref C3) "__getattr__" = some none)
    (ed3 : PySem.W.hasDictIn K C3 = true)
    (ea3 : PySem.W.findIn K (.ref C3) "__class__" = some (some (.builtin "object.__class__")))
    (em3 : PySem.W.mroIn K C3 (.type "object") = some true)
    (ev3 : PySem.W.subIn K (.ref C3) (.type "ValueError") = some true)
    (ex3 : PySem.W.subIn K (.ref C3) (.ref C0) = some true)
    (eo31 : PySem.W.subIn K (.ref C3) (.ref C1) = some false)
    (eo32 : PySem.W.subIn K (.ref C3) (.ref C2) = some false)
    (eo33 : PySem.W.subIn K (.ref C3) (.ref C3) = some true)
    (eo34 : PySem.W.subIn K (.ref C3) (.ref C4) = some false)
    (eo35 : PySem.W.subIn K (.ref C3) (.ref C5) = some false)
    (eg4 : PySem.W.findIn K (.ref C4) "__getattribute__" = some (some (.builtin "BaseException.__getattribute__")))
    (ek4 : PySem.W.findIn K (.ref C4) "__getattr__" = some none)
    (ed4 : PySem.W.hasDictIn K C4 = true)
    (ea4 : PySem.W.findIn K (.ref C4) "__class__" = some (some (.builtin "object.__class__")))
    (em4 : PySem.W.mroIn K C4 (.type "object") = some true)
    (ev4 : PySem.W.subIn K (.ref C4) (.type "ValueError") = some true)
    (ex4 : PySem.W.subIn K (.ref C4) (.ref C0) = some true)
    (eo41 : PySem.W.subIn K (.ref C4) (.ref C1) = some false)
    (eo42 : PySem.W.subIn K (.ref C4) (.ref C2) = some false)
    (eo43 : PySem.W.subIn K (.ref C4) (.ref C3) = some false)
    (eo44 : PySem.W.subIn K (.ref C4) (.ref C4) = some true)
    (eo45 : PySem.W.subIn K (.ref C4) (.ref C5) = some false)
    (eg5 : PySem.W.findIn K (.ref C5) "__getattribute__" = some (some (.builtin "BaseException.__getattribute__")))
    (ek5 : PySem.W.findIn K (.ref C5) "__getattr__" = some none)
    (ed5 : PySem.W.hasDictIn K C5 = true)
    (ea5 : PySem.W.findIn K (.ref C5) "__class__" = some (some (.builtin "object.__class__")))
    (em5 : PySem.W.mroIn K C5 (.type "object") = some true)
    (ev5 : PySem.W.subIn K (.ref C5) (.type "ValueError") = some true)
    (ex5 : PySem.W.subIn K (.ref C5) (.ref C0) = some true)
    (eo51 : PySem.W.subIn K (.ref C5) (.ref C1) = some false)
    (eo52 : PySem.W.subIn K (.ref C5) (.ref C2) = some false)
    (eo53 : PySem.W.subIn K (.ref C5) (.ref C3) = some false)
    (eo54 : PySem.W.subIn K (.ref C5) (.ref C4) = some false)
    (eo55 : PySem.W.subIn K (.ref C5) (.ref C5) = some true)
    (ei0 : PySem.W.isClsIn K C0 = true)
    (ei1 : PySem.W.isClsIn K C1 = true)
    (ei2 : PySem.W.isClsIn K C2 = true)
    (ei3 : PySem.W.isClsIn K C3 = true)
    (ei4 : PySem.W.isClsIn K C4 = true)
    (ei5 : PySem.W.isClsIn K C5 = true)
    (en : PySem.W.specialIn K (.builtin "object.__class__") "__get__" = some (some (.builtin "getset_descriptor.__get__")))
    (et : PySem.W.takesIn K (.builtin "object.__class__") = some true) :
    ∃ fd : FuncData, (∀ (s : Shared) (v : Value), BindsTo s fd ⟨[v], []⟩ [("_law_script", v)]) ∧ ∀ base : Heap, K.In base → base.Ns mainGlobals mg → FnOk P w K mg base (L2N.CX P w) 102 fa fd ["_law_script"] (spLaw K) := by
  have e := hfa.symm.trans (PySem.W.mg_of X G a25)
  cases e
  have F0 := fun_mk (st := s_are_letters) l0 c0 k0
  have b0 := F0.binds (ps := ["thing"]) fun _ _ _ _ _ _ us hl => match us, hl with | [_], _ => rfl
  have F1 := fun_mk (st := s_need_letters) l1 c1 k1
  have b1 := F1.binds (ps := ["letters"]) fun _ _ _ _ _ _ us hl => match us, hl with | [_], _ => rfl
  have F2 := fun_mk (st := s_is_sign) l2 c2 k2
  have b2 := F2.binds (ps := ["letters", "thing"]) fun _ _ _ _ _ _ us hl => match us, hl with | [_, _], _ => rfl
  have F3 := fun_mk (st := s_are_parts) l3 c3 k3
  have b3 := F3.binds (ps := ["letters", "thing"]) fun _ _ _ _ _ _ us hl => match us, hl with | [_, _], _ => rfl
  have F4 := fun_mk (st := s_is_pattern) l4 c4 k4
  have b4 := F4.binds (ps := ["letters", "thing"]) fun _ _ _ _ _ _ us hl => match us, hl with | [_, _], _ => rfl
  have F5 := fun_mk (st := s_parts_of) l5 c5 k5
  have b5 := F5.binds (ps := ["pattern"]) fun _ _ _ _ _ _ us hl => match us, hl with | [_], _ => rfl
  have F6 := fun_mk (st := s_nodes) l6 c6 k6
  have b6 := F6.binds (ps := ["pattern"]) fun _ _ _ _ _ _ us hl => match us, hl with | [_], _ => rfl
  have F7 := fun_mk (st := s_need_pattern) l7 c7 k7
  have b7 := F7.binds (ps := ["letters", "pattern"]) fun _ _ _ _ _ _ us hl => match us, hl with | [_, _], _ => rfl
  have F8 := fun_mk (st := s_fits) l8 c8 k8
  have b8 := F8.binds (ps := ["letters", "pattern", "text"]) fun _ _ _ _ _ _ us hl => match us, hl with | [_, _, _], _ => rfl
  have F9 := fun_mk (st := s_machine_of) l9 c9 k9
  have b9 := F9.binds (ps := ["letters", "pattern"]) fun _ _ _ _ _ _ us hl => match us, hl with | [_, _], _ => rfl
  have F10 := fun_mk (st := s_told_alike) l10 c10 k10
  have b10 := F10.binds (ps := ["letters", "one", "other"]) fun _ _ _ _ _ _ us hl => match us, hl with | [_, _, _], _ => rfl
  have F11 := fun_mk (st := s_read) l11 c11 k11
  have b11 := F11.binds (ps := ["letters", "text"]) fun _ _ _ _ _ _ us hl => match us, hl with | [_, _], _ => rfl
  have F12 := fun_mk (st := s__law_cell_at) l12 c12 k12
  have b12 := F12.binds (ps := ["_law_script", "_law_k"]) fun _ _ _ _ _ _ us hl => match us, hl with | [_, _], _ => rfl
  have F13 := fun_mk (st := s__law_letters) l13 c13 k13
  have b13 := F13.binds (ps := ["_law_cell"]) fun _ _ _ _ _ _ us hl => match us, hl with | [_], _ => rfl
  have F14 := fun_mk (st := s__law_size) l14 c14 k14
  have b14 := F14.binds (ps := ["_law_pattern"]) fun _ _ _ _ _ _ us hl => match us, hl with | [_], _ => rfl
  have F15 := fun_mk (st := s__law_step) l15 c15 k15
  have b15 := F15.binds (ps := ["_law_letters_here", "_law_stack", "_law_cell"]) fun _ _ _ _ _ _ us hl => match us, hl with | [_, _, _], _ => rfl
  have F16 := fun_mk (st := s__law_drawn) l16 c16 k16
  have b16 := F16.binds (ps := ["_law_letters_here", "_law_cells", "_law_most"]) fun _ _ _ _ _ _ us hl => match us, hl with | [_, _, _], _ => rfl
  have F17 := fun_mk (st := s__law_no_letters) l17 c17 k17
  have b17 := F17.binds (ps := ["_law_cell"]) fun _ _ _ _ _ _ us hl => match us, hl with | [_], _ => rfl
  have F18 := fun_mk (st := s__law_stranger) l18 c18 k18
  have b18 := F18.binds (ps := ["_law_letters_here", "_law_cell"]) fun _ _ _ _ _ _ us hl => match us, hl with | [_, _], _ => rfl
  have F19 := fun_mk (st := s__law_no_pattern) l19 c19 k19
  have b19 := F19.binds (ps := ["_law_letters_here", "_law_pattern", "_law_cell"]) fun _ _ _ _ _ _ us hl => match us, hl with | [_, _, _], _ => rfl
  have F20 := fun_mk (st := s__law_about) l20 c20 k20
  have b20 := F20.binds (ps := ["_law_pattern", "_law_wrong", "_law_cell"]) fun _ _ _ _ _ _ us hl => match us, hl with | [_, _, _], _ => rfl
  have F21 := fun_mk (st := s__law_asked) l21 c21 k21
  have b21 := F21.binds (ps := ["_law_way", "_law_letters_here", "_law_thing"]) fun _ _ _ _ _ _ us hl => match us, hl with | [_, _, _], _ => rfl
  have F22 := fun_mk (st := s__law_told) l22 c22 k22
  have b22 := F22.binds (ps := ["_law_way", "_law_letters_here", "_law_thing"]) fun _ _ _ _ _ _ us hl => match us, hl with | [_, _, _], _ => rfl
  have F23 := fun_mk (st := s__law_read) l23 c23 k23
  have b23 := F23.binds (ps := ["_law_letters_here", "_law_text"]) fun _ _ _ _ _ _ us hl => match us, hl with | [_, _], _ => rfl
  have F24 := fun_mk (st := s__law_grown) l24 c24 k24
  have b24 := F24.binds (ps := ["_law_pattern", "_law_cell"]) fun _ _ _ _ _ _ us hl => match us, hl with | [_, _], _ => rfl
  have F25 := fun_mk (st := s_law) l25 c25 k25
  have b25 := F25.binds (ps := ["_law_script"]) fun _ _ _ _ _ _ us hl => match us, hl with | [_], _ => rfl
  have F26 := fun_mk (st := s__law_kind) l26 c26 k26
  have b26 := F26.binds (ps := ["_law_error"]) fun _ _ _ _ _ _ us hl => match us, hl with | [_], _ => rfl
  have X0 : ExT K mg "PatternError" C0 := ⟨PySem.W.mg_of X G xg0, xx0, xk0, xb0, xt0⟩
  have X1 : ExT K mg "NoLetters" C1 := ⟨PySem.W.mg_of X G xg1, xx1, xk1, xb1, xt1⟩
  have X2 : ExT K mg "NoPattern" C2 := ⟨PySem.W.mg_of X G xg2, xx2, xk2, xb2, xt2⟩
  have X3 : ExT K mg "TooGreat" C3 := ⟨PySem.W.mg_of X G xg3, xx3, xk3, xb3, xt3⟩
  have X4 : ExT K mg "NoText" C4 := ⟨PySem.W.mg_of X G xg4, xx4, xk4, xb4, xt4⟩
  have X5 : ExT K mg "NoRoom" C5 := ⟨PySem.W.mg_of X G xg5, xx5, xk5, xb5, xt5⟩
  have Y1 : ExcC K C1 := ⟨eg1, ek1, xb1, ed1, ea1, en, et, em1⟩
  have Y2 : ExcC K C2 := ⟨eg2, ek2, xb2, ed2, ea2, en, et, em2⟩
  have Y3 : ExcC K C3 := ⟨eg3, ek3, xb3, ed3, ea3, en, et, em3⟩
  have Y4 : ExcC K C4 := ⟨eg4, ek4, xb4, ed4, ea4, en, et, em4⟩
  have Y5 : ExcC K C5 := ⟨eg5, ek5, xb5, ed5, ea5, en, et, em5⟩
  let ca : Nat → Addr := fun | 0 => C0 | 1 => C1 | 2 => C2 | 3 => C3 | 4 => C4 | 5 => C5 | _ => C0
  let T : Tx K mg := {
    a := fun | 0 => f0 | 1 => f1 | 2 => f2 | 3 => f3 | 4 => f4 | 5 => f5 | 6 => f6 | 7 => f7 | 8 => f8 | 9 => f9 | 10 => f10 | 11 => f11 | 12 => f12 | 13 => f13 | 14 => f14 | 15 => f15 | 16 => f16 | 17 => f17 | 18 => f18 | 19 => f19 | 20 => f20 | 21 => f21 | 22 => f22 | 23 => f23 | 24 => f24 | 25 => fa | _ => f0,
    fd := fun | 0 => PySem.W.fnOf "are_letters" "are_letters" (defArgs s_are_letters) (defBody s_are_letters) (defScope s_are_letters) .none kV0 dc0 pm0 an0 cd0 ct0 | 1 => PySem.W.fnOf "need_letters" "need_letters" (defArgs s_need_letters) (defBody s_need_letters) (defScope s_need_letters) .none kV1 dc1 pm1 an1 cd1 ct1 | 2 => PySem.W.fnOf "is_sign" "is_sign" (defArgs s_is_sign) (defBody s_is_sign) (defScope s_is_sign) .none kV2 dc2 pm2 an2 cd2 ct2 | 3 => PySem.W.fnOf "are_parts" "are_parts" (defArgs s_are_parts) (defBody s_are_parts) (defScope s_are_parts) .none kV3 dc3 pm3 an3 cd3 ct3 | 4 => PySem.W.fnOf "is_pattern" "is_pattern" (defArgs s_is_pattern) (defBody s_is_pattern) (defScope s_is_pattern) .none kV4 dc4 pm4 an4 cd4 ct4 | 5 => PySem.W.fnOf "parts_of" "parts_of" (defArgs s_parts_of) (defBody s_parts_of) (defScope s_parts_of) .none kV5 dc5 pm5 an5 cd5 ct5 | 6 => PySem.W.fnOf "nodes" "nodes" (defArgs s_nodes) (defBody s_nodes) (defScope s_nodes) .none kV6 dc6 pm6 an6 cd6 ct6 | 7 => PySem.W.fnOf "need_pattern" "need_pattern" (defArgs s_need_pattern) (defBody s_need_pattern) (defScope s_need_pattern) .none kV7 dc7 pm7 an7 cd7 ct7 | 8 => PySem.W.fnOf "fits" "fits" (defArgs s_fits) (defBody s_fits) (defScope s_fits) .none kV8 dc8 pm8 an8 cd8 ct8 | 9 => PySem.W.fnOf "machine_of" "machine_of" (defArgs s_machine_of) (defBody s_machine_of) (defScope s_machine_of) .none kV9 dc9 pm9 an9 cd9 ct9 | 10 => PySem.W.fnOf "told_alike" "told_alike" (defArgs s_told_alike) (defBody s_told_alike) (defScope s_told_alike) .none kV10 dc10 pm10 an10 cd10 ct10 | 11 => PySem.W.fnOf "read" "read" (defArgs s_read) (defBody s_read) (defScope s_read) .none kV11 dc11 pm11 an11 cd11 ct11 | 12 => PySem.W.fnOf "_law_cell_at" "_law_cell_at" (defArgs s__law_cell_at) (defBody s__law_cell_at) (defScope s__law_cell_at) .none kV12 dc12 pm12 an12 cd12 ct12 | 13 => PySem.W.fnOf "_law_letters" "_law_letters" (defArgs s__law_letters) (defBody s__law_letters) (defScope s__law_letters) .none kV13 dc13 pm13 an13 cd13 ct13 | 14 => PySem.W.fnOf "_law_size" "_law_size" (defArgs s__law_size) (defBody s__law_size) (defScope s__law_size) .none kV14 dc14 pm14 an14 cd14 ct14 | 15 => PySem.W.fnOf "_law_step" "_law_step" (defArgs s__law_step) (defBody s__law_step) (defScope s__law_step) .none kV15 dc15 pm15 an15 cd15 ct15 | 16 => PySem.W.fnOf "_law_drawn" "_law_drawn" (defArgs s__law_drawn) (defBody s__law_drawn) (defScope s__law_drawn) .none kV16 dc16 pm16 an16 cd16 ct16 | 17 => PySem.W.fnOf "_law_no_letters" "_law_no_letters" (defArgs s__law_no_letters) (defBody s__law_no_letters) (defScope s__law_no_letters) .none kV17 dc17 pm17 an17 cd17 ct17 | 18 => PySem.W.fnOf "_law_stranger" "_law_stranger" (defArgs s__law_stranger) (defBody s__law_stranger) (defScope s__law_stranger) .none kV18 dc18 pm18 an18 cd18 ct18 | 19 => PySem.W.fnOf "_law_no_pattern" "_law_no_pattern" (defArgs s__law_no_pattern) (defBody s__law_no_pattern) (defScope s__law_no_pattern) .none kV19 dc19 pm19 an19 cd19 ct19 | 20 => PySem.W.fnOf "_law_about" "_law_about" (defArgs s__law_about) (defBody s__law_about) (defScope s__law_about) .none kV20 dc20 pm20 an20 cd20 ct20 | 21 => PySem.W.fnOf "_law_asked" "_law_asked" (defArgs s__law_asked) (defBody s__law_asked) (defScope s__law_asked) .none kV21 dc21 pm21 an21 cd21 ct21 | 22 => PySem.W.fnOf "_law_told" "_law_told" (defArgs s__law_told) (defBody s__law_told) (defScope s__law_told) .none kV22 dc22 pm22 an22 cd22 ct22 | 23 => PySem.W.fnOf "_law_read" "_law_read" (defArgs s__law_read) (defBody s__law_read) (defScope s__law_read) .none kV23 dc23 pm23 an23 cd23 ct23 | 24 => PySem.W.fnOf "_law_grown" "_law_grown" (defArgs s__law_grown) (defBody s__law_grown) (defScope s__law_grown) .none kV24 dc24 pm24 an24 cd24 ct24 | 25 => PySem.W.fnOf "law" "law" (defArgs s_law) (defBody s_law) (defScope s_law) .none kV25 dc25 pm25 an25 cd25 ct25 | _ => PySem.W.fnOf "are_letters" "are_letters" (defArgs s_are_letters) (defBody s_are_letters) (defScope s_are_letters) .none kV0 dc0 pm0 an0 cd0 ct0,
    ca := ca,
    F0 := F0,
    g0 := PySem.W.mg_of X G a0,
    b0 := b0,
    F1 := F1,
    g1 := PySem.W.mg_of X G a1,
    b1 := b1,
    F2 := F2,
    g2 := PySem.W.mg_of X G a2,
    b2 := b2,
    F3 := F3,
    g3 := PySem.W.mg_of X G a3,
    b3 := b3,
    F4 := F4,
    g4 := PySem.W.mg_of X G a4,
    b4 := b4,
    F5 := F5,
    g5 := PySem.W.mg_of X G a5,
    b5 := b5,
    F6 := F6,
    g6 := PySem.W.mg_of X G a6,
    b6 := b6,
    F7 := F7,
    g7 := PySem.W.mg_of X G a7,
    b7 := b7,
    F8 := F8,
    g8 := PySem.W.mg_of X G a8,
    b8 := b8,
    F9 := F9,
    g9 := PySem.W.mg_of X G a9,
    b9 := b9,
    F10 := F10,
    g10 := PySem.W.mg_of X G a10,
    b10 := b10,
    F11 := F11,
    g11 := PySem.W.mg_of X G a11,
    b11 := b11,
    F12 := F12,
    g12 := PySem.W.mg_of X G a12,
    b12 := b12,
    F13 := F13,
    g13 := PySem.W.mg_of X G a13,
    b13 := b13,
    F14 := F14,
    g14 := PySem.W.mg_of X G a14,
    b14 := b14,
    F15 := F15,
    g15 := PySem.W.mg_of X G a15,
    b15 := b15,
    F16 := F16,
    g16 := PySem.W.mg_of X G a16,
    b16 := b16,
    F17 := F17,
    g17 := PySem.W.mg_of X G a17,
    b17 := b17,
    F18 := F18,
    g18 := PySem.W.mg_of X G a18,
    b18 := b18,
    F19 := F19,
    g19 := PySem.W.mg_of X G a19,
    b19 := b19,
    F20 := F20,
    g20 := PySem.W.mg_of X G a20,
    b20 := b20,
    F21 := F21,
    g21 := PySem.W.mg_of X G a21,
    b21 := b21,
    F22 := F22,
    g22 := PySem.W.mg_of X G a22,
    b22 := b22,
    F23 := F23,
    g23 := PySem.W.mg_of X G a23,
    b23 := b23,
    F24 := F24,
    g24 := PySem.W.mg_of X G a24,
    b24 := b24,
    F25 := F25,
    g25 := PySem.W.mg_of X G a25,
    b25 := b25,
    n_ValueError := PySem.W.mg_none_of X G n_ValueError,
    n_all := PySem.W.mg_none_of X G n_all,
    n_bool := PySem.W.mg_none_of X G n_bool,
    n_int := PySem.W.mg_none_of X G n_int,
    n_isinstance := PySem.W.mg_none_of X G n_isinstance,
    n_len := PySem.W.mg_none_of X G n_len,
    n_list := PySem.W.mg_none_of X G n_list,
    n_max := PySem.W.mg_none_of X G n_max,
    n_min := PySem.W.mg_none_of X G n_min,
    n_range := PySem.W.mg_none_of X G n_range,
    n_str := PySem.W.mg_none_of X G n_str,
    n_sum := PySem.W.mg_none_of X G n_sum,
    n_tuple := PySem.W.mg_none_of X G n_tuple,
    k_SMALL := ⟨_, (V.str "abcdefghijklmnopqrstuvwxyz"), PySem.W.mg_of X G s_SMALL, ⟨_, rfl⟩, fun _ _ => by simp only [RD]⟩,
    k_MOST_LETTERS := ⟨_, (V.int 4), PySem.W.mg_of X G s_MOST_LETTERS, ⟨_, rfl⟩, fun _ _ => by simp only [RD]⟩,
    k_MOST_NODES := ⟨_, (V.int 60), PySem.W.mg_of X G s_MOST_NODES, ⟨_, rfl⟩, fun _ _ => by simp only [RD]⟩,
    x0 := X0,
    x1 := X1,
    x2 := X2,
    x3 := X3,
    x4 := X4,
    x5 := X5,
    ak := f26,
    fdk := PySem.W.fnOf "_law_kind" "_law_kind" (defArgs s__law_kind) (defBody s__law_kind) (defScope s__law_kind) .none kV26 dc26 pm26 an26 cd26 ct26,
    F_kind := F26,
    g_kind := PySem.W.mg_of X G a26,
    b_kind := b26,
    xk := ⟨fun i h1 h5 => (match i, h1, h5 with | 1, _, _ => Y1 | 2, _, _ => Y2 | 3, _, _ => Y3 | 4, _, _ => Y4 | 5, _, _ => Y5 | 0, h, _ => absurd h (by decide) | (k + 6), _, h => absurd h (by omega)), fun i j h1 h5 g1 g5 => (match i, h1, h5, j, g1, g5 with | 1, _, _, 1, _, _ => kit_ref ei1 xt1 eo11 eo11 | 1, _, _, 2, _, _ => kit_ref ei2 xt2 eo22 eo12 | 1, _, _, 3, _, _ => kit_ref ei3 xt3 eo33 eo13 | 1, _, _, 4, _, _ => kit_ref ei4 xt4 eo44 eo14 | 1, _, _, 5, _, _ => kit_ref ei5 xt5 eo55 eo15 | 2, _, _, 1, _, _ => kit_ref ei1 xt1 eo11 eo21 | 2, _, _, 2, _, _ => kit_ref ei2 xt2 eo22 eo22 | 2, _, _, 3, _, _ => kit_ref ei3 xt3 eo33 eo23 | 2, _, _, 4, _, _ => kit_ref ei4 xt4 eo44 eo24 | 2, _, _, 5, _, _ => kit_ref ei5 xt5 eo55 eo25 | 3, _, _, 1, _, _ => kit_ref ei1 xt1 eo11 eo31 | 3, _, _, 2, _, _ => kit_ref ei2 xt2 eo22 eo32 | 3, _, _, 3, _, _ => kit_ref ei3 xt3 eo33 eo33 | 3, _, _, 4, _, _ => kit_ref ei4 xt4 eo44 eo34 | 3, _, _, 5, _, _ => kit_ref ei5 xt5 eo55 eo35 | 4, _, _, 1, _, _ => kit_ref ei1 xt1 eo11 eo41 | 4, _, _, 2, _, _ => kit_ref ei2 xt2 eo22 eo42 | 4, _, _, 3, _, _ => kit_ref ei3 xt3 eo33 eo43 | 4, _, _, 4, _, _ => kit_ref ei4 xt4 eo44 eo44 | 4, _, _, 5, _, _ => kit_ref ei5 xt5 eo55 eo45 | 5, _, _, 1, _, _ => kit_ref ei1 xt1 eo11 eo51 | 5, _, _, 2, _, _ => kit_ref ei2 xt2 eo22 eo52 | 5, _, _, 3, _, _ => kit_ref ei3 xt3 eo33 eo53 | 5, _, _, 4, _, _ => kit_ref ei4 xt4 eo44 eo54 | 5, _, _, 5, _, _ => kit_ref ei5 xt5 eo55 eo55 | 0, h, _, _, _, _ => absurd h (by decide) | (k + 6), _, h, _, _, _ => absurd h (by omega) | _, _, _, 0, h, _ => absurd h (by decide) | _, _, _, (k + 6), _, h => absurd h (by omega)), fun i h1 h5 => (match i, h1, h5 with | 1, _, _ => kit_ve ev1 | 2, _, _ => kit_ve ev2 | 3, _, _ => kit_ve ev3 | 4, _, _ => kit_ve ev4 | 5, _, _ => kit_ve ev5 | 0, h, _ => absurd h (by decide) | (k + 6), _, h => absurd h (by omega)), fun i h1 h5 => (match i, h1, h5 with | 1, _, _ => exm_ref ei0 xt0 xb0 ex1 | 2, _, _ => exm_ref ei0 xt0 xb0 ex2 | 3, _, _ => exm_ref ei0 xt0 xb0 ex3 | 4, _, _ => exm_ref ei0 xt0 xb0 ex4 | 5, _, _ => exm_ref ei0 xt0 xb0 ex5 | 0, h, _ => absurd h (by decide) | (k + 6), _, h => absurd h (by omega))⟩ }
  exact ⟨_, fun s v => .of_eq rfl, fun base _ _ => (ok_all (P := P) (w := w) (base := base) T 101).o25.imp (sp_law _ (fun ns _ => ⟨[], law_true ns []⟩))⟩
end G
open PySem PySem.W PyProof.Rows
set_option maxRecDepth 100000 in
set_option maxHeartbeats 0 in
theorem PySem.Challenge.cw_bothreed_k01_patterns_holds : PySem.Challenge.rw_bothreed_k01_patterns.Holds := by
  w_on; o_law; k_head; (case hw => w_witness2)
  k_fill
  refine L2.walk_of (l := PySem.Challenge.rw_bothreed_k01_patterns) (n := 63) (k := 102) (x := "_law_script") (CX := fun w => L2N.CX (PySem.Challenge.rw_bothreed_k01_patterns).prog w) (sp := fun w => G.spLaw _) rfl (by decide) rfl ⟨rfl, by decide, by decide⟩ (fun w h Y => PySem.W.kIn_of Y) ?F (fun w H a ns hl hO hS => ⟨a, ns, rfl, hl, hO, hS, fun _ => rfl⟩) (fun w H s e s' c => by obtain ⟨_, _, _, _, _, _, _, _, _, _, _, _, z⟩ := c; exact z.elim)
  case F =>
    intro w mg fa h KX NsH hmg
    refine' G.all_mk KX NsH hmg ?a0 ?l0 ?c0 ?k0 ?a1 ?l1 ?c1 ?k1 ?a2 ?l2 ?c2 ?k2 ?a3 ?l3 ?c3 ?k3 ?a4 ?l4 ?c4 ?k4 ?a5 ?l5 ?c5 ?k5 ?a6 ?l6 ?c6 ?k6 ?a7 ?l7 ?c7 ?k7 ?a8 ?l8 ?c8 ?k8 ?a9 ?l9 ?c9 ?k9 ?a10 ?l10 ?c10 ?k10 ?a11 ?l11 ?c11 ?k11 ?a12 ?l12 ?c12 ?k12 ?a13 ?l13 ?c13 ?k13 ?a14 ?l14 ?c14 ?k14 ?a15 ?l15 ?c15 ?k15 ?a16 ?l16 ?c16 ?k16 ?a17 ?l17 ?c17 ?k17 ?a18 ?l18 ?c18 ?k18 ?a19 ?l19 ?c19 ?k19 ?a20 ?l20 ?c20 ?k20 ?a21 ?l21 ?c21 ?k21 ?a22 ?l22 ?c22 ?k22 ?a23 ?l23 ?c23 ?k23 ?a24 ?l24 ?c24 ?k24 ?a25 ?l25 ?c25 ?k25 ?a26 ?l26 ?c26 ?k26 ?n_ValueError ?n_all ?n_bool ?n_int ?n_isinstance ?n_len ?n_list ?n_max ?n_min ?n_range ?n_str ?n_sum ?n_tuple ?s_SMALL ?s_MOST_LETTERS ?s_MOST_NODES ?xg0 ?xx0 ?xk0 ?xb0 ?xt0 ?xg1 ?xx1 ?xk1 ?xb1 ?xt1 ?xg2 ?xx2 ?xk2 ?xb2 ?xt2 ?xg3 ?xx3 ?xk3 ?xb3 ?xt3 ?xg4 ?xx4 ?xk4 ?xb4 ?xt4 ?xg5 ?xx5 ?xk5 ?xb5 ?xt5 ?eg1 ?ek1 ?ed1 ?ea1 ?em1 ?ev1 ?ex1 ?eo11 ?eo12 ?eo13 ?eo14 ?eo15 ?eg2 ?ek2 ?ed2 ?ea2 ?em2 ?ev2 ?ex2 ?eo21 ?eo22 ?eo23 ?eo24 ?eo25 ?eg3 ?ek3 ?ed3 ?ea3 ?em3 ?ev3 ?ex3 ?eo31 ?eo32 ?eo33 ?eo34 ?eo35 ?eg4 ?ek4 ?ed4 ?ea4 ?em4 ?ev4 ?ex4 ?eo41 ?eo42 ?eo43 ?eo44 ?eo45 ?eg5 ?ek5 ?ed5 ?ea5 ?em5 ?ev5 ?ex5 ?eo51 ?eo52 ?eo53 ?eo54 ?eo55 ?ei0 ?ei1 ?ei2 ?ei3 ?ei4 ?ei5 ?en ?et
    (case a0 => k_is)
    (case l0 => k_is)
    (case c0 => k_is)
    (case k0 => k_is)
    (case a1 => k_is)
    (case l1 => k_is)
    (case c1 => k_is)
    (case k1 => k_is)
    (case a2 => k_is)
    (case l2 => k_is)
    (case c2 => k_is)
    (case k2 => k_is)
    (case a3 => k_is)
    (case l3 => k_is)
    (case c3 => k_is)
    (case k3 => k_is)
    (case a4 => k_is)
    (case l4 => k_is)
    (case c4 => k_is)
    (case k4 => k_is)
    (case a5 => k_is)
    (case l5 => k_is)
    (case c5 => k_is)
    (case k5 => k_is)
    (case a6 => k_is)
    (case l6 => k_is)
    (case c6 => k_is)
    (case k6 => k_is)
    (case a7 => k_is)
    (case l7 => k_is)
    (case c7 => k_is)
    (case k7 => k_is)
    (case a8 => k_is)
    (case l8 => k_is)
    (case c8 => k_is)
    (case k8 => k_is)
    (case a9 => k_is)
    (case l9 => k_is)
    (case c9 => k_is)
    (case k9 => k_is)
    (case a10 => k_is)
    (case l10 => k_is)
    (case c10 => k_is)
    (case k10 => k_is)
    (case a11 => k_is)
    (case l11 => k_is)
    (case c11 => k_is)
    (case k11 => k_is)
    (case a12 => k_is)
    (case l12 => k_is)
    (case c12 => k_is)
    (case k12 => k_is)
    (case a13 => k_is)
    (case l13 => k_is)
    (case c13 => k_is)
    (case k13 => k_is)
    (case a14 => k_is)
    (case l14 => k_is)
    (case c14 => k_is)
    (case k14 => k_is)
    (case a15 => k_is)
    (case l15 => k_is)
    (case c15 => k_is)
    (case k15 => k_is)
    (case a16 => k_is)
    (case l16 => k_is)
    (case c16 => k_is)
    (case k16 => k_is)
    (case a17 => k_is)
    (case l17 => k_is)
    (case c17 => k_is)
    (case k17 => k_is)
    (case a18 => k_is)
    (case l18 => k_is)
    (case c18 => k_is)
    (case k18 => k_is)
    (case a19 => k_is)
    (case l19 => k_is)
    (case c19 => k_is)
    (case k19 => k_is)
    (case a20 => k_is)
    (case l20 => k_is)
    (case c20 => k_is)
    (case k20 => k_is)
    (case a21 => k_is)
    (case l21 => k_is)
    (case c21 => k_is)
    (case k21 => k_is)
    (case a22 => k_is)
    (case l22 => k_is)
    (case c22 => k_is)
    (case k22 => k_is)
    (case a23 => k_is)
    (case l23 => k_is)
    (case c23 => k_is)
    (case k23 => k_is)
    (case a24 => k_is)
    (case l24 => k_is)
    (case c24 => k_is)
    (case k24 => k_is)
    (case a25 => k_is)
    (case l25 => k_is)
    (case c25 => k_is)
    (case k25 => k_is)
    (case a26 => k_is)
    (case l26 => k_is)
    (case c26 => k_is)
    (case k26 => k_is)
    (case n_ValueError => k_is)
    (case n_all => k_is)
    (case n_bool => k_is)
    (case n_int => k_is)
    (case n_isinstance => k_is)
    (case n_len => k_is)
    (case n_list => k_is)
    (case n_max => k_is)
    (case n_min => k_is)
    (case n_range => k_is)
    (case n_str => k_is)
    (case n_sum => k_is)
    (case n_tuple => k_is)
    (case s_SMALL => k_is)
    (case s_MOST_LETTERS => k_is)
    (case s_MOST_NODES => k_is)
    (case xg0 => k_is)
    (case xx0 => k_exc)
    (case xk0 => k_is)
    (case xb0 => k_is)
    (case xt0 => k_is)
    (case xg1 => k_is)
    (case xx1 => k_exc)
    (case xk1 => k_is)
    (case xb1 => k_is)
    (case xt1 => k_is)
    (case xg2 => k_is)
    (case xx2 => k_exc)
    (case xk2 => k_is)
    (case xb2 => k_is)
    (case xt2 => k_is)
    (case xg3 => k_is)
    (case xx3 => k_exc)
    (case xk3 => k_is)
    (case xb3 => k_is)
    (case xt3 => k_is)
    (case xg4 => k_is)
    (case xx4 => k_exc)
    (case xk4 => k_is)
    (case xb4 => k_is)
    (case xt4 => k_is)
    (case xg5 => k_is)
    (case xx5 => k_exc)
    (case xk5 => k_is)
    (case xb5 => k_is)
    (case xt5 => k_is)
    (case eg1 => k_is)
    (case ek1 => k_is)
    (case ed1 => k_is)
    (case ea1 => k_is)
    (case em1 => k_is)
    (case ev1 => k_is)
    (case ex1 => k_is)
    (case eo11 => k_is)
    (case eo12 => k_is)
    (case eo13 => k_is)
    (case eo14 => k_is)
    (case eo15 => k_is)
    (case eg2 => k_is)
    (case ek2 => k_is)
    (case ed2 => k_is)
    (case ea2 => k_is)
    (case em2 => k_is)
    (case ev2 => k_is)
    (case ex2 => k_is)
    (case eo21 => k_is)
    (case eo22 => k_is)
    (case eo23 => k_is)
    (case eo24 => k_is)
    (case eo25 => k_is)
    (case eg3 => k_is)
    (case ek3 => k_is)
    (case ed3 => k_is)
    (case ea3 => k_is)
    (case em3 => k_is)
    (case ev3 => k_is)
    (case ex3 => k_is)
    (case eo31 => k_is)
    (case eo32 => k_is)
    (case eo33 => k_is)
    (case eo34 => k_is)
    (case eo35 => k_is)
    (case eg4 => k_is)
    (case ek4 => k_is)
    (case ed4 => k_is)
    (case ea4 => k_is)
    (case em4 => k_is)
    (case ev4 => k_is)
    (case ex4 => k_is)
    (case eo41 => k_is)
    (case eo42 => k_is)
    (case eo43 => k_is)
    (case eo44 => k_is)
    (case eo45 => k_is)
    (case eg5 => k_is)
    (case ek5 => k_is)
    (case ed5 => k_is)
    (case ea5 => k_is)
    (case em5 => k_is)
    (case ev5 => k_is)
    (case ex5 => k_is)
    (case eo51 => k_is)
    (case eo52 => k_is)
    (case eo53 => k_is)
    (case eo54 => k_is)
    (case eo55 => k_is)
    (case ei0 => k_is)
    (case ei1 => k_is)
    (case ei2 => k_is)
    (case ei3 => k_is)
    (case ei4 => k_is)
    (case ei5 => k_is)
    (case en => k_is)
    (case et => k_is)
