import PyProof.Rows.All
import Wide.All
import OpenK.AllK
import Wide.FinOn
import HandS.ForMost
import HandS.ForExc
import HandS.IsInst
import HandS.ExcIs
import HandS.HotCalls
import HandS.Style
import HandS.TupMul
import HandS.TupAny
import HandS.Deep
import PySem.Challenge.RW_bothreed_k03_texts_read
set_option Elab.async false
set_option linter.all false
set_option maxRecDepth 100000
set_option maxHeartbeats 8000000
/-! DE0: values as trees, a store of live cells, how they stand in the hand layer's abstract heap; results; the judgements. -/
namespace DE
open PySem PySem.Spec PyProof.Rows L2

abbrev St := L2.St
/-- a value: a tree; ref l: the live cell l of the store -/
inductive D where
  | non | bl (b : Bool) | int (i : Int) | str (x : Str)
  | tup (xs : List D) | lst (xs : List D) | dct (ks : List Key) (xs : List D) | ref (l : Nat) | scr (ns : List Int) | exc (c : Nat) (a : Addr) | obj (fs : List Str) (xs : List D)
instance : Inhabited D := ⟨.non⟩
/-- a live cell: what is changed -/
inductive Cell where
  | lst (xs : List D) | dK (ks : List Key) (xs : List D) | dT (ks : List (List Key)) (xs : List D) | ins (c : Nat) (fs : List Str) (xs : List D)
instance : Inhabited Cell := ⟨.lst []⟩
abbrev Store := List Cell
abbrev Env := List (Option D)

/-- where the live cells stand (rho), what is shut away (pi) -/
structure Lv where
  rho : List Addr
  pi : List Addr

def FzT (K : PySem.W.Frag) (L : Lv) (H : Hp) (a : Addr) (vs : List V) : Prop :=
  (a ∉ L.rho ∧ a ∉ L.pi ∧ Rd H a (.tup vs)) ∨
    ∃ (o : Obj) (its : Array Value) (n : Nat), K.lookup a = some o ∧ o.cls = .type "tuple" ∧ o.data = .seq its n ∧ its.size ≤ sizeLine ∧ Vals vs its.toList
def FzL (L : Lv) (H : Hp) (a : Addr) (vs : List V) : Prop := a ∉ L.rho ∧ a ∉ L.pi ∧ H a = some (.lst vs)
def FzD (L : Lv) (H : Hp) (a : Addr) (kvs : List (Key × V)) : Prop := a ∉ L.rho ∧ a ∉ L.pi ∧ H a = some (.dK kvs)
/-- an instance that nothing changes -/
def FzO (L : Lv) (H : Hp) (a C dx : Addr) (fvs : List (Str × V)) : Prop := a ∉ L.rho ∧ a ∉ L.pi ∧ H a = some (.ins C dx fvs)
/-- a class, its instances' attributes -/
def ClsF (K : PySem.W.Frag) (C : Addr) (fs : List Str) : Prop := Cls K C ∧ ∀ f ∈ fs, NoAttr K C f
/-- the script: a list of ints that nothing changes -/
def FzS (K : PySem.W.Frag) (L : Lv) (H : Hp) (a : Addr) (vs : List V) : Prop :=
  (a ∉ L.rho ∧ a ∉ L.pi ∧ Rd H a (.lst vs)) ∨
    ∃ (o : Obj) (its : Array Value) (n : Nat), K.lookup a = some o ∧ o.cls = .type "list" ∧ o.dict = none ∧ o.data = .seq its n ∧ its.size ≤ sizeLine ∧ Vals vs its.toList

mutual
/-- the value v stands for d -/
def RD (K : PySem.W.Frag) (L : Lv) (H : Hp) : D → V → Prop
  | .non, v => v = .non
  | .bl b, v => v = .bl b
  | .int i, v => v = .int i
  | .str x, v => v = .str x
  | .tup xs, v => ∃ a vs, v = .ref a ∧ FzT K L H a vs ∧ RDs K L H xs vs
  | .lst xs, v => ∃ a vs, v = .ref a ∧ FzL L H a vs ∧ RDs K L H xs vs
  | .dct ks xs, v => ∃ a vs, v = .ref a ∧ FzD L H a (ks.zip vs) ∧ ks.length = vs.length ∧ RDs K L H xs vs
  | .ref l, v => ∃ a, v = .ref a ∧ L.rho[l]? = some a
  | .scr ns, v => ∃ a, v = .ref a ∧ FzS K L H a (ns.map V.int)
  | .exc _ a, v => v = .ref a
  | .obj fs xs, v => ∃ a C dx vs, v = .ref a ∧ FzO L H a C dx (fs.zip vs) ∧ ClsF K C fs ∧ fs.length = vs.length ∧ RDs K L H xs vs
def RDs (K : PySem.W.Frag) (L : Lv) (H : Hp) : List D → List V → Prop
  | [], vs => vs = []
  | x :: xs, vs => ∃ w ws, vs = w :: ws ∧ RD K L H x w ∧ RDs K L H xs ws
end

/-- from one moment to a later one: what is read stands -/
structure Mono (L : Lv) (H : Hp) (L2 : Lv) (H2 : Hp) : Prop where
  rho : L.rho <+: L2.rho
  keep : ∀ b o, H b = some o → b ∉ L.rho → b ∉ L.pi → H2 b = some o ∧ b ∉ L2.rho ∧ b ∉ L2.pi
/-- .. and what is shut away, too -/
structure Keep (L : Lv) (H : Hp) (L2 : Lv) (H2 : Hp) : Prop where
  pi : L2.pi = L.pi
  rho : L.rho <+: L2.rho
  keep : ∀ b o, H b = some o → b ∉ L.rho → H2 b = some o ∧ b ∉ L2.rho
theorem Keep.mono {L L2 : Lv} {H H2 : Hp} (k : Keep L H L2 H2) : Mono L H L2 H2 :=
  ⟨k.rho, fun b o e h1 h2 => ⟨(k.keep b o e h1).1, (k.keep b o e h1).2, by rw [k.pi]; exact h2⟩⟩
theorem Keep.refl {L : Lv} {H : Hp} : Keep L H L H := ⟨rfl, List.prefix_refl _, fun _ _ e h => ⟨e, h⟩⟩
theorem Keep.trans {L L1 L2 : Lv} {H H1 H2 : Hp} (a : Keep L H L1 H1) (b : Keep L1 H1 L2 H2) : Keep L H L2 H2 :=
  ⟨b.pi.trans a.pi, a.rho.trans b.rho, fun c o e h => b.keep c o (a.keep c o e h).1 (a.keep c o e h).2⟩
theorem Mono.refl {L : Lv} {H : Hp} : Mono L H L H := Keep.refl.mono
theorem Mono.trans {L L1 L2 : Lv} {H H1 H2 : Hp} (a : Mono L H L1 H1) (b : Mono L1 H1 L2 H2) : Mono L H L2 H2 :=
  ⟨a.rho.trans b.rho, fun c o e h h' => let ⟨e1, h1, h2⟩ := a.keep c o e h h'; b.keep c o e1 h1 h2⟩
theorem prefix_get {α : Type} {l l2 : List α} (h : l <+: l2) {i : Nat} {a : α} (e : l[i]? = some a) : l2[i]? = some a := by
  obtain ⟨r, rfl⟩ := h
  rw [List.getElem?_append_left (List.getElem?_eq_some_iff.mp e).1]; exact e
section
variable {K : PySem.W.Frag} {L L2 : Lv} {H H2 : Hp}
theorem Mono.rd {a : Addr} {o : HO} (m : Mono L H L2 H2) (h1 : a ∉ L.rho) (h2 : a ∉ L.pi) (r : Rd H a o) : a ∉ L2.rho ∧ a ∉ L2.pi ∧ Rd H2 a o := by
  rcases r with e | ⟨ob, e⟩
  · obtain ⟨q, q1, q2⟩ := m.keep _ _ e h1 h2
    exact ⟨q1, q2, .inl q⟩
  · obtain ⟨q, q1, q2⟩ := m.keep _ _ e h1 h2
    exact ⟨q1, q2, .inr ⟨ob, q⟩⟩
theorem FzT.mono {a : Addr} {vs : List V} (m : Mono L H L2 H2) (h : FzT K L H a vs) : FzT K L2 H2 a vs := by
  rcases h with ⟨h1, h2, r⟩ | h
  · exact .inl (m.rd h1 h2 r)
  · exact .inr h
theorem FzS.mono {a : Addr} {vs : List V} (m : Mono L H L2 H2) (h : FzS K L H a vs) : FzS K L2 H2 a vs := by
  rcases h with ⟨h1, h2, r⟩ | h
  · exact .inl (m.rd h1 h2 r)
  · exact .inr h
theorem FzS.sq {a : Addr} {vs : List V} (h : FzS K L H a vs) : SqL K H a vs := by
  rcases h with ⟨_, _, r⟩ | h
  · exact .inl r
  · exact .inr h
theorem FzL.mono {a : Addr} {vs : List V} (m : Mono L H L2 H2) (h : FzL L H a vs) : FzL L2 H2 a vs := by
  obtain ⟨q, q1, q2⟩ := m.keep _ _ h.2.2 h.1 h.2.1
  exact ⟨q1, q2, q⟩
theorem FzD.mono {a : Addr} {kvs : List (Key × V)} (m : Mono L H L2 H2) (h : FzD L H a kvs) : FzD L2 H2 a kvs := by
  obtain ⟨q, q1, q2⟩ := m.keep _ _ h.2.2 h.1 h.2.1
  exact ⟨q1, q2, q⟩
theorem FzO.mono {a C dx : Addr} {fvs : List (Str × V)} (m : Mono L H L2 H2) (h : FzO L H a C dx fvs) : FzO L2 H2 a C dx fvs := by
  obtain ⟨q, q1, q2⟩ := m.keep _ _ h.2.2 h.1 h.2.1
  exact ⟨q1, q2, q⟩
theorem FzT.sq {a : Addr} {vs : List V} (h : FzT K L H a vs) : SqT K H a vs := by
  rcases h with ⟨_, _, r⟩ | h
  · exact .inl r
  · exact .inr h
theorem FzL.sq {a : Addr} {vs : List V} (h : FzL L H a vs) : SqL K H a vs := .inl (.inl h.2.2)
mutual
theorem RD.mono (m : Mono L H L2 H2) : ∀ (d : D) (v : V), RD K L H d v → RD K L2 H2 d v
  | .non, _, h => h
  | .bl _, _, h => h
  | .int _, _, h => h
  | .str _, _, h => h
  | .tup xs, _, h => by
    simp only [RD] at h ⊢
    obtain ⟨a, vs, e, f, r⟩ := h
    exact ⟨a, vs, e, f.mono m, RDs.mono m xs vs r⟩
  | .lst xs, _, h => by
    simp only [RD] at h ⊢
    obtain ⟨a, vs, e, f, r⟩ := h
    exact ⟨a, vs, e, f.mono m, RDs.mono m xs vs r⟩
  | .dct ks xs, _, h => by
    simp only [RD] at h ⊢
    obtain ⟨a, vs, e, f, l, r⟩ := h
    exact ⟨a, vs, e, f.mono m, l, RDs.mono m xs vs r⟩
  | .ref l, _, h => by
    simp only [RD] at h ⊢
    obtain ⟨a, e, q⟩ := h
    exact ⟨a, e, prefix_get m.rho q⟩
  | .scr ns, _, h => by
    simp only [RD] at h ⊢
    obtain ⟨a, e, q⟩ := h
    exact ⟨a, e, q.mono m⟩
  | .exc _ _, _, h => h
  | .obj fs xs, _, h => by
    simp only [RD] at h ⊢
    obtain ⟨a, C, dx, vs, e, f, c, l, r⟩ := h
    exact ⟨a, C, dx, vs, e, f.mono m, c, l, RDs.mono m xs vs r⟩
theorem RDs.mono (m : Mono L H L2 H2) : ∀ (ds : List D) (vs : List V), RDs K L H ds vs → RDs K L2 H2 ds vs
  | [], _, h => h
  | x :: xs, _, h => by
    simp only [RDs] at h ⊢
    obtain ⟨w, ws, e, r, rs⟩ := h
    exact ⟨w, ws, e, RD.mono m x w r, RDs.mono m xs ws rs⟩
end
theorem RDs.nil : RDs K L H [] [] := rfl
theorem RDs.cons {x : D} {xs : List D} {v : V} {vs : List V} (h : RD K L H x v) (hs : RDs K L H xs vs) : RDs K L H (x :: xs) (v :: vs) := ⟨v, vs, rfl, h, hs⟩
theorem RDs.length : ∀ {ds : List D} {vs : List V}, RDs K L H ds vs → ds.length = vs.length
  | [], _, h => by simp only [RDs] at h; subst h; rfl
  | x :: xs, _, h => by
    simp only [RDs] at h
    obtain ⟨w, ws, rfl, _, r⟩ := h
    simp [RDs.length r]
theorem RDs.get : ∀ {ds : List D} {vs : List V} {i : Nat} {d : D}, RDs K L H ds vs → ds[i]? = some d → ∃ v, vs[i]? = some v ∧ RD K L H d v
  | [], _, _, _, _, e => by simp at e
  | x :: xs, _, i, d, h, e => by
    simp only [RDs] at h
    obtain ⟨w, ws, rfl, r, rs⟩ := h
    cases i with
    | zero => simp at e; subst e; exact ⟨w, rfl, r⟩
    | succ i => simpa using RDs.get rs (by simpa using e)
theorem RDs.get' : ∀ {ds : List D} {vs : List V} {i : Nat} {v : V}, RDs K L H ds vs → vs[i]? = some v → ∃ d, ds[i]? = some d ∧ RD K L H d v
  | [], _, _, _, h, e => by simp only [RDs] at h; subst h; simp at e
  | x :: xs, _, i, v, h, e => by
    simp only [RDs] at h
    obtain ⟨w, ws, rfl, r, rs⟩ := h
    cases i with
    | zero => simp at e; subst e; exact ⟨x, rfl, r⟩
    | succ i => simpa using RDs.get' rs (by simpa using e)
theorem RDs.append : ∀ {ds es : List D} {vs ws : List V}, RDs K L H ds vs → RDs K L H es ws → RDs K L H (ds ++ es) (vs ++ ws)
  | [], _, _, _, h, h' => by simp only [RDs] at h; subst h; exact h'
  | x :: xs, _, _, _, h, h' => by
    simp only [RDs] at h
    obtain ⟨w, ws, rfl, r, rs⟩ := h
    exact .cons r (RDs.append rs h')
theorem RDs.take : ∀ {ds : List D} {vs : List V} (n : Nat), RDs K L H ds vs → RDs K L H (ds.take n) (vs.take n)
  | _, _, 0, _ => rfl
  | [], _, n + 1, h => by simp only [RDs] at h; subst h; rfl
  | x :: xs, _, n + 1, h => by
    simp only [RDs] at h
    obtain ⟨w, ws, rfl, r, rs⟩ := h
    exact .cons r (RDs.take n rs)
theorem RDs.drop : ∀ {ds : List D} {vs : List V} (n : Nat), RDs K L H ds vs → RDs K L H (ds.drop n) (vs.drop n)
  | _, _, 0, h => h
  | [], _, n + 1, h => by simp only [RDs] at h; subst h; rfl
  | x :: xs, _, n + 1, h => by
    simp only [RDs] at h
    obtain ⟨w, ws, rfl, r, rs⟩ := h
    exact RDs.drop n rs
theorem RDs.set {d : D} {v : V} (q : RD K L H d v) : ∀ {ds : List D} {vs : List V} (i : Nat), RDs K L H ds vs → RDs K L H (ds.set i d) (vs.set i v)
  | [], _, _, h => by simp only [RDs] at h; subst h; rfl
  | x :: xs, _, 0, h => by
    simp only [RDs] at h
    obtain ⟨w, ws, rfl, r, rs⟩ := h
    exact .cons q rs
  | x :: xs, _, i + 1, h => by
    simp only [RDs] at h
    obtain ⟨w, ws, rfl, r, rs⟩ := h
    exact .cons r (RDs.set q i rs)
end

/-- a live cell as it stands -/
def CellOk (K : PySem.W.Frag) (ca : Nat → Addr) (L : Lv) (H : Hp) (a : Addr) : Cell → Prop
  | .lst xs => ∃ vs, H a = some (.lst vs) ∧ RDs K L H xs vs
  | .dK ks xs => ∃ vs, H a = some (.dK (ks.zip vs)) ∧ ks.length = vs.length ∧ RDs K L H xs vs
  | .dT ks xs => ∃ vs, H a = some (.dT (ks.zip vs)) ∧ ks.length = vs.length ∧ RDs K L H xs vs
  | .ins c fs xs => ∃ dx vs, H a = some (.ins (ca c) dx (fs.zip vs)) ∧ fs.length = vs.length ∧ ClsF K (ca c) fs ∧ RDs K L H xs vs
structure SR (K : PySem.W.Frag) (ca : Nat → Addr) (L : Lv) (s : Store) (H : Hp) : Prop where
  len : L.rho.length = s.length
  nd : L.rho.Nodup
  cell : ∀ (l : Nat) (a : Addr) (c : Cell), L.rho[l]? = some a → s[l]? = some c → CellOk K ca L H a c
  pi : ∀ b ∈ L.pi, b ∉ L.rho ∧ ∃ o, H b = some o
def ER (K : PySem.W.Frag) (L : Lv) (H : Hp) (env : Env) (σ : St) : Prop := env.length = σ.length ∧ ∀ (i : Nat) (d : D), env[i]? = some (some d) → ∃ v, σ[i]? = some (some v) ∧ RD K L H d v
section
variable {K : PySem.W.Frag} {ca : Nat → Addr} {L L2 : Lv} {H H2 : Hp} {s : Store} {env : Env} {σ : St}
theorem ER.mono (e : ER K L H env σ) (m : Mono L H L2 H2) : ER K L2 H2 env σ := ⟨e.1, fun i d h => let ⟨v, h1, h2⟩ := e.2 i d h; ⟨v, h1, RD.mono m d v h2⟩⟩
theorem ER.set {i : Nat} {d : D} {v : V} (e : ER K L H env σ) (r : RD K L H d v) : ER K L H (env.set i (some d)) (σ.set i (some v)) := by
  refine ⟨by simp [e.1], fun j d' h => ?_⟩
  by_cases hj : i = j
  · subst hj
    by_cases hl : i < env.length
    · rw [List.getElem?_set_self hl] at h
      cases h
      exact ⟨v, by rw [List.getElem?_set_self (by rw [← e.1]; exact hl)], r⟩
    · rw [List.getElem?_eq_none (by simpa using hl)] at h; cases h
  · rw [List.getElem?_set_ne hj] at h
    obtain ⟨v', h1, h2⟩ := e.2 j d' h
    exact ⟨v', by rw [List.getElem?_set_ne hj]; exact h1, h2⟩
theorem CellOk.mono {a : Addr} {c : Cell} (h : CellOk K ca L H a c) (m : Mono L H L2 H2) (e : H2 a = H a) : CellOk K ca L2 H2 a c := by
  cases c with
  | lst xs => obtain ⟨vs, h1, h2⟩ := h; exact ⟨vs, by rw [e]; exact h1, RDs.mono m _ _ h2⟩
  | dK ks xs => obtain ⟨vs, h1, h2, h3⟩ := h; exact ⟨vs, by rw [e]; exact h1, h2, RDs.mono m _ _ h3⟩
  | dT ks xs => obtain ⟨vs, h1, h2, h3⟩ := h; exact ⟨vs, by rw [e]; exact h1, h2, RDs.mono m _ _ h3⟩
  | ins k fs xs => obtain ⟨dx, vs, h1, h2, hc, h3⟩ := h; exact ⟨dx, vs, by rw [e]; exact h1, h2, hc, RDs.mono m _ _ h3⟩
theorem CellOk.some {a : Addr} {c : Cell} (h : CellOk K ca L H a c) : ∃ o, H a = some o := by
  cases c with
  | lst xs => obtain ⟨vs, h1, h2⟩ := h; exact ⟨_, h1⟩
  | dK ks xs => obtain ⟨vs, h1, h2, h3⟩ := h; exact ⟨_, h1⟩
  | dT ks xs => obtain ⟨vs, h1, h2, h3⟩ := h; exact ⟨_, h1⟩
  | ins k fs xs => obtain ⟨dx, vs, h1, h2, h3⟩ := h; exact ⟨_, h1⟩
theorem SR.at (S : SR K ca L s H) {l : Nat} {a : Addr} (e : L.rho[l]? = some a) : ∃ c, s[l]? = some c ∧ CellOk K ca L H a c := by
  have hl : l < s.length := by rw [← S.len]; exact (List.getElem?_eq_some_iff.mp e).1
  exact ⟨s[l], List.getElem?_eq_getElem hl, S.cell l a _ e (List.getElem?_eq_getElem hl)⟩
theorem SR.at' (S : SR K ca L s H) {l : Nat} {c : Cell} (e : s[l]? = some c) : ∃ a, L.rho[l]? = some a ∧ CellOk K ca L H a c := by
  have hl : l < L.rho.length := by rw [S.len]; exact (List.getElem?_eq_some_iff.mp e).1
  exact ⟨L.rho[l], List.getElem?_eq_getElem hl, S.cell l _ c (List.getElem?_eq_getElem hl) e⟩
theorem SR.fresh (S : SR K ca L s H) {p : Addr} (h : H p = none) : p ∉ L.rho ∧ p ∉ L.pi := by
  constructor
  · intro hp
    obtain ⟨l, hl⟩ := List.getElem?_of_mem hp
    obtain ⟨c, _, k⟩ := S.at hl
    obtain ⟨o, e⟩ := k.some
    rw [h] at e; cases e
  · intro hp
    obtain ⟨_, o, e⟩ := S.pi p hp
    rw [h] at e; cases e
/-- a new object that is not changed -/
theorem SR.new (S : SR K ca L s H) {p : Addr} (h : H p = none) (o : HO) : Keep L H L (upd H p o) ∧ SR K ca L s (upd H p o) := by
  have k : Keep L H L (upd H p o) := ⟨rfl, List.prefix_refl _, fun b u e hb => ⟨by rw [upd_ne (ne_of_none e h)]; exact e, hb⟩⟩
  refine ⟨k, S.len, S.nd, fun l a c e1 e2 => ?_, fun b hb => ⟨(S.pi b hb).1, ?_⟩⟩
  · have q := S.cell l a c e1 e2
    refine q.mono k.mono ?_
    obtain ⟨u, hu⟩ := q.some
    rw [upd_ne (ne_of_none hu h)]
  · obtain ⟨u, hu⟩ := (S.pi b hb).2
    exact ⟨u, by rw [upd_ne (ne_of_none hu h)]; exact hu⟩
/-- a new live cell -/
theorem SR.alloc (S : SR K ca L s H) {p : Addr} (h : H p = none) {o : HO} {c : Cell} (hc : CellOk K ca ⟨L.rho ++ [p], L.pi⟩ (upd H p o) p c) :
    Keep L H ⟨L.rho ++ [p], L.pi⟩ (upd H p o) ∧ SR K ca ⟨L.rho ++ [p], L.pi⟩ (s ++ [c]) (upd H p o) := by
  have f := S.fresh h
  have k : Keep L H ⟨L.rho ++ [p], L.pi⟩ (upd H p o) := ⟨rfl, List.prefix_append _ _, fun b u e hb => ⟨by rw [upd_ne (ne_of_none e h)]; exact e, by
    intro hm
    rcases List.mem_append.mp hm with hm | hm
    · exact hb hm
    · simp at hm; subst hm; rw [h] at e; cases e⟩⟩
  refine ⟨k, by simp [S.len], ?_, fun l a c' e1 e2 => ?_, fun b hb => ?_⟩
  · show (L.rho ++ [p]).Nodup
    rw [List.nodup_append]
    exact ⟨S.nd, by simp, fun a ha b hb => by simp at hb; subst hb; rintro rfl; exact f.1 ha⟩
  · by_cases hl : l < L.rho.length
    · have e1' : L.rho[l]? = some a := by rw [← e1]; exact (List.getElem?_append_left hl).symm
      have e2' : s[l]? = some c' := by rw [← e2]; exact (List.getElem?_append_left (by rw [← S.len]; exact hl)).symm
      have q := S.cell l a c' e1' e2'
      refine q.mono k.mono ?_
      obtain ⟨u, hu⟩ := q.some
      rw [upd_ne (ne_of_none hu h)]
    · have hl2 : l = L.rho.length := by
        have := (List.getElem?_eq_some_iff.mp e1).1
        simp at this; omega
      subst hl2
      have e1' : p = a := by simpa using e1
      have e2' : c = c' := by rw [S.len] at e2; simpa using e2
      subst e1'; subst e2'
      exact hc
  · obtain ⟨h1, u, hu⟩ := S.pi b hb
    refine ⟨fun hm => ?_, u, by rw [upd_ne (ne_of_none hu h)]; exact hu⟩
    rcases List.mem_append.mp hm with hm | hm
    · exact h1 hm
    · simp at hm; subst hm; rw [h] at hu; cases hu
/-- a live cell is written -/
theorem SR.write (S : SR K ca L s H) {l : Nat} {a : Addr} (e : L.rho[l]? = some a) {o : HO} {c : Cell} (hc : CellOk K ca L (upd H a o) a c) : Keep L H L (upd H a o) ∧ SR K ca L (s.set l c) (upd H a o) := by
  have ha : a ∈ L.rho := List.mem_of_getElem? e
  have k : Keep L H L (upd H a o) := ⟨rfl, List.prefix_refl _, fun b u eb hb => ⟨by rw [upd_ne (show b ≠ a from fun z => hb (by rw [z]; exact ha))]; exact eb, hb⟩⟩
  refine ⟨k, by simp [S.len], S.nd, fun j b c' e1 e2 => ?_, fun b hb => ?_⟩
  · by_cases hj : l = j
    · subst hj
      rw [e] at e1; cases e1
      have hl : l < s.length := by rw [← S.len]; exact (List.getElem?_eq_some_iff.mp e).1
      rw [List.getElem?_set_self hl] at e2
      cases e2
      exact hc
    · rw [List.getElem?_set_ne hj] at e2
      refine (S.cell j b c' e1 e2).mono k.mono ?_
      rw [upd_ne]
      rintro rfl
      exact hj (nd_ix S.nd e e1)
  · obtain ⟨h1, u, hu⟩ := S.pi b hb
    exact ⟨h1, u, by rw [upd_ne (show b ≠ a from fun z => h1 (by rw [z]; exact ha))]; exact hu⟩
end

/-! ### results -/
inductive R (α : Type) where
  | ok (a : α) (s : Store) | exc (c : Nat) (s : Store) | bad
def R.bind {α β : Type} (r : R α) (k : α → Store → R β) : R β := match r with
  | .ok a s => k a s
  | .exc c s => .exc c s
  | .bad => .bad
@[simp] theorem R.bind_ok {α β : Type} (a : α) (s : Store) (k : α → Store → R β) : (R.ok a s).bind k = k a s := rfl
@[simp] theorem R.bind_exc {α β : Type} (c : Nat) (s : Store) (k : α → Store → R β) : (R.exc c s : R α).bind k = .exc c s := rfl
@[simp] theorem R.bind_bad {α β : Type} (k : α → Store → R β) : (R.bad : R α).bind k = .bad := rfl
theorem R.bind_assoc {α β γ : Type} (r : R α) (k : α → Store → R β) (k2 : β → Store → R γ) : (r.bind k).bind k2 = r.bind fun a s => (k a s).bind k2 := by cases r <;> rfl
abbrev EM := Env → Store → R D
abbrev TM := Env → Store → R Bool
abbrev AM := Env → Store → R (List D)
/-- a result's reading: what is wanted of each value that may stand for it -/
def post {α β : Type} (K : PySem.W.Frag) (ca : Nat → Addr) (RA : Lv → Hp → α → β → Prop) (L : Lv) (H : Hp) (r : R α) (Q : β → Hp → Prop) (E : Nat → Hp → Prop) : Prop := match r with
  | .ok a s => ∀ L' b H', Keep L H L' H' → SR K ca L' s H' → RA L' H' a b → Q b H'
  | .exc c s => ∀ L' H', Keep L H L' H' → SR K ca L' s H' → E c H'
  | .bad => False
section
variable {α β γ δ : Type} {K : PySem.W.Frag} {ca : Nat → Addr} {RA : Lv → Hp → α → β → Prop} {RB : Lv → Hp → γ → δ → Prop} {L L2 : Lv} {H H2 : Hp} {r : R α} {Q Q' : β → Hp → Prop} {E E' : Nat → Hp → Prop}
theorem post.from (p : post K ca RA L H r Q E) (k : Keep L H L2 H2) : post K ca RA L2 H2 r Q E := by
  cases r with
  | ok a s => exact fun L' b H' k' => p L' b H' (k.trans k')
  | exc c s => exact fun L' H' k' => p L' H' (k.trans k')
  | bad => exact p
theorem post.imp (p : post K ca RA L H r Q E) (h : ∀ b H', Q b H' → Q' b H') : post K ca RA L H r Q' E := by
  cases r with
  | ok a s => exact fun L' b H' k S q => h _ _ (p L' b H' k S q)
  | exc c s => exact p
  | bad => exact p
theorem post.impE (p : post K ca RA L H r Q E) (h : ∀ c H', E c H' → E' c H') : post K ca RA L H r Q E' := by
  cases r with
  | ok a s => exact p
  | exc c s => exact fun L' H' k S => h _ _ (p L' H' k S)
  | bad => exact p
/-- what is had behind the first of two -/
structure Had (K : PySem.W.Frag) (ca : Nat → Addr) (RA : Lv → Hp → α → β → Prop) (L : Lv) (H : Hp) (b : β) (H1 : Hp) (C : α → Lv → Store → Prop) : Prop where
  ex : ∃ L1 s1 a, Keep L H L1 H1 ∧ SR K ca L1 s1 H1 ∧ RA L1 H1 a b ∧ C a L1 s1
theorem post.bind {k : α → Store → R γ} {Q2 : δ → Hp → Prop} (p : post K ca RB L H (r.bind k) Q2 E) :
    post K ca RA L H r (fun b H1 => ∃ L1 s1 a, Keep L H L1 H1 ∧ SR K ca L1 s1 H1 ∧ RA L1 H1 a b ∧ post K ca RB L1 H1 (k a s1) Q2 E) E := by
  cases r with
  | ok a s => exact fun L' b H' k' S q => ⟨L', s, a, k', S, q, p.from k'⟩
  | exc c s => exact p
  | bad => exact p
end
/-! ### judgements -/
def wE (ca : Nat → Addr) (W : WX) (σ : St) : Nat → Hp → Prop := fun c H' => W (.ref (ca c)) none σ H'
def tE (K : PySem.W.Frag) (ca : Nat → Addr) (W : WX) (m : EM) : TE := fun σ H Q => ∃ L env s, SR K ca L s H ∧ ER K L H env σ ∧ post K ca (RD K) L H (m env s) Q (wE ca W σ)
def tT (K : PySem.W.Frag) (ca : Nat → Addr) (W : WX) (m : TM) : TT := fun σ H Q => ∃ L env s, SR K ca L s H ∧ ER K L H env σ ∧ post K ca (fun _ _ a b => a = b) L H (m env s) Q (wE ca W σ)
def tA (K : PySem.W.Frag) (ca : Nat → Addr) (W : WX) (m : AM) : TA := fun σ H Q => ∃ L env s, SR K ca L s H ∧ ER K L H env σ ∧ post K ca (RDs K) L H (m env s) Q (wE ca W σ)
/-- the expression e is worked by m -/
def DE (X : Cx) (ca : Nat → Addr) (W : WX) (e : Expr) (m : EM) : Prop := PE X e (tE X.K ca W m)
def DT (X : Cx) (ca : Nat → Addr) (W : WX) (e : Expr) (m : TM) : Prop := PT X e (tT X.K ca W m)
def DW (X : Cx) (ca : Nat → Addr) (W : WX) (e : Expr) (m : TM) : Prop := PW X e (tT X.K ca W m)
def DA (X : Cx) (ca : Nat → Addr) (W : WX) (es : List Expr) (m : AM) : Prop := PA X es (tA X.K ca W m)
theorem PE.imp {X : Cx} {e : Expr} {t t' : TE} (h : PE X e t) (i : ∀ σ H Q, t' σ H Q → t σ H Q) : PE X e t' := ⟨fun pins s σ H Q I q => h.run pins s σ H Q I (i σ H Q q)⟩
theorem PT.imp {X : Cx} {e : Expr} {t t' : TT} (h : PT X e t) (i : ∀ σ H Q, t' σ H Q → t σ H Q) : PT X e t' := ⟨fun pins s σ H Q I q => h.run pins s σ H Q I (i σ H Q q)⟩
theorem PW.imp {X : Cx} {e : Expr} {t t' : TT} (h : PW X e t) (i : ∀ σ H Q, t' σ H Q → t σ H Q) : PW X e t' := ⟨fun w pins s σ H Q I q => h.run w pins s σ H Q I (i σ H Q q)⟩
theorem PA.imp {X : Cx} {e : List Expr} {t t' : TA} (h : PA X e t) (i : ∀ σ H Q, t' σ H Q → t σ H Q) : PA X e t' := ⟨fun p pins s σ H Q I q => h.run p pins s σ H Q I (i σ H Q q)⟩
theorem PS.imp {X : Cx} {e : Stmt} {t t' : TS} (h : PS X e t) (i : ∀ D σ H, t' D σ H → t D σ H) : PS X e t' := ⟨fun pins s σ H D I q => h.run pins s σ H D I (i D σ H q)⟩
theorem PSs.imp {X : Cx} {e : List Stmt} {t t' : TS} (h : PSs X e t) (i : ∀ D σ H, t' D σ H → t D σ H) : PSs X e t' := ⟨fun pins s σ H D I q => h.run pins s σ H D I (i D σ H q)⟩
theorem PG.imp {X : Cx} {e : Expr} {t t' : TG} (h : PG X e t) (i : ∀ v σ H Q, t' v σ H Q → t v σ H Q) : PG X e t' := ⟨fun pins s σ H v u Q I r q => h.run pins s σ H v u Q I r (i v σ H Q q)⟩
theorem PGs.imp {X : Cx} {e : List Expr} {t t' : TGs} (h : PGs X e t) (i : ∀ v σ H Q, t' v σ H Q → t v σ H Q) : PGs X e t' := ⟨fun pins s σ H v u Q I r q => h.run pins s σ H v u Q I r (i v σ H Q q)⟩
theorem PI.imp {X : Cx} {tg e : Expr} {t t' : TI} (h : PI X tg e t) (i : ∀ σ H Q, t' σ H Q → t σ H Q) : PI X tg e t' := ⟨fun pins s σ H Q I q => h.run pins s σ H Q I (i σ H Q q)⟩
end DE
/-! DE1: names, constants, operators, comparisons, tests, displays, subscripts -/
namespace DE
open PySem PySem.Spec PyProof.Rows L2
section
variable {X : Cx} {ca : Nat → Addr} {W : WX} {e a b c : Expr} {es : List Expr} {m ma mb mc : EM} {pos : Pos} {L : Lv} {H : Hp} {s : Store}

/-! ### names and constants -/
def eVar (i : Nat) : EM := fun env s => match env[i]? with | some (some d) => .ok d s | _ => .bad
def eC (d : D) : EM := fun _ s => .ok d s
theorem de_var (i : Nat) {x : Str} {pos : Pos} (hN : X.N[i]? = some x := by rfl) (hv : Vis X.env.scope x := by first | exact Or.inl rfl | exact Or.inr (Or.inl rfl) | exact Or.inr (Or.inr rfl)) (hd : (x == ("__debug__" : Str)) = false := by decide)
    (hcd : (x == ("__classdict__" : Str)) = false := by decide) : DE X ca W (.Name x pos) (eVar i) := PE.imp (pe_var hN hv hd hcd) fun σ H Q ⟨L, env, s, S, e, p⟩ => by
  unfold eVar at p
  cases h : env[i]? with
  | none => rw [h] at p; exact p.elim
  | some o =>
    cases o with
    | none => rw [h] at p; exact p.elim
    | some d =>
      rw [h] at p
      obtain ⟨v, hv, r⟩ := e.2 i d h
      exact ⟨v, hv, p L v H Keep.refl S r⟩
theorem de_const {v : V} {d : D} (h : PE X e (tC v)) (r : ∀ L H, RD X.K L H d v) : DE X ca W e (eC d) := PE.imp h fun σ H Q ⟨L, env, s, S, e, p⟩ => p L v H Keep.refl S (r L H)
theorem de_int {i : Int} {j : Nat} {pos : Pos} : DE X ca W (.Constant (.int i) j pos) (eC (.int i)) := de_const pe_int fun _ _ => rfl
theorem de_str {x : Str} {j : Nat} {pos : Pos} : DE X ca W (.Constant (.str x) j pos) (eC (.str x)) := de_const pe_str fun _ _ => rfl
theorem de_bl {b : Bool} {j : Nat} {pos : Pos} : DE X ca W (.Constant (.bool b) j pos) (eC (.bl b)) := de_const pe_bl fun _ _ => rfl
theorem de_non {j : Nat} {pos : Pos} : DE X ca W (.Constant .none j pos) (eC .non) := de_const pe_non fun _ _ => rfl
/-- a module's constant -/
theorem de_glob {x : Str} {u : Value} {v : V} {d : D} (hg : Gl X x) (hm : X.mg x = some u) (r : RelV v u) (rd : ∀ L H, RD X.K L H d v) (hd : (x == ("__debug__" : Str)) = false := by decide) : DE X ca W (.Name x pos) (eC d) :=
  de_const (pe_glob hg hm r hd) rd

/-! ### operators -/
/-- what an operator does with two values, and the hand layer's reading -/
def Imp2 (K : PySem.W.Frag) (ca : Nat → Addr) (f : D → D → Store → R D) (r : R2) : Prop := ∀ (L : Lv) (H : Hp) (s : Store) (x y : D) (v u : V) (Q : VK) (E : Nat → Hp → Prop),
  SR K ca L s H → RD K L H x v → RD K L H y u → post K ca (RD K) L H (f x y s) Q E → r v u H Q
def e2 (f : D → D → Store → R D) (ma mb : EM) : EM := fun env s => (ma env s).bind fun x s => (mb env s).bind fun y s => f x y s
theorem tOp_of {f : D → D → Store → R D} {r : R2} (hi : Imp2 X.K ca f r) : ∀ σ H Q, tE X.K ca W (e2 f ma mb) σ H Q → tOp r (tE X.K ca W ma) (tE X.K ca W mb) σ H Q := fun σ H Q ⟨L, env, s, S, e, p⟩ =>
  ⟨L, env, s, S, e, p.bind.imp fun v H1 ⟨L1, s1, d, k1, S1, r1, p1⟩ => ⟨L1, env, s1, S1, e.mono k1.mono, p1.bind.imp fun u H2 ⟨L2, s2, d2, k2, S2, r2, p2⟩ => hi L2 H2 s2 d d2 v u Q _ S2 (RD.mono k2.mono _ _ r1) r2 p2⟩⟩
theorem de_bin {op : Operator} {f : D → D → Store → R D} {r : R2} (ho : OpR X (binaryOp op) r) (hi : Imp2 X.K ca f r) (ha : DE X ca W a ma) (hb : DE X ca W b mb) : DE X ca W (.BinOp a op b pos) (e2 f ma mb) :=
  PE.imp (pe_op ho ha hb) (tOp_of hi)
theorem de_cmp {op : CmpOp} {f : D → D → Store → R D} {r : R2} (ho : OpR X (compareOp op) r) (hi : Imp2 X.K ca f r) (ha : DE X ca W a ma) (hb : DE X ca W b mb) (hm : behindInMarks op b = false := by rfl) : DE X ca W (.Compare a [op] [b] pos) (e2 f ma mb) :=
  PE.imp (pe_cmpR ho ha hb hm) (tOp_of hi)
/-- a chain of two -/
def eChain (f g : D → D → Store → R D) (ma mb mc : EM) : EM := fun env s => (ma env s).bind fun x s => (mb env s).bind fun y s => (f x y s).bind fun z s => match z with
  | .bl true => (mc env s).bind fun w s => g y w s
  | .bl false => .ok (.bl false) s
  | _ => .bad
theorem de_chain {op op' : CmpOp} {f g : D → D → Store → R D} {r r' : R2} (ho : OpR X (compareOp op) r) (ho' : OpR X (compareOp op') r') (hi : Imp2 X.K ca f r) (hi' : Imp2 X.K ca g r') (ha : DE X ca W a ma) (hb : DE X ca W b mb) (hc : DE X ca W c mc)
    (hm : lastMarks [op, op'] [b, c] = false := by with_unfolding_all rfl) : DE X ca W (.Compare a [op, op'] [b, c] pos) (eChain f g ma mb mc) :=
  PE.imp (pe_chain ho ho' ha hb hc hm) fun σ H Q ⟨L, env, s, S, e, p⟩ =>
    ⟨L, env, s, S, e, p.bind.imp fun v H1 ⟨L1, s1, d, k1, S1, r1, p1⟩ => ⟨L1, env, s1, S1, e.mono k1.mono, p1.bind.imp fun u H2 ⟨L2, s2, d2, k2, S2, r2, p2⟩ =>
      hi L2 H2 s2 d d2 v u _ _ S2 (RD.mono k2.mono _ _ r1) r2 (p2.bind.imp fun z H3 ⟨L3, s3, d3, k3, S3, r3, p3⟩ => by
        cases d3 with
        | bl q =>
          simp only [RD] at r3
          refine ⟨q, r3, ?_⟩
          cases q with
          | true =>
            refine iteT ⟨L3, env, s3, S3, ((e.mono k1.mono).mono k2.mono).mono k3.mono, p3.bind.imp fun w' H4 ⟨L4, s4, d4, k4, S4, r4, p4⟩ => ?_⟩
            exact hi' L4 H4 s4 d2 d4 u w' Q _ S4 (RD.mono k4.mono _ _ (RD.mono k3.mono _ _ r2)) r4 p4
          | false => exact iteF (p3 L3 _ H3 Keep.refl S3 rfl)
        | _ => exact p3.elim)⟩⟩

/-! ### lists that are read -/
def rdL (s : Store) : D → Option (List D)
  | .lst xs => some xs
  | .ref l => match s[l]? with | some (.lst xs) => some xs | _ => none
  | _ => none
theorem rdL_ok {K : PySem.W.Frag} (S : SR K ca L s H) {d : D} {v : V} {xs : List D} (r : RD K L H d v) (e : rdL s d = some xs) : ∃ a vs, v = .ref a ∧ H a = some (.lst vs) ∧ RDs K L H xs vs := by
  cases d with
  | lst ys =>
    cases e
    simp only [RD] at r
    obtain ⟨a, vs, e, f, q⟩ := r
    exact ⟨a, vs, e, f.2.2, q⟩
  | ref l =>
    simp only [RD] at r
    obtain ⟨a, rfl, ea⟩ := r
    obtain ⟨c, ec, k⟩ := S.at ea
    unfold rdL at e
    simp only [ec] at e
    cases c with
    | lst ys => cases e; obtain ⟨vs, h1, h2⟩ := k; exact ⟨a, vs, rfl, h1, h2⟩
    | _ => cases e
  | _ => cases e
end
end DE
/-! DE2: freezing, equality, operators -/
namespace DE
open PySem PySem.Spec PyProof.Rows L2

/-! ### refs put in -/
mutual
def sub (f : Nat → Option D) : D → Option D
  | .tup xs => (subs f xs).map .tup
  | .lst xs => (subs f xs).map .lst
  | .dct ks xs => (subs f xs).map (.dct ks)
  | .ref l => f l
  | .scr ns => some (.scr ns)
  | .exc c a => some (.exc c a)
  | .obj fs xs => (subs f xs).map (.obj fs)
  | .non => some .non
  | .bl b => some (.bl b)
  | .int i => some (.int i)
  | .str x => some (.str x)
def subs (f : Nat → Option D) : List D → Option (List D)
  | [] => some []
  | x :: xs => match sub f x with
    | none => none
    | some y => match subs f xs with
      | none => none
      | some ys => some (y :: ys)
end
/-- the cells from n on by what they hold, k deep -/
def fr (s : Store) (n : Nat) : Nat → Nat → Option D
  | 0, l => if l < n then some (.ref l) else none
  | k + 1, l => if l < n then some (.ref l) else match s[l]? with
    | some (.lst xs) => (subs (fr s n k) xs).map .lst
    | some (.dK ks xs) => (subs (fr s n k) xs).map (.dct ks)
    | some (.ins _ fs xs) => (subs (fr s n k) xs).map (.obj fs)
    | _ => none
abbrev frz (s : Store) (n : Nat) (d : D) : Option D := sub (fr s n 3) d
mutual
/-- no ref within -/
def pureD : D → Bool
  | .tup xs => pureDs xs
  | .lst xs => pureDs xs
  | .dct _ xs => pureDs xs
  | .ref _ => false
  | .scr _ => true
  | .exc _ _ => true
  | .obj _ xs => pureDs xs
  | .non => true
  | .bl _ => true
  | .int _ => true
  | .str _ => true
def pureDs : List D → Bool
  | [] => true
  | x :: xs => pureD x && pureDs xs
end
mutual
theorem sub_pure (f : Nat → Option D) : ∀ d : D, pureD d = true → sub f d = some d
  | .tup xs, h => by simp only [sub]; rw [subs_pure f xs (by simpa only [pureD] using h)]; rfl
  | .lst xs, h => by simp only [sub]; rw [subs_pure f xs (by simpa only [pureD] using h)]; rfl
  | .dct ks xs, h => by simp only [sub]; rw [subs_pure f xs (by simpa only [pureD] using h)]; rfl
  | .ref l, h => by simp [pureD] at h
  | .scr _, _ => by simp only [sub]
  | .exc _ _, _ => by simp only [sub]
  | .obj fs xs, h => by simp only [sub]; rw [subs_pure f xs (by simpa only [pureD] using h)]; rfl
  | .non, _ => by simp only [sub]
  | .bl _, _ => by simp only [sub]
  | .int _, _ => by simp only [sub]
  | .str _, _ => by simp only [sub]
theorem subs_pure (f : Nat → Option D) : ∀ ds : List D, pureDs ds = true → subs f ds = some ds
  | [], _ => by simp only [subs]
  | x :: xs, h => by
    simp only [pureDs, Bool.and_eq_true] at h
    simp only [subs]; rw [sub_pure f x h.1, subs_pure f xs h.2]
end
theorem pureDs_append {xs ys : List D} : pureDs (xs ++ ys) = (pureDs xs && pureDs ys) := by
  induction xs with
  | nil => simp [pureDs]
  | cons x xs ih => simp [pureDs, ih, Bool.and_assoc]
theorem pureDs_all {xs : List D} : pureDs xs = true ↔ ∀ x ∈ xs, pureD x = true := by
  induction xs with
  | nil => simp [pureDs]
  | cons x xs ih => simp [pureDs, ih]

section
variable {K : PySem.W.Frag} {ca : Nat → Addr} {L L0 : Lv} {H : Hp} {s : Store} {n : Nat}
/-- the moment L0 within L: its cells are the first n -/
structure Within (L0 L : Lv) (n : Nat) : Prop where
  rho : L0.rho <+: L.rho
  len : L0.rho.length = n
  pi : L.pi = L0.pi
theorem Within.out (w : Within L0 L n) {a : Addr} (h : a ∉ L.rho) : a ∉ L0.rho := fun z => h (w.rho.subset z)
theorem Within.outp (w : Within L0 L n) {a : Addr} (h : a ∉ L.pi) : a ∉ L0.pi := by rw [← w.pi]; exact h
theorem FzT.within (w : Within L0 L n) {a : Addr} {vs : List V} (h : FzT K L H a vs) : FzT K L0 H a vs := by
  rcases h with ⟨h1, h2, r⟩ | h
  · exact .inl ⟨w.out h1, w.outp h2, r⟩
  · exact .inr h
theorem FzS.within (w : Within L0 L n) {a : Addr} {vs : List V} (h : FzS K L H a vs) : FzS K L0 H a vs := by
  rcases h with ⟨h1, h2, r⟩ | h
  · exact .inl ⟨w.out h1, w.outp h2, r⟩
  · exact .inr h
mutual
theorem sub_ok (w : Within L0 L n) {f : Nat → Option D} (hf : ∀ l d v, f l = some d → RD K L H (.ref l) v → RD K L0 H d v) : ∀ (d : D) (v : V) (d' : D), sub f d = some d' → RD K L H d v → RD K L0 H d' v
  | .tup xs, v, d', e, r => by
    simp only [sub] at e
    cases q : subs f xs with
    | none => rw [q] at e; cases e
    | some ys =>
      rw [q] at e; cases e
      simp only [RD] at r ⊢
      obtain ⟨a, vs, e, h, rs⟩ := r
      exact ⟨a, vs, e, h.within w, subs_ok w hf xs vs ys q rs⟩
  | .lst xs, v, d', e, r => by
    simp only [sub] at e
    cases q : subs f xs with
    | none => rw [q] at e; cases e
    | some ys =>
      rw [q] at e; cases e
      simp only [RD] at r ⊢
      obtain ⟨a, vs, e, h, rs⟩ := r
      exact ⟨a, vs, e, ⟨w.out h.1, w.outp h.2.1, h.2.2⟩, subs_ok w hf xs vs ys q rs⟩
  | .dct ks xs, v, d', e, r => by
    simp only [sub] at e
    cases q : subs f xs with
    | none => rw [q] at e; cases e
    | some ys =>
      rw [q] at e; cases e
      simp only [RD] at r ⊢
      obtain ⟨a, vs, e, h, l, rs⟩ := r
      exact ⟨a, vs, e, ⟨w.out h.1, w.outp h.2.1, h.2.2⟩, l, subs_ok w hf xs vs ys q rs⟩
  | .ref l, v, d', e, r => by
    simp only [sub] at e
    exact hf l d' v e r
  | .scr ns, v, d', e, r => by
    simp only [sub] at e; cases e
    simp only [RD] at r ⊢
    obtain ⟨a, rfl, q⟩ := r
    exact ⟨a, rfl, q.within w⟩
  | .exc _ _, v, d', e, r => by simp only [sub] at e; cases e; exact r
  | .obj fs xs, v, d', e, r => by
    simp only [sub] at e
    cases q : subs f xs with
    | none => rw [q] at e; cases e
    | some ys =>
      rw [q] at e; cases e
      simp only [RD] at r ⊢
      obtain ⟨a, C, dx, vs, e, h, c, l, rs⟩ := r
      exact ⟨a, C, dx, vs, e, ⟨w.out h.1, w.outp h.2.1, h.2.2⟩, c, l, subs_ok w hf xs vs ys q rs⟩
  | .non, v, d', e, r => by simp only [sub] at e; cases e; exact r
  | .bl _, v, d', e, r => by simp only [sub] at e; cases e; exact r
  | .int _, v, d', e, r => by simp only [sub] at e; cases e; exact r
  | .str _, v, d', e, r => by simp only [sub] at e; cases e; exact r
theorem subs_ok (w : Within L0 L n) {f : Nat → Option D} (hf : ∀ l d v, f l = some d → RD K L H (.ref l) v → RD K L0 H d v) : ∀ (ds : List D) (vs : List V) (ds' : List D), subs f ds = some ds' → RDs K L H ds vs → RDs K L0 H ds' vs
  | [], vs, ds', e, r => by simp only [subs] at e; cases e; exact r
  | x :: xs, vs, ds', e, r => by
    simp only [subs] at e
    cases q : sub f x with
    | none => rw [q] at e; cases e
    | some y =>
      rw [q] at e
      cases q2 : subs f xs with
      | none => rw [q2] at e; cases e
      | some ys =>
        rw [q2] at e; cases e
        simp only [RDs] at r
        obtain ⟨u, us, rfl, r1, r2⟩ := r
        exact .cons (sub_ok w hf x u y q r1) (subs_ok w hf xs us ys q2 r2)
end
theorem fr_ok (w : Within L0 L n) (S : SR K ca L s H) : ∀ (k l : Nat) (d : D) (v : V), fr s n k l = some d → RD K L H (.ref l) v → RD K L0 H d v := by
  have old : ∀ (l : Nat) (d : D) (v : V), (l < n → some (D.ref l) = some d → RD K L H (.ref l) v → RD K L0 H d v) := fun l d v hl e r => by
    cases e
    simp only [RD] at r ⊢
    obtain ⟨a, rfl, ea⟩ := r
    refine ⟨a, rfl, ?_⟩
    obtain ⟨t, ht⟩ := w.rho
    rw [← ht, List.getElem?_append_left (by rw [w.len]; exact hl)] at ea
    exact ea
  have out : ∀ {l : Nat} {a : Addr}, ¬ l < n → L.rho[l]? = some a → a ∉ L0.rho := fun {l a} hl ea hm => by
    obtain ⟨j, hj⟩ := List.getElem?_of_mem hm
    have hjn : j < n := by rw [← w.len]; exact (List.getElem?_eq_some_iff.mp hj).1
    have e2 := prefix_get w.rho hj
    have := nd_ix S.nd ea e2
    omega
  intro k
  induction k with
  | zero =>
    intro l d v e r
    unfold fr at e
    split at e
    · rename_i hl
      exact old l d v hl e r
    · cases e
  | succ k ih =>
    intro l d v e r
    unfold fr at e
    split at e
    · rename_i hl
      exact old l d v hl e r
    · rename_i hl
      have r' := r
      simp only [RD] at r'
      obtain ⟨a, rfl, ea⟩ := r'
      obtain ⟨c, ec, kk⟩ := S.at ea
      have hpi : a ∉ L0.pi := fun z => (S.pi a (by rw [w.pi]; exact z)).1 (List.mem_of_getElem? ea)
      rw [ec] at e
      cases c with
      | lst xs =>
        obtain ⟨vs, h1, h2⟩ := kk
        cases q : subs (fr s n k) xs with
        | none => simp only [q] at e; cases e
        | some ys =>
          simp only [q] at e; cases e
          simp only [RD]
          exact ⟨a, vs, rfl, ⟨out hl ea, hpi, h1⟩, subs_ok w ih xs vs ys q h2⟩
      | dK ks xs =>
        obtain ⟨vs, h1, h3, h2⟩ := kk
        cases q : subs (fr s n k) xs with
        | none => simp only [q] at e; cases e
        | some ys =>
          simp only [q] at e; cases e
          simp only [RD]
          exact ⟨a, vs, rfl, ⟨out hl ea, hpi, h1⟩, h3, subs_ok w ih xs vs ys q h2⟩
      | dT ks xs => cases e
      | ins c fs xs =>
        obtain ⟨dx, vs, h1, h3, hc, h2⟩ := kk
        cases q : subs (fr s n k) xs with
        | none => simp only [q] at e; cases e
        | some ys =>
          simp only [q] at e; cases e
          simp only [RD]
          exact ⟨a, _, dx, vs, rfl, ⟨out hl ea, hpi, h1⟩, hc, h3, subs_ok w ih xs vs ys q h2⟩
theorem frz_ok (w : Within L0 L n) (S : SR K ca L s H) {d d' : D} {v : V} (e : frz s n d = some d') (r : RD K L H d v) : RD K L0 H d' v := sub_ok w (fr_ok w S 3) d v d' e r
end

/-! ### equality -/
mutual
def pyOf : D → PyData
  | .tup xs => .tuple (pyOfs xs)
  | .lst xs => .list (pyOfs xs)
  | .dct _ _ => .dict []
  | .ref _ => .dict []
  | .scr _ => .dict []
  | .exc _ _ => .dict []
  | .obj _ _ => .dict []
  | .non => .none
  | .bl b => .bool b
  | .int i => .int i
  | .str x => .str x
def pyOfs : List D → List PyData
  | [] => []
  | x :: xs => pyOf x :: pyOfs xs
end
mutual
/-- may be compared: no dict, no ref; its texts are texts -/
def layD : D → Bool
  | .tup xs => layDs xs
  | .lst xs => layDs xs
  | .dct _ _ => false
  | .ref _ => false
  | .scr _ => false
  | .exc _ _ => false
  | .obj _ _ => false
  | .non => true
  | .bl _ => true
  | .int _ => true
  | .str x => strOk' x
def layDs : List D → Bool
  | [] => true
  | x :: xs => layD x && layDs xs
def strOk' (x : Str) : Bool := x.cps.all (· < 0x110000)
end
mutual
def depD : D → Nat
  | .tup xs => depDs xs + 1
  | .lst xs => depDs xs + 1
  | _ => 0
def depDs : List D → Nat
  | [] => 0
  | x :: xs => max (depD x) (depDs xs)
end
mutual
theorem lay_py : ∀ d : D, layD d = true → (pyOf d).canLay0 = true ∧ (pyOf d).depth = depD d
  | .tup xs, h => by
    have := lay_pys xs (by simpa only [layD] using h)
    simp only [pyOf, PyData.canLay0, PyData.depth, depD]
    exact ⟨this.1, by rw [this.2]⟩
  | .lst xs, h => by
    have := lay_pys xs (by simpa only [layD] using h)
    simp only [pyOf, PyData.canLay0, PyData.depth, depD]
    exact ⟨this.1, by rw [this.2]⟩
  | .dct _ _, h => by simp [layD] at h
  | .ref _, h => by simp [layD] at h
  | .scr _, h => by simp [layD] at h
  | .exc _ _, h => by simp [layD] at h
  | .obj _ _, h => by simp [layD] at h
  | .non, _ => ⟨rfl, rfl⟩
  | .bl _, _ => ⟨rfl, rfl⟩
  | .int _, _ => ⟨rfl, rfl⟩
  | .str x, h => ⟨by simpa only [pyOf, PyData.canLay0, PyData.strOk, layD, strOk'] using h, rfl⟩
theorem lay_pys : ∀ ds : List D, layDs ds = true → PyData.canLayAll0 (pyOfs ds) = true ∧ PyData.depthAll (pyOfs ds) = depDs ds
  | [], _ => ⟨rfl, rfl⟩
  | x :: xs, h => by
    simp only [layDs, Bool.and_eq_true] at h
    have h1 := lay_py x h.1
    have h2 := lay_pys xs h.2
    simp only [pyOfs, PyData.canLayAll0, PyData.depthAll, depDs, h1.1, h2.1, h1.2, h2.2]
    exact ⟨by simp, by simp⟩
end
def eqv (a b : D) : Bool := PyData.eqv (pyOf a) (pyOf b)
/-- the refs put in, four deep -/
abbrev res (s : Store) (d : D) : Option D := frz s 0 d
def eqD (neg : Bool) : D → D → Store → R D := fun x y s => match res s x, res s y with
  | some a, some b => if layD a = true ∧ layD b = true ∧ depD a ≤ 190 then .ok (.bl (if neg then !eqv a b else eqv a b)) s else .bad
  | _, _ => .bad
section
variable {K : PySem.W.Frag} {ca : Nat → Addr} {L : Lv} {H : Hp} {s : Store}
mutual
theorem dp_of {L0 : Lv} : ∀ (d : D) (v : V), layD d = true → RD K L0 H d v → Dp K H v (pyOf d)
  | .tup xs, v, h, r => by
    simp only [RD] at r
    obtain ⟨a, vs, rfl, f, rs⟩ := r
    simp only [pyOf]
    exact .tup f.sq (dps_of xs vs (by simpa only [layD] using h) rs)
  | .lst xs, v, h, r => by
    simp only [RD] at r
    obtain ⟨a, vs, rfl, f, rs⟩ := r
    simp only [pyOf]
    exact .lst f.sq (dps_of xs vs (by simpa only [layD] using h) rs)
  | .dct _ _, v, h, r => by simp [layD] at h
  | .ref _, v, h, r => by simp [layD] at h
  | .scr _, v, h, r => by simp [layD] at h
  | .exc _ _, v, h, r => by simp [layD] at h
  | .obj _ _, v, h, r => by simp [layD] at h
  | .non, v, h, r => by simp only [RD] at r; subst r; exact .non
  | .bl _, v, h, r => by simp only [RD] at r; subst r; exact .bl _
  | .int _, v, h, r => by simp only [RD] at r; subst r; exact .int _
  | .str x, v, h, r => by simp only [RD] at r; subst r; exact .str _
theorem dps_of {L0 : Lv} : ∀ (ds : List D) (vs : List V), layDs ds = true → RDs K L0 H ds vs → DpAll K H vs (pyOfs ds)
  | [], vs, h, r => by simp only [RDs] at r; subst r; exact .nil
  | x :: xs, vs, h, r => by
    simp only [layDs, Bool.and_eq_true] at h
    simp only [RDs] at r
    obtain ⟨u, us, rfl, r1, r2⟩ := r
    exact .cons (dp_of x u h.1 r1) (dps_of xs us h.2 r2)
end
/-- resolved: still what the value stands for, in an empty store -/
theorem res_ok (S : SR K ca L s H) {d d' : D} {v : V} (e : res s d = some d') (r : RD K L H d v) : RD K ⟨[], L.pi⟩ H d' v :=
  frz_ok (n := 0) (L0 := ⟨[], L.pi⟩) (L := L) ⟨List.nil_prefix, rfl, rfl⟩ S e r
end
def rEqP (K : PySem.W.Frag) (neg : Bool) : R2 := fun x y H Q => ∃ d e, Dp K H x d ∧ Dp K H y e ∧ d.canLay0 = true ∧ e.canLay0 = true ∧ d.depth ≤ 190 ∧ Q (.bl (if neg then !PyData.eqv d e else PyData.eqv d e)) H
section
variable {X : Cx} {ca : Nat → Addr}
theorem op_eqP (hu : X.A.units + 200 < cLine) : OpR X (compareOp .Eq) (rEqP X.K false) := by
  intro pins s σ H x y v u Q I rx ry h
  obtain ⟨d, e, hd, he, sd, se, dd, q⟩ := h
  obtain ⟨as, r1⟩ := Dp.reads I d x v hd rx
  obtain ⟨bs, r2⟩ := Dp.reads I e y u he ry
  refine SeqAt.compareEq_reads r1 r2 sd se ?_ ⟨.bl _, H, I, rfl, q⟩
  have : min d.depth e.depth ≤ d.depth := Nat.min_le_left _ _
  omega
theorem op_neP (hu : X.A.units + 200 < cLine) : OpR X (compareOp .NotEq) (rEqP X.K true) := by
  intro pins s σ H x y v u Q I rx ry h
  obtain ⟨d, e, hd, he, sd, se, dd, q⟩ := h
  obtain ⟨as, r1⟩ := Dp.reads I d x v hd rx
  obtain ⟨bs, r2⟩ := Dp.reads I e y u he ry
  refine SeqAt.compareNe_reads r1 r2 sd se ?_ ⟨.bl _, H, I, rfl, q⟩
  have : min d.depth e.depth ≤ d.depth := Nat.min_le_left _ _
  omega
theorem imp_eqP (neg : Bool) : Imp2 X.K ca (eqD neg) (rEqP X.K neg) := by
  intro L H s x y v u Q E S hx hy p
  unfold eqD at p
  split at p
  · rename_i a b ea eb
    split at p
    · rename_i hl
      have h1 := lay_py a hl.1
      have h2 := lay_py b hl.2.1
      exact ⟨pyOf a, pyOf b, dp_of a v hl.1 (res_ok S ea hx), dp_of b u hl.2.1 (res_ok S eb hy), h1.1, h2.1, by rw [h1.2]; exact hl.2.2, p L _ H Keep.refl S rfl⟩
    · exact p.elim
  · exact p.elim
end
end DE
/-! DE3: operators, displays, subscripts, slices -/
namespace DE
open PySem PySem.Spec PyProof.Rows L2

section
variable {K : PySem.W.Frag} {ca : Nat → Addr} {L : Lv} {H : Hp} {s : Store} {Q : VK} {E : Nat → Hp → Prop}
theorem RD.ext {d : D} {v : V} (S : SR K ca L s H) {p : Addr} (h : H p = none) (o : HO) (r : RD K L H d v) : RD K L (upd H p o) d v := RD.mono (S.new h o).1.mono _ _ r
/-- a new tuple, a new list that nothing changes -/
theorem new_tup (S : SR K ca L s H) {ds : List D} {vs : List V} (r : RDs K L H ds vs) (p : post K ca (RD K) L H (.ok (.tup ds) s) Q E) : ∀ q, H q = none → Q (.ref q) (upd H q (.tup vs)) := fun q hq => by
  obtain ⟨k, S'⟩ := S.new hq (.tup vs)
  have f := S.fresh hq
  refine p L _ _ k S' ?_
  simp only [RD]
  exact ⟨q, vs, rfl, .inl ⟨f.1, f.2, .inl upd_same⟩, RDs.mono k.mono _ _ r⟩
theorem new_lst (S : SR K ca L s H) {ds : List D} {vs : List V} (r : RDs K L H ds vs) (p : post K ca (RD K) L H (.ok (.lst ds) s) Q E) : ∀ q, H q = none → Q (.ref q) (upd H q (.lst vs)) := fun q hq => by
  obtain ⟨k, S'⟩ := S.new hq (.lst vs)
  have f := S.fresh hq
  refine p L _ _ k S' ?_
  simp only [RD]
  exact ⟨q, vs, rfl, ⟨f.1, f.2, upd_same⟩, RDs.mono k.mono _ _ r⟩
theorem keep_alloc (S : SR K ca L s H) {p : Addr} (h : H p = none) (o : HO) : Keep L H ⟨L.rho ++ [p], L.pi⟩ (upd H p o) := ⟨rfl, List.prefix_append _ _, fun b u e hb => ⟨by rw [upd_ne (ne_of_none e h)]; exact e, by
    intro hm
    rcases List.mem_append.mp hm with hm | hm
    · exact hb hm
    · simp at hm; subst hm; rw [h] at e; cases e⟩⟩
/-- .. one that is changed: a live cell -/
theorem new_cell (S : SR K ca L s H) {ds : List D} {vs : List V} (r : RDs K L H ds vs) (p : post K ca (RD K) L H (.ok (.ref s.length) (s ++ [.lst ds])) Q E) : ∀ q, H q = none → Q (.ref q) (upd H q (.lst vs)) := fun q hq => by
  have k := keep_alloc S hq (.lst vs)
  obtain ⟨_, S'⟩ := S.alloc hq (o := .lst vs) (c := .lst ds) ⟨vs, upd_same, RDs.mono k.mono _ _ r⟩
  refine p _ _ _ k S' ?_
  simp only [RD]
  exact ⟨q, rfl, by rw [← S.len]; simp⟩

/-- lists that are read: the script, too -/
def rdS (s : Store) : D → Option (List D)
  | .lst xs => some xs
  | .ref l => match s[l]? with | some (.lst xs) => some xs | _ => none
  | .scr ns => some (ns.map .int)
  | _ => none
theorem rds_ints {ns : List Int} : RDs K L H (ns.map D.int) (ns.map V.int) := by
  induction ns with
  | nil => exact .nil
  | cons n ns ih => exact .cons rfl ih
theorem rdS_ok (S : SR K ca L s H) {d : D} {v : V} {xs : List D} (r : RD K L H d v) (e : rdS s d = some xs) : ∃ a vs, v = .ref a ∧ SqL K H a vs ∧ RDs K L H xs vs := by
  cases d with
  | lst ys =>
    cases e
    simp only [RD] at r
    obtain ⟨a, vs, e, f, q⟩ := r
    exact ⟨a, vs, e, f.sq, q⟩
  | ref l =>
    simp only [RD] at r
    obtain ⟨a, rfl, ea⟩ := r
    obtain ⟨c, ec, k⟩ := S.at ea
    unfold rdS at e
    simp only [ec] at e
    cases c with
    | lst ys => cases e; obtain ⟨vs, h1, h2⟩ := k; exact ⟨a, vs, rfl, SqL.of h1, h2⟩
    | _ => cases e
  | scr ns =>
    cases e
    simp only [RD] at r
    obtain ⟨a, rfl, f⟩ := r
    exact ⟨a, _, rfl, f.sq, rds_ints⟩
  | _ => cases e
end

/-! ### operators -/
def addD : D → D → Store → R D := fun x y s => match x, y with
  | .int i, .int j => .ok (.int (i + j)) s
  | .str i, .str j => if i.length + j.length ≤ sizeLine then .ok (.str (i ++ j)) s else .bad
  | .tup xs, .tup ys => if xs.length + ys.length ≤ sizeLine then .ok (.tup (xs ++ ys)) s else .bad
  | x, y => match rdL s x, rdL s y with
    | some xs, some ys => if xs.length + ys.length ≤ sizeLine then .ok (.lst (xs ++ ys)) s else .bad
    | _, _ => .bad
/-- two lists to one that is changed later -/
def addN : D → D → Store → R D := fun x y s => match rdL s x, rdL s y with
    | some xs, some ys => if xs.length + ys.length ≤ sizeLine then .ok (.ref s.length) (s ++ [.lst (xs ++ ys)]) else .bad
    | _, _ => .bad
def subD : D → D → Store → R D := fun x y s => match x, y with
  | .int i, .int j => .ok (.int (i - j)) s
  | _, _ => .bad
def BIG : Int := 18446744073709551616
def repL (k : Int) (xs : List D) : List D := (List.replicate k.toNat xs).flatten
def repS (k : Int) (z : Str) : Str := ⟨(List.replicate k.toNat z.cps).foldl (· ++ ·) #[]⟩
noncomputable def mulD : D → D → Store → R D := fun x y s => match x, y with
  | .int i, .int j => @ite (R _) ((-BIG < i ∧ i < BIG) ∨ (-BIG < j ∧ j < BIG)) (Classical.propDecidable _) (.ok (.int (i * j)) s) .bad
  | .str z, .int k => @ite (R _) (0 ≤ k ∧ k ≤ 100000 ∧ z.length ≤ 100) (Classical.propDecidable _) (.ok (.str (repS k z)) s) .bad
  | .tup xs, .int k => @ite (R _) (xs.length ≤ 1000 ∧ 2 ≤ k ∧ k ≤ 1000 ∧ xs ≠ []) (Classical.propDecidable _) (.ok (.tup (repL k xs)) s) .bad
  | x, .int k => match rdL s x with
    | some xs => @ite (R _) (-(2 ^ 63) ≤ k ∧ k < 2 ^ 63 ∧ xs.length * k.toNat ≤ sizeLine) (Classical.propDecidable _) (.ok (.lst (repL k xs)) s) .bad
    | none => .bad
  | _, _ => .bad
noncomputable def fdivD : D → D → Store → R D := fun x y s => match x, y with
  | .int i, .int j => @ite (R _) (0 < j ∧ j < 1073741824) (Classical.propDecidable _) (.ok (.int (i / j)) s) .bad
  | _, _ => .bad
noncomputable def modD : D → D → Store → R D := fun x y s => match x, y with
  | .int i, .int j => @ite (R _) (0 < j) (Classical.propDecidable _) (.ok (.int (i % j)) s) .bad
  | _, _ => .bad
noncomputable def powD : D → D → Store → R D := fun x y s => match x, y with
  | .int i, .int j => @ite (R _) (0 ≤ j ∧ j ≤ 1000000 ∧ i.natAbs < 2 ^ 64) (Classical.propDecidable _) (.ok (.int (i ^ j.toNat)) s) .bad
  | _, _ => .bad
def cmpI (f : Int → Int → Bool) : D → D → Store → R D := fun x y s => match x, y with
  | .int i, .int j => .ok (.bl (f i j)) s
  | _, _ => .bad
def ltD := cmpI fun i j => decide (i < j)
def leD := cmpI fun i j => decide (i ≤ j)
def gtD := cmpI fun i j => decide (j < i)
def geD := cmpI fun i j => decide (j ≤ i)
def isNon : D → Bool
  | .non => true
  | _ => false
def isD (neg : Bool) : D → D → Store → R D := fun x y s => match y with
  | .non => .ok (.bl (if neg then !isNon x else isNon x)) s
  | .bl b => match x with
    | .bl a => .ok (.bl (if neg then !decide (a = b) else decide (a = b))) s
    | _ => .bad
  | _ => .bad
def inD (neg : Bool) : D → D → Store → R D := fun x y s => match x, y with
  | .str i, .str j => match i.cps.toList with
    | [c] => .ok (.bl (if neg then !decide (c ∈ j.cps.toList) else decide (c ∈ j.cps.toList))) s
    | _ => .bad
  | x, y => match res s x, res s y with
    | some a, some (.tup ys) => if layD a = true ∧ layDs ys = true ∧ depD a ≤ 190 then .ok (.bl (if neg then !ys.any (fun y => eqv y a) else ys.any (fun y => eqv y a))) s else .bad
    | some a, some (.lst ys) => if layD a = true ∧ layDs ys = true ∧ depD a ≤ 190 then .ok (.bl (if neg then !ys.any (fun y => eqv y a) else ys.any (fun y => eqv y a))) s else .bad
    | _, _ => .bad
section
variable {X : Cx} {ca : Nat → Addr}
def rAddA (K : PySem.W.Frag) : R2 := fun x y H Q => (((rI0 fun i j => .int (i + j)) x y H Q ∨ (∃ i j, x = .str i ∧ y = .str j ∧ i.length + j.length ≤ sizeLine ∧ Q (.str (i ++ j)) H)) ∨ rCatA K x y H Q) ∨ rCat x y H Q
theorem op_addA : OpR X (binaryOp .Add) (rAddA X.K) := ((op_add.or op_add_str).or op_catA).or op_cat
theorem imp_add : Imp2 X.K ca addD (rAddA X.K) := by
  intro L H s x y v u Q E S hx hy p
  unfold addD at p
  split at p
  · simp only [RD] at hx hy
    exact .inl (.inl (.inl ⟨_, _, hx, hy, p L _ H Keep.refl S rfl⟩))
  · split at p
    · rename_i hz
      simp only [RD] at hx hy
      exact .inl (.inl (.inr ⟨_, _, hx, hy, hz, p L _ H Keep.refl S rfl⟩))
    · exact p.elim
  · split at p
    · rename_i xs ys hz
      simp only [RD] at hx hy
      obtain ⟨a, vs, rfl, f, rs⟩ := hx
      obtain ⟨b, ws, rfl, g, qs⟩ := hy
      refine .inl (.inr ⟨a, b, vs, ws, rfl, rfl, f.sq, g.sq, by rw [← rs.length, ← qs.length]; exact hz, fun e => ?_, fun e1 e2 => ?_, fun _ _ => new_tup S (rs.append qs) p⟩)
      · subst e
        have : xs = [] := by have := rs.length; simpa using this
        subst this
        exact p L _ H Keep.refl S (by simp only [RD]; exact ⟨b, ws, rfl, g, qs⟩)
      · subst e2
        have : ys = [] := by have := qs.length; simpa using this
        subst this
        exact p L _ H Keep.refl S (by simp only [RD, List.append_nil]; exact ⟨a, vs, rfl, f, rs⟩)
    · exact p.elim
  · split at p
    · rename_i xs ys ex ey
      split at p
      · rename_i hz
        obtain ⟨a, vs, rfl, h1, rs⟩ := rdL_ok S hx ex
        obtain ⟨b, ws, rfl, h2, qs⟩ := rdL_ok S hy ey
        exact .inr ⟨a, b, vs, ws, rfl, rfl, h1, h2, by rw [← rs.length, ← qs.length]; exact hz, new_lst S (rs.append qs) p⟩
      · exact p.elim
    · exact p.elim
theorem imp_addN : Imp2 X.K ca addN rCat := by
  intro L H s x y v u Q E S hx hy p
  unfold addN at p
  split at p
  · rename_i xs ys ex ey
    split at p
    · rename_i hz
      obtain ⟨a, vs, rfl, h1, rs⟩ := rdL_ok S hx ex
      obtain ⟨b, ws, rfl, h2, qs⟩ := rdL_ok S hy ey
      exact ⟨a, b, vs, ws, rfl, rfl, h1, h2, by rw [← rs.length, ← qs.length]; exact hz, new_cell S (rs.append qs) p⟩
    · exact p.elim
  · exact p.elim
theorem imp_sub : Imp2 X.K ca subD (rI0 fun i j => .int (i - j)) := by
  intro L H s x y v u Q E S hx hy p
  unfold subD at p
  split at p
  · simp only [RD] at hx hy
    exact ⟨_, _, hx, hy, p L _ H Keep.refl S rfl⟩
  · exact p.elim
theorem imp_fdiv : Imp2 X.K ca fdivD (rI CDiv fun i j => .int (i / j)) := by
  intro L H s x y v u Q E S hx hy p
  unfold fdivD at p
  split at p
  · split at p
    · rename_i hz
      simp only [RD] at hx hy
      exact ⟨_, _, hx, hy, hz, p L _ H Keep.refl S rfl⟩
    · exact p.elim
  · exact p.elim
theorem imp_mod : Imp2 X.K ca modD (rI (fun _ j => 0 < j) fun i j => .int (i % j)) := by
  intro L H s x y v u Q E S hx hy p
  unfold modD at p
  split at p
  · split at p
    · rename_i hz
      simp only [RD] at hx hy
      exact ⟨_, _, hx, hy, hz, p L _ H Keep.refl S rfl⟩
    · exact p.elim
  · exact p.elim
theorem imp_pow : Imp2 X.K ca powD (rI CPow fun i j => .int (i ^ j.toNat)) := by
  intro L H s x y v u Q E S hx hy p
  unfold powD at p
  split at p
  · split at p
    · rename_i hz
      simp only [RD] at hx hy
      exact ⟨_, _, hx, hy, hz, p L _ H Keep.refl S rfl⟩
    · exact p.elim
  · exact p.elim
theorem imp_cmp (f : Int → Int → Bool) : Imp2 X.K ca (cmpI f) (rI0 fun i j => .bl (f i j)) := by
  intro L H s x y v u Q E S hx hy p
  unfold cmpI at p
  split at p
  · simp only [RD] at hx hy
    exact ⟨_, _, hx, hy, p L _ H Keep.refl S rfl⟩
  · exact p.elim
theorem RD.isNon {K : PySem.W.Frag} {L : Lv} {H : Hp} {d : D} {v : V} (r : RD K L H d v) : decide (v = .non) = isNon d := by
  cases d <;> simp only [RD] at r <;> (try subst r) <;> (try rfl)
  · obtain ⟨a, _, rfl, _⟩ := r; rfl
  · obtain ⟨a, _, rfl, _⟩ := r; rfl
  · obtain ⟨a, _, rfl, _⟩ := r; rfl
  · obtain ⟨a, rfl, _⟩ := r; rfl
  · obtain ⟨a, rfl, _⟩ := r; rfl
  · obtain ⟨a, _, _, _, rfl, _⟩ := r; rfl
theorem imp_is : Imp2 X.K ca (isD false) (fun x y H Q => (y = .non ∧ Q (.bl (decide (x = .non))) H) ∨ rIsB x y H Q) := by
  intro L H s x y v u Q E S hx hy p
  unfold isD at p
  split at p
  · simp only [RD] at hy
    exact .inl ⟨hy, by rw [hx.isNon]; exact p L _ H Keep.refl S rfl⟩
  · split at p
    · simp only [RD] at hx hy
      exact .inr ⟨_, _, hx, hy, p L _ H Keep.refl S rfl⟩
    · exact p.elim
  · exact p.elim
theorem imp_isnot : Imp2 X.K ca (isD true) (fun x y H Q => (y = .non ∧ Q (.bl (!decide (x = .non))) H) ∨ rNotB x y H Q) := by
  intro L H s x y v u Q E S hx hy p
  unfold isD at p
  split at p
  · simp only [RD] at hy
    exact .inl ⟨hy, by rw [hx.isNon]; exact p L _ H Keep.refl S rfl⟩
  · split at p
    · simp only [RD] at hx hy
      exact .inr ⟨_, _, hx, hy, p L _ H Keep.refl S rfl⟩
    · exact p.elim
  · exact p.elim
theorem op_isA : OpR X (compareOp .Is) (fun x y H Q => (y = .non ∧ Q (.bl (decide (x = .non))) H) ∨ rIsB x y H Q) := op_isN.or op_isBl
theorem op_isnotA : OpR X (compareOp .IsNot) (fun x y H Q => (y = .non ∧ Q (.bl (!decide (x = .non))) H) ∨ rNotB x y H Q) := op_notN.or op_notBl

/-! in -/
def rInP (K : PySem.W.Frag) (neg : Bool) : R2 := fun x y H Q => ∃ d ds, Dp K H x d ∧ (Dp K H y (.list ds) ∨ Dp K H y (.tuple ds)) ∧ PyData.canLayAll0 ds = true ∧ d.canLay0 = true ∧ d.depth ≤ 190 ∧ Q (.bl (if neg then !ds.any (fun z => PyData.eqv z d) else ds.any (fun z => PyData.eqv z d))) H
theorem room_in {A : Around} {n m : Nat} (hu : A.units + 200 < cLine) (h : m ≤ 190) : A.units + 1 + min n m < cLine := by
  have := Nat.min_le_right n m
  omega
theorem op_inP (hu : X.A.units + 200 < cLine) : OpR X (compareOp .In) (rInP X.K false) := by
  intro pins s σ H x y v u Q I rx ry h
  obtain ⟨d, ds, hd, he, se, sd, dd, q⟩ := h
  obtain ⟨as, r1⟩ := Dp.reads I d x v hd rx
  rcases he with he | he
  · obtain ⟨bs, r2⟩ := Dp.reads I (.list ds) y u he ry
    exact SeqAt.in_list_reads r2 r1 se sd (room_in hu dd) ⟨.bl _, H, I, rfl, q⟩
  · obtain ⟨bs, r2⟩ := Dp.reads I (.tuple ds) y u he ry
    exact SeqAt.in_tuple_reads r2 r1 se sd (room_in hu dd) ⟨.bl _, H, I, rfl, q⟩
theorem op_notInP (hu : X.A.units + 200 < cLine) : OpR X (compareOp .NotIn) (rInP X.K true) := by
  intro pins s σ H x y v u Q I rx ry h
  obtain ⟨d, ds, hd, he, se, sd, dd, q⟩ := h
  obtain ⟨as, r1⟩ := Dp.reads I d x v hd rx
  rcases he with he | he
  · obtain ⟨bs, r2⟩ := Dp.reads I (.list ds) y u he ry
    exact SeqAt.notIn_list_reads r2 r1 se sd (room_in hu dd) ⟨.bl _, H, I, rfl, q⟩
  · obtain ⟨bs, r2⟩ := Dp.reads I (.tuple ds) y u he ry
    exact SeqAt.notIn_tuple_reads r2 r1 se sd (room_in hu dd) ⟨.bl _, H, I, rfl, q⟩
def rInS (neg : Bool) : R2 := fun x y H Q => ∃ (c : Nat) (z : Str), x = .str ⟨#[c]⟩ ∧ y = .str z ∧ Q (.bl (if neg then !decide (c ∈ z.cps.toList) else decide (c ∈ z.cps.toList))) H
theorem op_inA (hu : X.A.units + 200 < cLine) : OpR X (compareOp .In) (fun x y H Q => rInS false x y H Q ∨ rInP X.K false x y H Q) := OpR.or op_in_sign (op_inP hu)
theorem op_notInA (hu : X.A.units + 200 < cLine) : OpR X (compareOp .NotIn) (fun x y H Q => rInS true x y H Q ∨ rInP X.K true x y H Q) := OpR.or op_notIn_sign (op_notInP hu)
theorem any_py (a : D) : ∀ ys : List D, (pyOfs ys).any (fun z => PyData.eqv z (pyOf a)) = ys.any fun y => eqv y a
  | [] => rfl
  | y :: ys => by simp only [pyOfs, List.any_cons, any_py a ys, eqv]
theorem imp_in (neg : Bool) : Imp2 X.K ca (inD neg) (fun x y H Q => rInS neg x y H Q ∨ rInP X.K neg x y H Q) := by
  intro L H s x y v u Q E S hx hy p
  unfold inD at p
  split at p
  · rename_i i j
    split at p
    · rename_i c hc
      simp only [RD] at hx hy
      refine .inl ⟨c, j, ?_, hy, p L _ H Keep.refl S rfl⟩
      rw [hx]
      obtain ⟨cps⟩ := i
      have : cps = #[c] := by apply Array.toList_inj.mp; simpa using hc
      rw [this]
    · exact p.elim
  · split at p
    · rename_i a ys ea ey
      split at p
      · rename_i hl
        have h1 := lay_py a hl.1
        have h2 := lay_pys ys hl.2.1
        refine .inr ⟨pyOf a, pyOfs ys, dp_of a v hl.1 (res_ok S ea hx), .inr (dp_of (.tup ys) u (by simpa only [layD] using hl.2.1) (res_ok S ey hy)), h2.1, h1.1, by rw [h1.2]; exact hl.2.2, ?_⟩
        rw [any_py]
        exact p L _ H Keep.refl S rfl
      · exact p.elim
    · rename_i a ys ea ey
      split at p
      · rename_i hl
        have h1 := lay_py a hl.1
        have h2 := lay_pys ys hl.2.1
        refine .inr ⟨pyOf a, pyOfs ys, dp_of a v hl.1 (res_ok S ea hx), .inl (dp_of (.lst ys) u (by simpa only [layD] using hl.2.1) (res_ok S ey hy)), h2.1, h1.1, by rw [h1.2]; exact hl.2.2, ?_⟩
        rw [any_py]
        exact p L _ H Keep.refl S rfl
      · exact p.elim
    · exact p.elim

/-! * -/
theorem rd_rep {K : PySem.W.Frag} {L : Lv} {H : Hp} {xs : List D} {vs : List V} (h : RDs K L H xs vs) : ∀ k : Nat, RDs K L H (List.replicate k xs).flatten (List.replicate k vs).flatten
  | 0 => .nil
  | k + 1 => by
    rw [List.replicate_succ, List.replicate_succ, List.flatten_cons, List.flatten_cons]
    exact h.append (rd_rep h k)
theorem size_repS (z : Array Nat) : ∀ k : Nat, ((List.replicate k z).foldl (· ++ ·) #[]).size = k * z.size := by
  have : ∀ (k : Nat) (acc : Array Nat), ((List.replicate k z).foldl (· ++ ·) acc).size = acc.size + k * z.size := by
    intro k
    induction k with
    | zero => intro acc; simp
    | succ k ih => intro acc; rw [List.replicate_succ, List.foldl_cons, ih]; simp [Nat.succ_mul]; omega
  intro k
  rw [this]; simp
def rRepS : R2 := fun x y H Q => ∃ z k, x = .str z ∧ y = .int k ∧ 0 ≤ k ∧ k ≤ 100000 ∧ z.length ≤ 100 ∧ Q (.str (repS k z)) H
theorem op_repS : OpR X (binaryOp .Mult) rRepS := by
  intro pins s σ H x y v u Q I rx ry h
  obtain ⟨z, k, rfl, rfl, h0, h1, hz, q⟩ := h
  obtain ⟨t, rfl⟩ := rx
  obtain ⟨t', rfl⟩ := ry
  have hb : (2 : Int) ^ 63 = 9223372036854775808 := by decide
  refine P.mul_str (by rw [decide_eq_false (by omega), decide_eq_false (by omega)]; rfl) (fun h1 _ => ?_) (fun h1 _ => ?_) ?_
  · intro hh
    have h5 : (2 ^ 63 - 1 : Int) / k ≥ (2 ^ 63 - 1 : Int) / 100000 := by
      rw [hb]
      have hk : 0 < k := by omega
      have := Int.ediv_mul_le (9223372036854775808 - 1 : Int) (show (100000 : Int) ≠ 0 by decide)
      refine (Int.le_ediv_iff_mul_le hk).mpr ?_
      refine Int.le_trans (Int.mul_le_mul_of_nonneg_left (show k ≤ 100000 by omega) (by decide)) this
    have h6 : ((2 ^ 63 - 1 : Int) / 100000) = 92233720368547 := by decide
    omega
  · have : z.length * k.toNat ≤ 100 * 100000 := Nat.mul_le_mul hz (by omega)
    have hs : sizeLine = 16777216 := by decide
    unfold Builtin.Str.tooLong
    simp only [decide_eq_false_iff_not, hs]
    omega
  · split
    · rename_i hk
      have hk0 : k = 0 := by omega
      subst hk0
      exact ⟨by decide, .str _, H, I.tok _, ⟨_, rfl⟩, q⟩
    · split
      · rename_i hk hh
        refine ⟨.str (repS k z), H, I, ?_, q⟩
        have : repS k z = z := by
          simp only [Bool.or_eq_true, beq_iff_eq] at hh
          unfold repS
          rcases hh with hh | hh
          · subst hh
            simp [List.replicate_succ]
          · have e : z.cps = #[] := Array.eq_empty_of_size_eq_zero hh
            have f : ((List.replicate k.toNat z.cps).foldl (· ++ ·) #[]) = #[] := Array.eq_empty_of_size_eq_zero (by rw [size_repS, e]; simp)
            rw [f]
            obtain ⟨c⟩ := z
            simpa using e.symm
        rw [this]
        exact ⟨_, rfl⟩
      · refine ⟨?_, .str (repS k z), H, I.tok _, ⟨_, rfl⟩, q⟩
        have hs : sizeLine = 16777216 := by decide
        show Array.size _ ≤ sizeLine
        rw [size_repS, hs]
        have : k.toNat * z.cps.size ≤ 100000 * 100 := Nat.mul_le_mul (by omega) hz
        omega
def rMulA (K : PySem.W.Frag) : R2 := fun x y H Q => (((rI CMul fun i j => .int (i * j)) x y H Q ∨ rRepS x y H Q) ∨ rRepT K x y H Q) ∨ rRep x y H Q
theorem op_mulA : OpR X (binaryOp .Mult) (rMulA X.K) := ((op_mul.or op_repS).or op_repT).or op_rep
theorem imp_mul : Imp2 X.K ca mulD (rMulA X.K) := by
  intro L H s x y v u Q E S hx hy p
  unfold mulD at p
  split at p
  · split at p
    · rename_i hz
      simp only [RD] at hx hy
      exact .inl (.inl (.inl ⟨_, _, hx, hy, hz, p L _ H Keep.refl S rfl⟩))
    · exact p.elim
  · split at p
    · rename_i hz
      simp only [RD] at hx hy
      exact .inl (.inl (.inr ⟨_, _, hx, hy, hz.1, hz.2.1, hz.2.2, p L _ H Keep.refl S rfl⟩))
    · exact p.elim
  · split at p
    · rename_i xs k hz
      simp only [RD] at hx hy
      obtain ⟨a, vs, rfl, f, rs⟩ := hx
      subst hy
      refine .inl (.inr ⟨a, k, vs, rfl, rfl, f.sq, ?_, hz.2.1, hz.2.2.1, by rw [← rs.length]; exact hz.1, new_tup S (rd_rep rs _) p⟩)
      rintro rfl
      exact hz.2.2.2 (by have := rs.length; simpa using this)
    · exact p.elim
  · split at p
    · rename_i xs ex
      split at p
      · rename_i hz
        simp only [RD] at hy
        subst hy
        obtain ⟨a, vs, rfl, h1, rs⟩ := rdL_ok S hx ex
        exact .inr ⟨a, _, vs, rfl, rfl, h1, hz.1, hz.2.1, by rw [← rs.length]; exact hz.2.2, new_lst S (rd_rep rs _) p⟩
      · exact p.elim
    · exact p.elim
  · exact p.elim
end

/-! ### argument lists, displays -/
section
variable {X : Cx} {ca : Nat → Addr} {W : WX} {e : Expr} {es : List Expr} {m : EM} {ms : AM} {pos : Pos}
def aNil : AM := fun _ s => .ok [] s
def aCons (m : EM) (ms : AM) : AM := fun env s => (m env s).bind fun d s => (ms env s).bind fun ds s => .ok (d :: ds) s
theorem da_nil : DA X ca W [] aNil := PA.imp pa_nil fun σ H Q ⟨L, env, s, S, e, p⟩ => p L [] H Keep.refl S .nil
theorem da_cons (h : DE X ca W e m) (hr : DA X ca W es ms) (hs : starEach (e :: es) X.env = (false, eval e X.env) :: starEach es X.env := by rfl) : DA X ca W (e :: es) (aCons m ms) :=
  PA.imp (pa_cons h hr hs) fun σ H Q ⟨L, env, s, S, e, p⟩ => ⟨L, env, s, S, e, p.bind.imp fun v H1 ⟨L1, s1, d, k1, S1, r1, p1⟩ =>
    ⟨L1, env, s1, S1, e.mono k1.mono, p1.bind.imp fun vs H2 ⟨L2, s2, ds, k2, S2, r2, p2⟩ => p2 L2 _ H2 Keep.refl S2 (.cons (RD.mono k2.mono _ _ r1) r2)⟩⟩
def LINE : Nat := 16777216
theorem line_eq : sizeLine = LINE := by decide
def eTup (ms : AM) : EM := fun env s => (ms env s).bind fun ds s => if ds.length ≤ LINE then .ok (.tup ds) s else .bad
def eLst (ms : AM) : EM := fun env s => (ms env s).bind fun ds s => if ds.length ≤ LINE then .ok (.lst ds) s else .bad
/-- a list that is changed later -/
def eNew (ms : AM) : EM := fun env s => (ms env s).bind fun ds s => if ds.length ≤ LINE then .ok (.ref s.length) (s ++ [.lst ds]) else .bad
theorem de_tup {x1} (h : DA X ca W es ms) : DE X ca W (.Tuple es x1 pos) (eTup ms) := PE.imp (pe_tup h) fun σ H Q ⟨L, env, s, S, e, p⟩ =>
  ⟨L, env, s, S, e, p.bind.imp fun vs H1 ⟨L1, s1, ds, k1, S1, r1, p1⟩ => by
    split at p1
    · rename_i hz
      exact ⟨by rw [← r1.length, line_eq]; exact hz, new_tup S1 r1 p1⟩
    · exact p1.elim⟩
theorem de_lst (h : DA X ca W es ms) : DE X ca W (.List es pos) (eLst ms) := PE.imp (pe_lst h) fun σ H Q ⟨L, env, s, S, e, p⟩ =>
  ⟨L, env, s, S, e, p.bind.imp fun vs H1 ⟨L1, s1, ds, k1, S1, r1, p1⟩ => by
    split at p1
    · rename_i hz
      exact ⟨by rw [← r1.length, line_eq]; exact hz, new_lst S1 r1 p1⟩
    · exact p1.elim⟩
theorem de_new (h : DA X ca W es ms) : DE X ca W (.List es pos) (eNew ms) := PE.imp (pe_lst h) fun σ H Q ⟨L, env, s, S, e, p⟩ =>
  ⟨L, env, s, S, e, p.bind.imp fun vs H1 ⟨L1, s1, ds, k1, S1, r1, p1⟩ => by
    split at p1
    · rename_i hz
      exact ⟨by rw [← r1.length, line_eq]; exact hz, new_cell S1 r1 p1⟩
    · exact p1.elim⟩
end

/-! ### subscripts -/
def ixD : D → D → Store → R D := fun x y s => match y with
  | .int i => match x with
    | .tup xs => match atI xs i with | some d => .ok d s | none => .bad
    | .str z => if z.length ≤ LINE then match atI z.cps.toList i with | some c => .ok (.str ⟨#[c]⟩) s | none => .bad else .bad
    | x => match rdS s x with
      | some xs => match atI xs i with | some d => .ok d s | none => .bad
      | none => .bad
  | _ => .bad
section
variable {X : Cx} {ca : Nat → Addr} {W : WX} {a b : Expr} {ma mb : EM} {pos : Pos}
theorem at_rd {K : PySem.W.Frag} {L : Lv} {H : Hp} {xs : List D} {vs : List V} {i : Int} {d : D} (r : RDs K L H xs vs) (e : atI xs i = some d) : ∃ v, atI vs i = some v ∧ RD K L H d v := by
  unfold atI at e ⊢
  rw [← r.length]
  cases q : ixN xs.length i with
  | none => rw [q] at e; cases e
  | some j =>
    rw [q] at e
    exact RDs.get r e
theorem imp_ix : Imp2 X.K ca ixD (rIx X.K) := by
  intro L H s x y v u Q E S hx hy p
  unfold ixD at p
  split at p
  · rename_i i
    simp only [RD] at hy
    split at p
    · rename_i xs
      split at p
      · rename_i d ed
        simp only [RD] at hx
        obtain ⟨a, vs, rfl, f, rs⟩ := hx
        obtain ⟨w, ew, rw_⟩ := at_rd rs ed
        exact .inr (.inl ⟨a, vs, i, w, rfl, hy, f.sq, ew, p L _ H Keep.refl S rw_⟩)
      · exact p.elim
    · split at p
      · rename_i hz
        split at p
        · rename_i c ec
          simp only [RD] at hx
          exact .inr (.inr ⟨_, i, c, hx, hy, by rw [line_eq]; exact hz, ec, p L _ H Keep.refl S rfl⟩)
        · exact p.elim
      · exact p.elim
    · split at p
      · rename_i xs ex
        split at p
        · rename_i d ed
          obtain ⟨a, vs, rfl, f, rs⟩ := rdS_ok S hx ex
          obtain ⟨w, ew, rw_⟩ := at_rd rs ed
          exact .inl ⟨a, vs, i, w, rfl, hy, f, ew, p L _ H Keep.refl S rw_⟩
        · exact p.elim
      · exact p.elim
  · exact p.elim
theorem de_ix (ha : DE X ca W a ma) (hb : DE X ca W b mb) (hs : PlainIx b := by exact fun _ _ => rfl) : DE X ca W (.Subscript a b pos) (e2 ixD ma mb) := PE.imp (pe_ix ix_seq ha hb hs) (tOp_of imp_ix)
end

/-! ### slices -/
abbrev OM := Env → Store → R (Option Int)
def tO (K : PySem.W.Frag) (ca : Nat → Addr) (W : WX) (m : OM) : TO := fun σ H Q => ∃ L env s, SR K ca L s H ∧ ER K L H env σ ∧ post K ca (fun _ _ a b => a = b) L H (m env s) Q (wE ca W σ)
def DO (X : Cx) (ca : Nat → Addr) (W : WX) (e : Option Expr) (m : OM) : Prop := PO X e (tO X.K ca W m)
def oNone : OM := fun _ s => .ok none s
def oSome (m : EM) : OM := fun env s => (m env s).bind fun d s => match d with | .int i => .ok (some i) s | _ => .bad
def cutL {α : Type} (xs : List α) (lo hi : Option Int) : List α := (xs.drop (HT.sIx xs.length 0 lo)).take (HT.sIx xs.length xs.length hi - HT.sIx xs.length 0 lo)
def cutD : D → Option Int → Option Int → Store → R D := fun x lo hi s => match x with
  | .tup xs => .ok (.tup (cutL xs lo hi)) s
  | .str z => if z.length ≤ LINE then .ok (.str ⟨(cutL z.cps.toList lo hi).toArray⟩) s else .bad
  | x => match rdS s x with
    | some xs => .ok (.lst (cutL xs lo hi)) s
    | none => .bad
def eCut (m : EM) (lo hi : OM) : EM := fun env s => (m env s).bind fun x s => (lo env s).bind fun l s => (hi env s).bind fun h s => cutD x l h s
section
variable {X : Cx} {ca : Nat → Addr} {W : WX} {e : Expr} {m : EM} {lo hi : Option Expr} {ml mh : OM} {pos p2 : Pos}
theorem PO.imp {e : Option Expr} {t t' : TO} (h : PO X e t) (i : ∀ σ H Q, t' σ H Q → t σ H Q) : PO X e t' := ⟨fun pins s σ H Q I q => h.run pins s σ H Q I (i σ H Q q)⟩
theorem do_none : DO X ca W none oNone := PO.imp po_none fun σ H Q ⟨L, env, s, S, e, p⟩ => p L none H Keep.refl S rfl
theorem do_some (h : DE X ca W e m) : DO X ca W (some e) (oSome m) := PO.imp (po_some h) fun σ H Q ⟨L, env, s, S, e, p⟩ =>
  ⟨L, env, s, S, e, p.bind.imp fun v H1 ⟨L1, s1, d, k1, S1, r1, p1⟩ => by
    split at p1
    · simp only [RD] at r1
      exact ⟨_, r1, p1 L1 _ H1 Keep.refl S1 rfl⟩
    · exact p1.elim⟩
theorem rd_cut {K : PySem.W.Frag} {L : Lv} {H : Hp} {xs : List D} {vs : List V} (r : RDs K L H xs vs) (lo hi : Option Int) : RDs K L H (cutL xs lo hi) (cutV vs lo hi) := by
  unfold cutL cutV
  rw [← r.length]
  exact (r.drop _).take _
end
end DE
/-! DE4: slices, tests, and / or / not, if-else, calls of built-ins -/
namespace DE
open PySem PySem.Spec PyProof.Rows L2
section
variable {X : Cx} {ca : Nat → Addr} {W : WX} {e a b c : Expr} {es rest : List Expr} {m ma mb mc : EM} {lo hi : Option Expr} {ml mh : OM} {pos p2 : Pos}
def rCutA (K : PySem.W.Frag) : V → Option Int → Option Int → Hp → VK → Prop := fun x lo hi H Q => (rSlL K x lo hi H Q ∨ rSlA K x lo hi H Q) ∨ rSlS x lo hi H Q
theorem sl_cutA : SlR X (rCutA X.K) := (sl_list.or sl_tupA).or sl_str
theorem cut_whole {α : Type} (xs : List α) (lo hi : Option Int) (h : HT.sIx xs.length 0 lo = 0 ∧ HT.sIx xs.length xs.length hi = xs.length) : cutL xs lo hi = xs := by
  unfold cutL
  rw [h.1, h.2, List.drop_zero, Nat.sub_zero, List.take_length]
theorem imp_cut {L : Lv} {H : Hp} {s : Store} {x : D} {v : V} {l u : Option Int} {Q : VK} {E : Nat → Hp → Prop} (S : SR X.K ca L s H) (r : RD X.K L H x v) (p : post X.K ca (RD X.K) L H (cutD x l u s) Q E) : rCutA X.K v l u H Q := by
  unfold cutD at p
  split at p
  · rename_i xs
    simp only [RD] at r
    obtain ⟨a, vs, rfl, f, rs⟩ := r
    refine .inl (.inr ⟨a, vs, rfl, f.sq, fun hw => ?_, fun hw => ?_⟩)
    · rw [cut_whole xs l u (by rw [rs.length]; exact hw)] at p
      exact p L _ H Keep.refl S (by simp only [RD]; exact ⟨a, vs, rfl, f, rs⟩)
    · exact new_tup S (rd_cut rs l u) p
  · split at p
    · rename_i z hz
      simp only [RD] at r
      exact .inr ⟨z, r, by rw [line_eq]; exact hz, p L _ H Keep.refl S rfl⟩
    · exact p.elim
  · split at p
    · rename_i xs ex
      obtain ⟨a, vs, rfl, f, rs⟩ := rdS_ok S r ex
      exact .inl (.inl ⟨a, vs, rfl, f, new_lst S (rd_cut rs l u) p⟩)
    · exact p.elim
theorem de_cut (he : DE X ca W e m) (hl : DO X ca W lo ml) (hh : DO X ca W hi mh) : DE X ca W (.Subscript e (.Slice lo hi none p2) pos) (eCut m ml mh) :=
  PE.imp (pe_slice sl_cutA he hl hh) fun σ H Q ⟨L, env, s, S, e, p⟩ => ⟨L, env, s, S, e, p.bind.imp fun v H1 ⟨L1, s1, d, k1, S1, r1, p1⟩ =>
    ⟨L1, env, s1, S1, e.mono k1.mono, p1.bind.imp fun l H2 ⟨L2, s2, l', k2, S2, r2, p2⟩ =>
      ⟨L2, env, s2, S2, (e.mono k1.mono).mono k2.mono, p2.bind.imp fun u H3 ⟨L3, s3, u', k3, S3, r3, p3⟩ => by
        subst r2; subst r3
        exact imp_cut S3 (RD.mono k3.mono _ _ (RD.mono k2.mono _ _ r1)) p3⟩⟩⟩

/-! ### tests -/
def tVal (m : EM) : TM := fun env s => (m env s).bind fun d s => match d with | .bl b => .ok b s | _ => .bad
theorem dt_val (h : DE X ca W e m) (he : ∀ whole, isTrue e X.env whole = (do let v ← whole; standAt e.pos; holding [v] (truthy v)) := by intro _; rfl) : DT X ca W e (tVal m) := PT.imp (pt_val h he) fun σ H Q ⟨L, env, s, S, e, p⟩ =>
  ⟨L, env, s, S, e, p.bind.imp fun v H1 ⟨L1, s1, d, k1, S1, r1, p1⟩ => by
    split at p1
    · simp only [RD] at r1
      exact ⟨_, r1, p1 L1 _ H1 Keep.refl S1 rfl⟩
    · exact p1.elim⟩
theorem dt_cmp {op : CmpOp} {f : D → D → Store → R D} {r : R2} (ho : OpR X (compareOp op) r) (hi : Imp2 X.K ca f r) (ha : DE X ca W a ma) (hb : DE X ca W b mb) (hm : behindInMarks op b = false := by rfl) : DT X ca W (.Compare a [op] [b] pos) (tVal (e2 f ma mb)) :=
  PT.imp (pt_cmpR ho ha hb hm) fun σ H Q ⟨L, env, s, S, e, p⟩ => by
    refine tOp_of (W := W) (ma := ma) (mb := mb) hi σ H _ ⟨L, env, s, S, e, (p.bind (RA := RD X.K)).imp fun v H1 ⟨L1, s1, d, k1, S1, r1, p1⟩ => ?_⟩
    split at p1
    · simp only [RD] at r1
      exact ⟨_, r1, p1 L1 _ H1 Keep.refl S1 rfl⟩
    · exact p1.elim
theorem dt_chain {op op' : CmpOp} {f g : D → D → Store → R D} {r r' : R2} (ho : OpR X (compareOp op) r) (ho' : OpR X (compareOp op') r') (hi : Imp2 X.K ca f r) (hi' : Imp2 X.K ca g r') (ha : DE X ca W a ma) (hb : DE X ca W b mb) (hc : DE X ca W c mc)
    (hm : lastMarks [op, op'] [b, c] = false := by with_unfolding_all rfl) : DT X ca W (.Compare a [op, op'] [b, c] pos) (tVal (eChain f g ma mb mc)) :=
  PT.imp (pt_chain ho ho' ha hb hc hm) fun σ H Q ⟨L, env, s, S, e, p⟩ =>
    ⟨L, env, s, S, e, by
      unfold tVal eChain at p
      rw [R.bind_assoc] at p
      refine p.bind.imp fun v H1 ⟨L1, s1, d, k1, S1, r1, p1⟩ => ⟨L1, env, s1, S1, e.mono k1.mono, ?_⟩
      rw [R.bind_assoc] at p1
      refine p1.bind.imp fun u H2 ⟨L2, s2, d2, k2, S2, r2, p2⟩ => hi L2 H2 s2 d d2 v u _ (wE ca W σ) S2 (RD.mono k2.mono _ _ r1) r2 ?_
      rw [R.bind_assoc] at p2
      refine p2.bind.imp fun z H3 ⟨L3, s3, d3, k3, S3, r3, p3⟩ => ?_
      cases d3 with
      | bl q =>
        simp only [RD] at r3
        refine ⟨q, r3, ?_⟩
        cases q with
        | true =>
          refine iteT ⟨L3, env, s3, S3, ((e.mono k1.mono).mono k2.mono).mono k3.mono, ?_⟩
          simp only [R.bind_assoc] at p3
          refine p3.bind.imp fun w' H4 ⟨L4, s4, d4, k4, S4, r4, p4⟩ => ?_
          refine hi' L4 H4 s4 d2 d4 u w' _ (wE ca W σ) S4 (RD.mono k4.mono _ _ (RD.mono k3.mono _ _ r2)) r4 (p4.bind.imp fun y H5 ⟨L5, s5, d5, k5, S5, r5, p5⟩ => ?_)
          split at p5
          · simp only [RD] at r5
            exact ⟨_, r5, p5 L5 _ H5 Keep.refl S5 rfl⟩
          · exact p5.elim
        | false => exact iteF ⟨false, rfl, p3 L3 _ H3 Keep.refl S3 rfl⟩
      | _ => exact p3.elim⟩
def tAndM (ma mb : TM) : TM := fun env s => (ma env s).bind fun b s => if b = true then mb env s else .ok false s
def tOrM (ma mb : TM) : TM := fun env s => (ma env s).bind fun b s => if b = true then .ok true s else mb env s
def tNotM (ma : TM) : TM := fun env s => (ma env s).bind fun b s => .ok (!b) s
section
variable {ta tb : TM}
theorem dw_and1 (ha : DT X ca W a ta) : DW X ca W (.BoolOp .And [a] pos) ta := pw_and1 ha
theorem dw_or1 (ha : DT X ca W a ta) : DW X ca W (.BoolOp .Or [a] pos) ta := pw_or1 ha
theorem dw_and (ha : DT X ca W a ta) (hb : DW X ca W (.BoolOp .And (b :: rest) pos) tb) : DW X ca W (.BoolOp .And (a :: b :: rest) pos) (tAndM ta tb) := PW.imp (pw_and ha hb) fun σ H Q ⟨L, env, s, S, e, p⟩ =>
  ⟨L, env, s, S, e, p.bind.imp fun v H1 ⟨L1, s1, d, k1, S1, r1, p1⟩ => by
    subst r1
    cases d with
    | true => exact iteT ⟨L1, env, s1, S1, e.mono k1.mono, by rw [if_pos rfl] at p1; exact p1⟩
    | false => exact iteF (by rw [if_neg Bool.false_ne_true] at p1; exact p1 L1 _ H1 Keep.refl S1 rfl)⟩
theorem dw_or (ha : DT X ca W a ta) (hb : DW X ca W (.BoolOp .Or (b :: rest) pos) tb) : DW X ca W (.BoolOp .Or (a :: b :: rest) pos) (tOrM ta tb) := PW.imp (pw_or ha hb) fun σ H Q ⟨L, env, s, S, e, p⟩ =>
  ⟨L, env, s, S, e, p.bind.imp fun v H1 ⟨L1, s1, d, k1, S1, r1, p1⟩ => by
    subst r1
    cases d with
    | true => exact iteT (by rw [if_pos rfl] at p1; exact p1 L1 _ H1 Keep.refl S1 rfl)
    | false => exact iteF ⟨L1, env, s1, S1, e.mono k1.mono, by rw [if_neg Bool.false_ne_true] at p1; exact p1⟩⟩
theorem dt_w (h : DW X ca W e ta) : DT X ca W e ta := h.pt
theorem dt_not (ha : DT X ca W a ta) : DT X ca W (.UnaryOp .Not a pos) (tNotM ta) := PT.imp (pt_not ha) fun σ H Q ⟨L, env, s, S, e, p⟩ =>
  ⟨L, env, s, S, e, p.bind.imp fun v H1 ⟨L1, s1, d, k1, S1, r1, p1⟩ => by
    subst r1
    exact p1 L1 _ H1 Keep.refl S1 rfl⟩
/-- as values -/
def eAnd (ma mb : EM) : EM := fun env s => (ma env s).bind fun d s => match d with | .bl true => mb env s | .bl false => .ok (.bl false) s | _ => .bad
def eOr (ma mb : EM) : EM := fun env s => (ma env s).bind fun d s => match d with | .bl true => .ok (.bl true) s | .bl false => mb env s | _ => .bad
def eNot (ma : EM) : EM := fun env s => (ma env s).bind fun d s => match d with | .bl b => .ok (.bl (!b)) s | _ => .bad
theorem de_one {op} (h : DE X ca W a ma) : DE X ca W (.BoolOp op [a] pos) ma := pe_one h
theorem de_and (ha : DE X ca W a ma) (hb : DE X ca W (.BoolOp .And (b :: rest) pos) mb) : DE X ca W (.BoolOp .And (a :: b :: rest) pos) (eAnd ma mb) := PE.imp (pe_and ha hb) fun σ H Q ⟨L, env, s, S, e, p⟩ =>
  ⟨L, env, s, S, e, p.bind.imp fun v H1 ⟨L1, s1, d, k1, S1, r1, p1⟩ => by
    split at p1
    · simp only [RD] at r1
      exact ⟨true, r1, iteT ⟨L1, env, s1, S1, e.mono k1.mono, p1⟩⟩
    · simp only [RD] at r1
      exact ⟨false, r1, iteF (p1 L1 _ H1 Keep.refl S1 rfl)⟩
    · exact p1.elim⟩
theorem de_or (ha : DE X ca W a ma) (hb : DE X ca W (.BoolOp .Or (b :: rest) pos) mb) : DE X ca W (.BoolOp .Or (a :: b :: rest) pos) (eOr ma mb) := PE.imp (pe_or ha hb) fun σ H Q ⟨L, env, s, S, e, p⟩ =>
  ⟨L, env, s, S, e, p.bind.imp fun v H1 ⟨L1, s1, d, k1, S1, r1, p1⟩ => by
    split at p1
    · simp only [RD] at r1
      exact ⟨true, r1, iteT (p1 L1 _ H1 Keep.refl S1 rfl)⟩
    · simp only [RD] at r1
      exact ⟨false, r1, iteF ⟨L1, env, s1, S1, e.mono k1.mono, p1⟩⟩
    · exact p1.elim⟩
theorem de_not (ha : DE X ca W a ma) : DE X ca W (.UnaryOp .Not a pos) (eNot ma) := PE.imp (pe_not ha) fun σ H Q ⟨L, env, s, S, e, p⟩ =>
  ⟨L, env, s, S, e, p.bind.imp fun v H1 ⟨L1, s1, d, k1, S1, r1, p1⟩ => by
    split at p1
    · simp only [RD] at r1
      exact ⟨_, r1, p1 L1 _ H1 Keep.refl S1 rfl⟩
    · exact p1.elim⟩
def eIf (t : TM) (ma mb : EM) : EM := fun env s => (t env s).bind fun b s => if b = true then ma env s else mb env s
theorem de_if (hc : DT X ca W c ta) (ha : DE X ca W a ma) (hb : DE X ca W b mb) : DE X ca W (.IfExp c a b pos) (eIf ta ma mb) := PE.imp (pe_ifExp hc ha hb) fun σ H Q ⟨L, env, s, S, e, p⟩ =>
  ⟨L, env, s, S, e, p.bind.imp fun v H1 ⟨L1, s1, d, k1, S1, r1, p1⟩ => by
    subst r1
    cases d with
    | true => exact iteT ⟨L1, env, s1, S1, e.mono k1.mono, by rw [if_pos rfl] at p1; exact p1⟩
    | false => exact iteF ⟨L1, env, s1, S1, e.mono k1.mono, by rw [if_neg Bool.false_ne_true] at p1; exact p1⟩⟩
end
/-- minus -/
def eNeg (ma : EM) : EM := fun env s => (ma env s).bind fun d s => match d with | .int i => .ok (.int (-i)) s | _ => .bad
theorem de_neg (ha : DE X ca W a ma) : DE X ca W (.UnaryOp .USub a pos) (eNeg ma) := PE.imp (pe_un un_neg ha) fun σ H Q ⟨L, env, s, S, e, p⟩ =>
  ⟨L, env, s, S, e, p.bind.imp fun v H1 ⟨L1, s1, d, k1, S1, r1, p1⟩ => by
    split at p1
    · simp only [RD] at r1
      exact ⟨_, r1, p1 L1 _ H1 Keep.refl S1 rfl⟩
    · exact p1.elim⟩

/-! ### calls of built-ins -/
def ImpC (K : PySem.W.Frag) (ca : Nat → Addr) (f : List D → Store → R D) (r : List V → Hp → VK → Prop) : Prop := ∀ (L : Lv) (H : Hp) (s : Store) (xs : List D) (vs : List V) (Q : VK) (E : Nat → Hp → Prop),
  SR K ca L s H → RDs K L H xs vs → post K ca (RD K) L H (f xs s) Q E → r vs H Q
def eCall (f : List D → Store → R D) (ms : AM) : EM := fun env s => (ms env s).bind fun ds s => f ds s
theorem tCB_of {f : List D → Store → R D} {r : List V → Hp → VK → Prop} {ms : AM} (hi : ImpC X.K ca f r) : ∀ σ H Q, tE X.K ca W (eCall f ms) σ H Q → tCB r (tA X.K ca W ms) σ H Q := fun σ H Q ⟨L, env, s, S, e, p⟩ =>
  ⟨L, env, s, S, e, p.bind.imp fun vs H1 ⟨L1, s1, ds, k1, S1, r1, p1⟩ => hi L1 H1 s1 ds vs Q _ S1 r1 p1⟩
section
variable {id T : String} {r : List V → Hp → VK → Prop} {f : List D → Store → R D} {ms : AM} {x : Str} {p : Pos}
theorem de_callB (hc : CallR X (.builtin id) r) (hi : ImpC X.K ca f r) (hg : Gl X x) (hm : X.mg x = none) (hv : bootBuiltins x = some (.builtin id)) (ha : DA X ca W (e :: es) ms) (hn : x ≠ "__name__" := by decide) (hdb : (x == ("__debug__" : Str)) = false := by decide)
    (he : starEach (e :: es) X.env = (false, eval e X.env) :: starEach es X.env := by rfl) (hpl : (backTo pos (starEach es X.env)).any (·.1) = false := by rfl) : DE X ca W (.Call (.Name x p) (e :: es) [] pos) (eCall f ms) :=
  PE.imp (pe_callB hc hg hm hv ha hn hdb he hpl) (tCB_of hi)
theorem de_callTy (hc : CallR X (.type T) r) (hi : ImpC X.K ca f r) (hg : Gl X x) (hm : X.mg x = none) (hv : bootBuiltins x = some (.type T)) (ha : DA X ca W (e :: es) ms) (hn : x ≠ "__name__" := by decide) (hdb : (x == ("__debug__" : Str)) = false := by decide)
    (he : starEach (e :: es) X.env = (false, eval e X.env) :: starEach es X.env := by rfl) (hpl : (backTo pos (starEach es X.env)).any (·.1) = false := by rfl) : DE X ca W (.Call (.Name x p) (e :: es) [] pos) (eCall f ms) :=
  PE.imp (pe_callTy hc hg hm hv ha hn hdb he hpl) (tCB_of hi)
end
def lenD : List D → Store → R D := fun xs s => match xs with
  | [.str z] => if z.length ≤ LINE then .ok (.int z.length) s else .bad
  | [.tup xs] => .ok (.int xs.length) s
  | [x] => match rdS s x with | some xs => .ok (.int xs.length) s | none => .bad
  | _ => .bad
theorem RDs.one {K : PySem.W.Frag} {L : Lv} {H : Hp} {x : D} {vs : List V} (h : RDs K L H [x] vs) : ∃ v, vs = [v] ∧ RD K L H x v := by
  simp only [RDs] at h
  obtain ⟨v, ws, rfl, r, rfl⟩ := h
  exact ⟨v, rfl, r⟩
theorem RDs.two {K : PySem.W.Frag} {L : Lv} {H : Hp} {x y : D} {vs : List V} (h : RDs K L H [x, y] vs) : ∃ v w, vs = [v, w] ∧ RD K L H x v ∧ RD K L H y w := by
  simp only [RDs] at h
  obtain ⟨v, ws, rfl, r, w, us, rfl, r2, rfl⟩ := h
  exact ⟨v, w, rfl, r, r2⟩
theorem imp_len : ImpC X.K ca lenD (fun xs H Q => ∃ x n, xs = [x] ∧ LenV X.K x H n ∧ Q (.int n) H) := by
  intro L H s xs vs Q E S h p
  unfold lenD at p
  split at p
  · split at p
    · rename_i z hz
      obtain ⟨v, rfl, r⟩ := h.one
      simp only [RD] at r
      subst r
      exact ⟨_, z.length, rfl, ⟨by rw [line_eq]; exact hz, rfl⟩, p L _ H Keep.refl S rfl⟩
    · exact p.elim
  · rename_i xs
    obtain ⟨v, rfl, r⟩ := h.one
    simp only [RD] at r
    obtain ⟨a, vs, rfl, f, rs⟩ := r
    exact ⟨_, xs.length, rfl, .inr ⟨vs, f.sq, rs.length⟩, p L _ H Keep.refl S rfl⟩
  · split at p
    · rename_i xs ex
      obtain ⟨v, rfl, r⟩ := h.one
      obtain ⟨a, vs, rfl, f, rs⟩ := rdS_ok S r ex
      exact ⟨_, xs.length, rfl, .inl ⟨vs, f, rs.length⟩, p L _ H Keep.refl S rfl⟩
    · exact p.elim
  · exact p.elim
def listD : List D → Store → R D := fun xs s => match xs with
  | [.tup xs] => .ok (.lst xs) s
  | [x] => match rdS s x with | some xs => .ok (.lst xs) s | none => .bad
  | _ => .bad
theorem imp_list : ImpC X.K ca listD (fun xs H Q => ∃ p ys, xs = [.ref p] ∧ (SqL X.K H p ys ∨ SqT X.K H p ys) ∧ ∀ l, H l = none → Q (.ref l) (upd H l (.lst ys))) := by
  intro L H s xs vs Q E S h p
  unfold listD at p
  split at p
  · obtain ⟨v, rfl, r⟩ := h.one
    simp only [RD] at r
    obtain ⟨a, vs, rfl, f, rs⟩ := r
    exact ⟨a, vs, rfl, .inr f.sq, new_lst S rs p⟩
  · split at p
    · rename_i ex
      obtain ⟨v, rfl, r⟩ := h.one
      obtain ⟨a, vs, rfl, f, rs⟩ := rdS_ok S r ex
      exact ⟨a, vs, rfl, .inl f, new_lst S rs p⟩
    · exact p.elim
  · exact p.elim
def tupleD : List D → Store → R D := fun xs s => match xs with
  | [.tup xs] => .ok (.tup xs) s
  | [x] => match rdS s x with | some xs => .ok (.tup xs) s | none => .bad
  | _ => .bad
theorem imp_tuple : ImpC X.K ca tupleD (fun xs H Q => ∃ p ys, xs = [.ref p] ∧ ((SqL X.K H p ys ∧ ∀ l, H l = none → Q (.ref l) (upd H l (.tup ys))) ∨ (SqT X.K H p ys ∧ Q (.ref p) H))) := by
  intro L H s xs vs Q E S h p
  unfold tupleD at p
  split at p
  · obtain ⟨v, rfl, r⟩ := h.one
    have r' := r
    simp only [RD] at r
    obtain ⟨a, vs, rfl, f, rs⟩ := r
    exact ⟨a, vs, rfl, .inr ⟨f.sq, p L _ H Keep.refl S r'⟩⟩
  · split at p
    · rename_i ex
      obtain ⟨v, rfl, r⟩ := h.one
      obtain ⟨a, vs, rfl, f, rs⟩ := rdS_ok S r ex
      exact ⟨a, vs, rfl, .inl ⟨f, new_tup S rs p⟩⟩
    · exact p.elim
  · exact p.elim
def bools : List D → Option (List Bool)
  | [] => some []
  | .bl b :: r => (bools r).map (b :: ·)
  | _ => none
theorem bools_ok {K : PySem.W.Frag} {L : Lv} {H : Hp} : ∀ {ds : List D} {vs : List V} {bs : List Bool}, bools ds = some bs → RDs K L H ds vs → vs = bs.map V.bl
  | [], vs, bs, e, r => by simp only [bools] at e; cases e; simp only [RDs] at r; subst r; rfl
  | d :: ds, vs, bs, e, r => by
    cases d with
    | bl b =>
      simp only [bools] at e
      cases q : bools ds with
      | none => rw [q] at e; cases e
      | some cs =>
        rw [q] at e; cases e
        simp only [RDs] at r
        obtain ⟨w, ws, rfl, r1, r2⟩ := r
        simp only [RD] at r1
        subst r1
        rw [bools_ok q r2]; rfl
    | _ => cases e
def intsD : List D → Option (List Int)
  | [] => some []
  | .int b :: r => (intsD r).map (b :: ·)
  | _ => none
theorem intsD_ok {K : PySem.W.Frag} {L : Lv} {H : Hp} : ∀ {ds : List D} {vs : List V} {bs : List Int}, intsD ds = some bs → RDs K L H ds vs → vs = bs.map V.int
  | [], vs, bs, e, r => by simp only [intsD] at e; cases e; simp only [RDs] at r; subst r; rfl
  | d :: ds, vs, bs, e, r => by
    cases d with
    | int b =>
      simp only [intsD] at e
      cases q : intsD ds with
      | none => rw [q] at e; cases e
      | some cs =>
        rw [q] at e; cases e
        simp only [RDs] at r
        obtain ⟨w, ws, rfl, r1, r2⟩ := r
        simp only [RD] at r1
        subst r1
        rw [intsD_ok q r2]; rfl
    | _ => cases e
def allD : List D → Store → R D := fun xs s => match xs with
  | [x] => match rdS s x with | some xs => (match bools xs with | some bs => .ok (.bl (bs.all id)) s | none => .bad) | none => .bad
  | _ => .bad
def anyD : List D → Store → R D := fun xs s => match xs with
  | [x] => match rdS s x with | some xs => (match bools xs with | some bs => .ok (.bl (bs.any id)) s | none => .bad) | none => .bad
  | _ => .bad
def sumD : List D → Store → R D := fun xs s => match xs with
  | [x] => match rdS s x with | some xs => (match intsD xs with | some bs => .ok (.int bs.sum) s | none => .bad) | none => .bad
  | _ => .bad
theorem imp_all : ImpC X.K ca allD (rAll X.K) := by
  intro L H s xs vs Q E S h p
  unfold allD at p
  split at p
  · split at p
    · rename_i ex
      split at p
      · rename_i bs eb
        obtain ⟨v, rfl, r⟩ := h.one
        obtain ⟨a, vs, rfl, f, rs⟩ := rdS_ok S r ex
        have := bools_ok eb rs
        subst this
        exact ⟨a, bs, rfl, f, p L _ H Keep.refl S rfl⟩
      · exact p.elim
    · exact p.elim
  · exact p.elim
theorem imp_any : ImpC X.K ca anyD (rAny X.K) := by
  intro L H s xs vs Q E S h p
  unfold anyD at p
  split at p
  · split at p
    · rename_i ex
      split at p
      · rename_i bs eb
        obtain ⟨v, rfl, r⟩ := h.one
        obtain ⟨a, vs, rfl, f, rs⟩ := rdS_ok S r ex
        have := bools_ok eb rs
        subst this
        exact ⟨a, bs, rfl, f, p L _ H Keep.refl S rfl⟩
      · exact p.elim
    · exact p.elim
  · exact p.elim
theorem imp_sum : ImpC X.K ca sumD (rSum X.K) := by
  intro L H s xs vs Q E S h p
  unfold sumD at p
  split at p
  · split at p
    · rename_i ex
      split at p
      · rename_i bs eb
        obtain ⟨v, rfl, r⟩ := h.one
        obtain ⟨a, vs, rfl, f, rs⟩ := rdS_ok S r ex
        have := intsD_ok eb rs
        subst this
        exact ⟨a, bs, rfl, f, p L _ H Keep.refl S rfl⟩
      · exact p.elim
    · exact p.elim
  · exact p.elim
def maxD : List D → Store → R D := fun xs s => match xs with | [.int i, .int j] => .ok (.int (if j > i then j else i)) s | _ => .bad
def minD : List D → Store → R D := fun xs s => match xs with | [.int i, .int j] => .ok (.int (if j < i then j else i)) s | _ => .bad
def intD : List D → Store → R D := fun xs s => match xs with | [.int i] => .ok (.int i) s | [.bl b] => .ok (.int (if b then 1 else 0)) s | _ => .bad
def absD : List D → Store → R D := fun xs s => match xs with | [.int i] => .ok (.int (if i < 0 then -i else i)) s | _ => .bad
theorem imp_max : ImpC X.K ca maxD (fun xs H Q => ∃ i j, xs = [.int i, .int j] ∧ Q (.int (if j > i then j else i)) H) := by
  intro L H s xs vs Q E S h p
  unfold maxD at p
  split at p
  · obtain ⟨v, w, rfl, r, r2⟩ := h.two
    simp only [RD] at r r2
    subst r; subst r2
    exact ⟨_, _, rfl, p L _ H Keep.refl S rfl⟩
  · exact p.elim
theorem imp_min : ImpC X.K ca minD (fun xs H Q => ∃ i j, xs = [.int i, .int j] ∧ Q (.int (if j < i then j else i)) H) := by
  intro L H s xs vs Q E S h p
  unfold minD at p
  split at p
  · obtain ⟨v, w, rfl, r, r2⟩ := h.two
    simp only [RD] at r r2
    subst r; subst r2
    exact ⟨_, _, rfl, p L _ H Keep.refl S rfl⟩
  · exact p.elim
theorem imp_int : ImpC X.K ca intD (fun xs H Q => (∃ i, xs = [.int i] ∧ Q (.int i) H) ∨ ∃ k, xs = [.bl k] ∧ Q (.int (if k then 1 else 0)) H) := by
  intro L H s xs vs Q E S h p
  unfold intD at p
  split at p
  · obtain ⟨v, rfl, r⟩ := h.one
    simp only [RD] at r
    subst r
    exact .inl ⟨_, rfl, p L _ H Keep.refl S rfl⟩
  · obtain ⟨v, rfl, r⟩ := h.one
    simp only [RD] at r
    subst r
    exact .inr ⟨_, rfl, p L _ H Keep.refl S rfl⟩
  · exact p.elim
theorem imp_abs : ImpC X.K ca absD (fun xs H Q => ∃ i, xs = [.int i] ∧ Q (.int (if i < 0 then -i else i)) H) := by
  intro L H s xs vs Q E S h p
  unfold absD at p
  split at p
  · obtain ⟨v, rfl, r⟩ := h.one
    simp only [RD] at r
    subst r
    exact ⟨_, rfl, p L _ H Keep.refl S rfl⟩
  · exact p.elim
end
end DE
/-! DE5: isinstance, methods of texts, calls of the text's defs, statements, a def by its body -/
namespace DE
open PySem PySem.Spec PyProof.Rows L2

/-! ### isinstance -/
def tyOf (s : Store) : D → Option String
  | .non => some "NoneType"
  | .bl _ => some "bool"
  | .int _ => some "int"
  | .str _ => some "str"
  | .tup _ => some "tuple"
  | .lst _ => some "list"
  | .dct _ _ => some "dict"
  | .ref l => match s[l]? with
    | some (.lst _) => some "list"
    | some (.dK _ _) => some "dict"
    | some (.dT _ _) => some "dict"
    | _ => none
  | .scr _ => some "list"
  | .exc _ _ => none
  | .obj _ _ => none
def isTy (a b : String) : Bool := a == b || (a == "bool" && b == "int")
def tys : List String := ["NoneType", "bool", "int", "str", "tuple", "list", "dict"]
theorem kit_tys : (tys.all fun a => tys.all fun b => decide (kitB a b = some (isTy a b))) = true := by decide +kernel
theorem kit_of {a b : String} (ha : a ∈ tys) (hb : b ∈ tys) : kitB a b = some (isTy a b) := of_decide_eq_true (List.all_eq_true.mp (List.all_eq_true.mp kit_tys a ha) b hb)
def isiD (n : String) (m : EM) : EM := fun env s => (m env s).bind fun d s => match tyOf s d with | some t => .ok (.bl (isTy t n)) s | none => .bad
section
variable {X : Cx} {ca : Nat → Addr} {W : WX} {e a b c : Expr} {es rest : List Expr} {m ma mb mc : EM} {ms : AM} {pos p p2 apos : Pos}
theorem ty_ok {K : PySem.W.Frag} {L : Lv} {H : Hp} {s : Store} (S : SR K ca L s H) {d : D} {v : V} {t : String} (r : RD K L H d v) (e : tyOf s d = some t) : TyX K H v (.type t) ∧ t ∈ tys := by
  cases d with
  | non => cases e; simp only [RD] at r; subst r; exact ⟨.base .non, by decide⟩
  | bl b => cases e; simp only [RD] at r; subst r; exact ⟨.base (.bl b), by decide⟩
  | int i => cases e; simp only [RD] at r; subst r; exact ⟨.base (.int i), by decide⟩
  | str x => cases e; simp only [RD] at r; subst r; exact ⟨.base (.str x), by decide⟩
  | tup xs =>
    cases e
    simp only [RD] at r
    obtain ⟨a, vs, rfl, f, _⟩ := r
    refine ⟨?_, by decide⟩
    rcases f with ⟨_, _, q | ⟨ob, q⟩⟩ | ⟨o, its, n, h1, h2, _⟩
    · exact .base (.tup q)
    · exact .fTuple q
    · exact .kTuple h1 h2
  | lst xs =>
    cases e
    simp only [RD] at r
    obtain ⟨a, vs, rfl, f, _⟩ := r
    exact ⟨.base (.lst f.2.2), by decide⟩
  | dct ks xs =>
    cases e
    simp only [RD] at r
    obtain ⟨a, vs, rfl, f, _⟩ := r
    exact ⟨.base (.dK f.2.2), by decide⟩
  | ref l =>
    simp only [RD] at r
    obtain ⟨a, rfl, ea⟩ := r
    obtain ⟨c, ec, k⟩ := S.at ea
    unfold tyOf at e
    simp only [ec] at e
    cases c with
    | lst ys => cases e; obtain ⟨vs, h1, h2⟩ := k; exact ⟨.base (.lst h1), by decide⟩
    | dK ks ys => cases e; obtain ⟨vs, h1, h2⟩ := k; exact ⟨.base (.dK h1), by decide⟩
    | dT ks ys => cases e; obtain ⟨vs, h1, h2⟩ := k; exact ⟨.base (.dT h1), by decide⟩
    | ins => cases e
  | scr ns =>
    cases e
    simp only [RD] at r
    obtain ⟨a, rfl, f⟩ := r
    refine ⟨?_, by decide⟩
    rcases f with ⟨_, _, q | ⟨ob, q⟩⟩ | ⟨o, its, n, h1, h2, _⟩
    · exact .base (.lst q)
    · exact .base (.frz q)
    · exact .kList h1 h2
  | exc => cases e
  | obj => cases e
theorem de_isi {T : Str} {n : String} (hm : X.mg "isinstance" = none) (hT : X.mg T = none) (hv : bootBuiltins T = some (.type n)) (hn : n ∈ tys) (he : DE X ca W e m) (hg : Gl X "isinstance" := by rfl) (hgT : Gl X T := by rfl) (hT0 : T ≠ "__name__" := by decide) (hTd : (T == ("__debug__" : Str)) = false := by decide)
    (h1 : starEach (.Name T p2 :: []) X.env = (false, eval (.Name T p2) X.env) :: starEach [] X.env := by rfl) (h2 : starEach (e :: [.Name T p2]) X.env = (false, eval e X.env) :: starEach [.Name T p2] X.env := by rfl) (hpl : (backTo pos (starEach [.Name T p2] X.env)).any (·.1) = false := by rfl) :
    DE X ca W (.Call (.Name "isinstance" p) [e, .Name T p2] [] pos) (isiD n m) :=
  PE.imp (pe_callB call_isi hg hm boot_isinstance (pa_cons he (pa_cons (pe_bltn (v := .ty n) hgT hT hv rfl hT0 hTd) pa_nil h1) h2) (by decide) (by decide) h2 hpl) fun σ H Q ⟨L, env, s, S, e, p⟩ =>
    ⟨L, env, s, S, e, p.bind.imp fun v H1 ⟨L1, s1, d, k1, S1, r1, p1⟩ => by
      split at p1
      · rename_i t et
        obtain ⟨ty, ht⟩ := ty_ok S1 r1 et
        exact ⟨v, .ty n, .type t, .type n, _, rfl, .ty n, ty, kit_ty (kit_of ht hn), p1 L1 _ H1 Keep.refl S1 rfl⟩
      · exact p1.elim⟩

/-! ### methods of texts -/
def strsD : List D → Option (List Str)
  | [] => some []
  | .str b :: r => (strsD r).map (b :: ·)
  | _ => none
theorem strsD_ok {K : PySem.W.Frag} {L : Lv} {H : Hp} : ∀ {ds : List D} {vs : List V} {bs : List Str}, strsD ds = some bs → RDs K L H ds vs → vs = bs.map V.str
  | [], vs, bs, e, r => by simp only [strsD] at e; cases e; simp only [RDs] at r; subst r; rfl
  | d :: ds, vs, bs, e, r => by
    cases d with
    | str b =>
      simp only [strsD] at e
      cases q : strsD ds with
      | none => rw [q] at e; cases e
      | some cs =>
        rw [q] at e; cases e
        simp only [RDs] at r
        obtain ⟨w, ws, rfl, r1, r2⟩ := r
        simp only [RD] at r1
        subst r1
        rw [strsD_ok q r2]; rfl
    | _ => cases e
/-- o.name(e), o a text -/
def eM1 (f : Str → D → Store → R D) (ma m : EM) : EM := fun env s => (ma env s).bind fun x s => match x with
  | .str z => (m env s).bind fun y s => f z y s
  | _ => .bad
def ImpS (K : PySem.W.Frag) (ca : Nat → Addr) (f : Str → D → Store → R D) (r : V → List V → Hp → VK → Prop) : Prop := ∀ (L : Lv) (H : Hp) (s : Store) (z : Str) (y : D) (u : V) (Q : VK) (E : Nat → Hp → Prop),
  SR K ca L s H → RD K L H y u → post K ca (RD K) L H (f z y s) Q E → r (.str z) [u] H Q
theorem tM1_of {f : Str → D → Store → R D} {r : V → List V → Hp → VK → Prop} (hi : ImpS X.K ca f r) : ∀ σ H Q, tE X.K ca W (eM1 f ma m) σ H Q → tM1 r (tE X.K ca W ma) (tE X.K ca W m) σ H Q := fun σ H Q ⟨L, env, s, S, e, p⟩ =>
  ⟨L, env, s, S, e, p.bind.imp fun v H1 ⟨L1, s1, d, k1, S1, r1, p1⟩ => by
    cases d with
    | str z =>
      simp only [RD] at r1
      subst r1
      exact ⟨⟨z, rfl⟩, L1, env, s1, S1, e.mono k1.mono, p1.bind.imp fun w H2 ⟨L2, s2, d2, k2, S2, r2, p2⟩ => hi L2 H2 s2 z d2 w Q _ S2 r2 p2⟩
    | _ => exact p1.elim⟩
def joinD : Str → D → Store → R D := fun a y s => match rdS s y with
  | some ys => match strsD ys with
    | some zs => if (zs.map (·.length)).sum + zs.length * a.length ≤ LINE then .ok (.str (Txt.join a zs)) s else .bad
    | none => .bad
  | none => .bad
theorem imp_join : ImpS X.K ca joinD (fun x xs H Q => ∃ a p, ∃ ys : List Str, x = .str a ∧ xs = [.ref p] ∧ (SqL X.K H p (ys.map V.str) ∨ SqT X.K H p (ys.map V.str)) ∧ (ys.map (·.length)).sum + ys.length * a.length ≤ 16777216 ∧ Q (.str (Txt.join a ys)) H) := by
  intro L H s z y u Q E S r p
  unfold joinD at p
  split at p
  · rename_i ys ey
    obtain ⟨q, vs, rfl, f, rs⟩ := rdS_ok S r ey
    split at p
    · rename_i zs ez
      split at p
      · rename_i hz
        have := strsD_ok ez rs
        subst this
        exact ⟨z, q, zs, rfl, rfl, .inl f, hz, p L _ H Keep.refl S rfl⟩
      · exact p.elim
    · exact p.elim
  · exact p.elim
theorem de_join (ho : DE X ca W a ma) (he : DE X ca W e m) (hs : starEach [e] X.env = [(false, eval e X.env)] := by rfl) (hbase : attributeBase a "join" X.env (eval a X.env) = eval a X.env := by rfl) (hline : (apos.endLine == pos.line) = true := by rfl) :
    DE X ca W (.Call (.Attribute a "join" apos) [e] [] pos) (eM1 joinD ma m) := PE.imp (pe_join ho he hs hbase hline) (tM1_of imp_join)
def countD : Str → D → Store → R D := fun a y s => match y with
  | .str b => .ok (.int (Txt.count a b)) s
  | _ => .bad
theorem imp_count : ImpS X.K ca countD (fun x xs H Q => ∃ a b, x = .str a ∧ xs = [.str b] ∧ Q (.int (Txt.count a b)) H) := by
  intro L H s z y u Q E S r p
  unfold countD at p
  split at p
  · simp only [RD] at r
    subst r
    exact ⟨_, _, rfl, rfl, p L _ H Keep.refl S rfl⟩
  · exact p.elim
theorem de_count (ho : DE X ca W a ma) (he : DE X ca W e m) (hs : starEach [e] X.env = [(false, eval e X.env)] := by rfl) (hbase : attributeBase a "count" X.env (eval a X.env) = eval a X.env := by rfl) (hline : (apos.endLine == pos.line) = true := by rfl) :
    DE X ca W (.Call (.Attribute a "count" apos) [e] [] pos) (eM1 countD ma m) := PE.imp (pe_m1 PySem.F.slot_str_count PySem.F.type_str_count mt_count ho he hs hbase hline) (tM1_of imp_count)

/-! ### calls of the text's defs -/
abbrev Fn := List D → Store → R D
/-- what a def promises: its function's result -/
def spOf (K : PySem.W.Frag) (ca : Nat → Addr) (n : Nat) (fn : Fn) : Sp := fun vs H Q E => ∃ L ds s, ds.length = n ∧ SR K ca L s H ∧ RDs K L H ds vs ∧ post K ca (RD K) L H (fn ds s) Q (fun c H' => E (.ref (ca c)) none H')
/-- .. with so many arguments -/
def ar (n : Nat) (fn : Fn) : Fn := fun ds s => if ds.length = n then fn ds s else .bad
theorem de_call {k n : Nat} {f : Addr} {fd : FuncData} {ps : List Str} {fn : Fn} {x : Str} (F : FnOk X.prog X.w X.K X.mg X.base (L2N.CX X.prog X.w) k f fd ps (spOf X.K ca n fn)) (hr : Room k X.A) (tk : L2N.Takes X W) (hm : X.mg x = some (.ref f)) (hk : PySem.W.keepIn X.K (.ref f) = true) (hb : Binds X.K fd ps [])
    (ha : DA X ca W (e :: es) ms) (hg : Gl X x := by rfl) (hdb : (x == ("__debug__" : Str)) = false := by decide) (he : starEach (e :: es) X.env = (false, eval e X.env) :: starEach es X.env := by rfl) (hpl : (backTo pos (starEach es X.env)).any (·.1) = false := by rfl) :
    DE X ca W (.Call (.Name x p) (e :: es) [] pos) (eCall (ar n fn) ms) :=
  PE.imp (pe_callS (E := WE W) F hr hg hm hk hb (L2N.passAt tk) ha hdb he hpl) fun σ H Q ⟨L, env, s, S, e, p⟩ =>
    ⟨L, env, s, S, e, p.bind.imp fun vs H1 ⟨L1, s1, ds, k1, S1, r1, p1⟩ => by
      unfold ar at p1
      split at p1
      · rename_i hn
        exact ⟨L1, ds, s1, hn, S1, r1, p1⟩
      · exact p1.elim⟩

/-! ### statements -/
inductive RS where
  | next (env : Env) (s : Store) | ret (d : D) (s : Store) | brk (env : Env) (s : Store) | cnt (env : Env) (s : Store) | exc (c : Nat) (s : Store) | bad
abbrev SM := Env → Store → RS
def R.bindS {α : Type} (r : R α) (k : α → Store → RS) : RS := match r with
  | .ok a s => k a s
  | .exc c s => .exc c s
  | .bad => .bad
@[simp] theorem R.bindS_ok {α : Type} (a : α) (s : Store) (k : α → Store → RS) : (R.ok a s).bindS k = k a s := rfl
@[simp] theorem R.bindS_exc {α : Type} (c : Nat) (s : Store) (k : α → Store → RS) : (R.exc c s : R α).bindS k = .exc c s := rfl
@[simp] theorem R.bindS_bad {α : Type} (k : α → Store → RS) : (R.bad : R α).bindS k = .bad := rfl
def RS.bind (r : RS) (k : SM) : RS := match r with
  | .next env s => k env s
  | r => r
@[simp] theorem RS.bind_next (env : Env) (s : Store) (k : SM) : (RS.next env s).bind k = k env s := rfl
@[simp] theorem RS.bind_ret (d : D) (s : Store) (k : SM) : (RS.ret d s).bind k = .ret d s := rfl
@[simp] theorem RS.bind_brk (env : Env) (s : Store) (k : SM) : (RS.brk env s).bind k = .brk env s := rfl
@[simp] theorem RS.bind_cnt (env : Env) (s : Store) (k : SM) : (RS.cnt env s).bind k = .cnt env s := rfl
@[simp] theorem RS.bind_exc (c : Nat) (s : Store) (k : SM) : (RS.exc c s).bind k = .exc c s := rfl
@[simp] theorem RS.bind_bad (k : SM) : RS.bad.bind k = .bad := rfl
def postS (K : PySem.W.Frag) (ca : Nat → Addr) (L : Lv) (H : Hp) (r : RS) (T : Ends) (E : Nat → Hp → Prop) : Prop := match r with
  | .next env s => ∀ L' σ' H', Keep L H L' H' → SR K ca L' s H' → ER K L' H' env σ' → T.nx σ' H'
  | .brk env s => ∀ L' σ' H', Keep L H L' H' → SR K ca L' s H' → ER K L' H' env σ' → T.bk σ' H'
  | .cnt env s => ∀ L' σ' H', Keep L H L' H' → SR K ca L' s H' → ER K L' H' env σ' → T.ct σ' H'
  | .ret d s => ∀ L' v H', Keep L H L' H' → SR K ca L' s H' → RD K L' H' d v → T.rt v H'
  | .exc c s => ∀ L' H', Keep L H L' H' → SR K ca L' s H' → E c H'
  | .bad => False
section
variable {K : PySem.W.Frag} {L L2 : Lv} {H H2 : Hp} {r : RS} {T T' : Ends} {E E' : Nat → Hp → Prop}
theorem postS.from (p : postS K ca L H r T E) (k : Keep L H L2 H2) : postS K ca L2 H2 r T E := by
  cases r with
  | next env s => exact fun L' b H' k' => p L' b H' (k.trans k')
  | brk env s => exact fun L' b H' k' => p L' b H' (k.trans k')
  | cnt env s => exact fun L' b H' k' => p L' b H' (k.trans k')
  | ret env s => exact fun L' b H' k' => p L' b H' (k.trans k')
  | exc c s => exact fun L' H' k' => p L' H' (k.trans k')
  | bad => exact p
theorem postS.impE (p : postS K ca L H r T E) (h : ∀ c H', E c H' → E' c H') : postS K ca L H r T E' := by
  cases r with
  | exc c s => exact fun L' H' k' S => h _ _ (p L' H' k' S)
  | next env s => exact p
  | brk env s => exact p
  | cnt env s => exact p
  | ret env s => exact p
  | bad => exact p
theorem postS.ofR {α β : Type} {RA : Lv → Hp → α → β → Prop} {q : R α} {k : α → Store → RS} (p : postS K ca L H (q.bindS k) T E) :
    post K ca RA L H q (fun b H1 => ∃ L1 s1 a, Keep L H L1 H1 ∧ SR K ca L1 s1 H1 ∧ RA L1 H1 a b ∧ postS K ca L1 H1 (k a s1) T E) E := by
  cases q with
  | ok a s => exact fun L' b H' k' S q => ⟨L', s, a, k', S, q, p.from k'⟩
  | exc c s => exact p
  | bad => exact p
end
def tS (K : PySem.W.Frag) (ca : Nat → Addr) (W : WX) (m : SM) : TS := fun T σ H => ∃ L env s, SR K ca L s H ∧ ER K L H env σ ∧ postS K ca L H (m env s) T (wE ca W σ)
def DS (X : Cx) (ca : Nat → Addr) (W : WX) (st : Stmt) (m : SM) : Prop := PS X st (tS X.K ca W m)
def DSs (X : Cx) (ca : Nat → Addr) (W : WX) (st : List Stmt) (m : SM) : Prop := PSs X st (tS X.K ca W m)
def sPass : SM := fun env s => .next env s
def sBad : SM := fun _ _ => .bad
def sRet (m : EM) : SM := fun env s => (m env s).bindS fun d s => .ret d s
def sRetN : SM := fun _ s => .ret .non s
def sExpr (m : EM) : SM := fun env s => (m env s).bindS fun _ s => .next env s
def sSet (i : Nat) (m : EM) : SM := fun env s => (m env s).bindS fun d s => .next (env.set i (some d)) s
def sSeq (m n : SM) : SM := fun env s => (m env s).bind n
def sIf (t : TM) (m n : SM) : SM := fun env s => (t env s).bindS fun b s => if b = true then m env s else n env s
/-- the wish looks at no slots -/
def Wid (W : WX) : Prop := ∀ c d σ σ' H, W c d σ H → W c d σ' H
variable {st : Stmt} {sts : List Stmt} {sm sn : SM} {tc : TM}
theorem ds_pass : DS X ca W (.Pass pos) sPass := PS.imp ps_pass fun T σ H ⟨L, env, s, S, e, p⟩ => p L σ H Keep.refl S e
theorem ds_break : DS X ca W (.Break pos) (fun env s => .brk env s) := PS.imp ps_break fun T σ H ⟨L, env, s, S, e, p⟩ => p L σ H Keep.refl S e
theorem ds_never : DS X ca W st sBad := ⟨fun _ _ _ _ _ _ ⟨_, _, _, _, _, p⟩ => p.elim⟩
theorem dss_never : DSs X ca W sts sBad := ⟨fun _ _ _ _ _ _ ⟨_, _, _, _, _, p⟩ => p.elim⟩
theorem ds_ret (h : DE X ca W e m) : DS X ca W (.Return (some e) pos) (sRet m) := PS.imp (ps_ret h) fun T σ H ⟨L, env, s, S, e, p⟩ =>
  ⟨L, env, s, S, e, p.ofR.imp fun v H1 ⟨L1, s1, d, k1, S1, r1, p1⟩ => p1 L1 v H1 Keep.refl S1 r1⟩
theorem ds_retN : DS X ca W (.Return none pos) sRetN := PS.imp ps_retN fun T σ H ⟨L, env, s, S, e, p⟩ => p L _ H Keep.refl S rfl
theorem ds_expr (h : DE X ca W e m) (hs : swapsWith e none pos.line X.env = pure false := by rfl) : DS X ca W (.Expr e pos) (sExpr m) := PS.imp (ps_expr h hs) fun T σ H ⟨L, env, s, S, e, p⟩ =>
  ⟨L, env, s, S, e, p.ofR.imp fun v H1 ⟨L1, s1, d, k1, S1, r1, p1⟩ => p1 L1 σ H1 Keep.refl S1 (e.mono k1.mono)⟩
theorem ds_set (i : Nat) {x : Str} {pos' : Pos} (hN : X.N.Nodup) (h : DE X ca W e m) (hi : X.N[i]? = some x := by rfl) (hx : Loc X.env.scope x := by first | exact Or.inl rfl | exact Or.inr rfl) (hs : swapsWith e (some (.Name x pos')) pos.line X.env = pure false := by rfl)
    (hf : X.fn x = true ∨ X.env.scope.names.lookup x = some .local := by first | exact .inl rfl | exact .inr rfl | assumption) : DS X ca W (.Assign [.Name x pos'] e pos) (sSet i m) := PS.imp (ps_set hN hi hx h hs hf) fun T σ H ⟨L, env, s, S, e, p⟩ =>
  ⟨L, env, s, S, e, p.ofR.imp fun v H1 ⟨L1, s1, d, k1, S1, r1, p1⟩ => p1 L1 _ H1 Keep.refl S1 ((e.mono k1.mono).set r1)⟩
theorem ds_if {a b : List Stmt} (hc : DT X ca W c tc) (ha : DSs X ca W a sm) (hb : DSs X ca W b sn) : DS X ca W (.If c a b pos) (sIf tc sm sn) := PS.imp (ps_if hc ha hb) fun T σ H ⟨L, env, s, S, e, p⟩ =>
  ⟨L, env, s, S, e, p.ofR.imp fun v H1 ⟨L1, s1, d, k1, S1, r1, p1⟩ => by
    subst r1
    cases d with
    | true => exact iteT ⟨L1, env, s1, S1, e.mono k1.mono, by rw [if_pos rfl] at p1; exact p1⟩
    | false => exact iteF ⟨L1, env, s1, S1, e.mono k1.mono, by rw [if_neg Bool.false_ne_true] at p1; exact p1⟩⟩
theorem dss_nil : DSs X ca W [] sPass := PSs.imp pss_nil fun T σ H ⟨L, env, s, S, e, p⟩ => p L σ H Keep.refl S e
theorem dss_one (h : DS X ca W st sm) : DSs X ca W [st] sm := pss_one h
theorem dss_cons (hW : Wid W) (h : DS X ca W st sm) (hr : DSs X ca W sts sn) : DSs X ca W (st :: sts) (sSeq sm sn) := PSs.imp (pss_cons h hr) fun T σ H ⟨L, env, s, S, e, p⟩ =>
  ⟨L, env, s, S, e, by
    unfold sSeq at p
    cases q : sm env s with
    | next env' s' =>
      rw [q] at p
      exact fun L' σ' H' k S' e' => ⟨L', env', s', S', e', (p.from k).impE fun c H' h => hW _ _ _ _ _ h⟩
    | brk env s => rw [q] at p; exact p
    | cnt env s => rw [q] at p; exact p
    | ret env s => rw [q] at p; exact p
    | exc c s => rw [q] at p; exact p
    | bad => rw [q] at p; exact p⟩

/-! ### a def by its body -/
def env0 (n : Nat) (ds : List D) : Env := ds.map some ++ List.replicate (n - ds.length) none
def bodyF (n : Nat) (m : SM) : Fn := fun ds s => match m (env0 n ds) s with
  | .next _ s => .ok .non s
  | .ret d s => .ok d s
  | .exc c s => .exc c s
  | _ => .bad
theorem er_start {K : PySem.W.Frag} {L : Lv} {H : Hp} {N : List Str} {ds : List D} {vs : List V} (r : RDs K L H ds vs) : ER K L H (env0 N.length ds) (L2.start N vs) := by
  unfold env0 L2.start
  refine ⟨by simp [r.length], fun i d h => ?_⟩
  by_cases hi : i < ds.length
  · rw [List.getElem?_append_left (by simpa using hi), List.getElem?_map] at h
    cases q : ds[i]? with
    | none => rw [q] at h; cases h
    | some d' =>
      rw [q] at h
      simp only [Option.map_some, Option.some.injEq] at h
      subst h
      obtain ⟨v, hv, rv⟩ := r.get q
      exact ⟨v, by rw [List.getElem?_append_left (by simpa [← r.length] using hi), List.getElem?_map, hv]; rfl, rv⟩
  · rw [List.getElem?_append_right (by simpa using hi), List.getElem?_replicate] at h
    split at h <;> cases h
section
variable {P : Program} {w : World} {K : PySem.W.Frag} {mg : Str → Option Value} {base : Heap}
theorem fn_ok {x qual : Str} {st : Stmt} {f : Addr} {fd : FuncData} {N ps : List Str} {k : Nat} (n j : Nat) (m : SM) (hn : N.length = n) (hj : ps.length = j) (F : Fun K x qual st f fd) (S : FnScope N ps (defScope st))
    (hbody : ∀ (X : Cx) (E : XK), (∃ cdv A outer s H, X = cxOf (L2N.CX P w) P w K mg base N qual (defScope st) f cdv A outer s H E) → Room k X.A → DSs X ca (fun cls d _ H => E cls d H) (defBody st) m) :
    FnOk P w K mg base (L2N.CX P w) (k + 1) f fd ps (spOf K ca j (bodyF n m)) := by
  subst hn; subst hj
  obtain ⟨oc, od, kV, doc, pm, an, cdv, ct, osl, rfl, lk, hcd⟩ := F.ex
  refine fn_of lk hcd S (fun vs H Q E h => ?_) (fun A outer s H vs Q E hr h => ?_)
  · obtain ⟨L, ds, s, hn, _, r, _⟩ := h
    rw [← r.length, hn]
  · obtain ⟨L, ds, s', hn, SS, r, p⟩ := h
    refine ⟨_, hbody _ E ⟨cdv, A, outer, s, H, rfl⟩ hr, L, env0 N.length ds, s', SS, er_start r, ?_⟩
    unfold bodyF at p
    cases q : m (env0 N.length ds) s' with
    | next env' s1 =>
      rw [q] at p
      exact fun L' σ' H' k' S' _ => p L' .non H' k' S' rfl
    | brk env s => rw [q] at p; exact p.elim
    | cnt env s => rw [q] at p; exact p.elim
    | ret d s => rw [q] at p; exact p
    | exc c s => rw [q] at p; exact p
    | bad => rw [q] at p; exact p.elim
end
end
end DE
/-! DE6: targets, what is walked, for, while, comprehensions -/
namespace DE
open PySem PySem.Spec PyProof.Rows L2
section
variable {X : Cx} {ca : Nat → Addr} {W : WX} {e a b c tg iter elt : Expr} {es rest : List Expr} {m ma mb mc : EM} {ms : AM} {pos p p2 apos : Pos} {st : Stmt} {sts body : List Stmt} {sm sn : SM} {tc : TM}

/-! ### targets -/
abbrev GM := D → Env → Store → R Env
abbrev GMs := List D → Env → Store → R Env
def tG (K : PySem.W.Frag) (ca : Nat → Addr) (W : WX) (gm : GM) : TG := fun v σ H Q => ∃ L env s d, SR K ca L s H ∧ ER K L H env σ ∧ RD K L H d v ∧ post K ca (fun L H env σ => ER K L H env σ) L H (gm d env s) (fun σ' H' => Q σ' H') (wE ca W σ)
def tGs (K : PySem.W.Frag) (ca : Nat → Addr) (W : WX) (gm : GMs) : TGs := fun vs σ H Q => ∃ L env s ds, SR K ca L s H ∧ ER K L H env σ ∧ RDs K L H ds vs ∧ post K ca (fun L H env σ => ER K L H env σ) L H (gm ds env s) (fun σ' H' => Q σ' H') (wE ca W σ)
def DG (X : Cx) (ca : Nat → Addr) (W : WX) (e : Expr) (gm : GM) : Prop := PG X e (tG X.K ca W gm)
def DGs (X : Cx) (ca : Nat → Addr) (W : WX) (es : List Expr) (gm : GMs) : Prop := PGs X es (tGs X.K ca W gm)
def gVar (i : Nat) : GM := fun d env s => .ok (env.set i (some d)) s
def gNone : GMs := fun ds env s => match ds with | [] => .ok env s | _ => .bad
def gMore (g : GM) (gs : GMs) : GMs := fun ds env s => match ds with | d :: r => (g d env s).bind (gs r) | _ => .bad
def gTupD (n : Nat) (gs : GMs) : GM := fun d env s => match d with
  | .tup xs => if xs.length = n then gs xs env s else .bad
  | _ => .bad
theorem dg_name (i : Nat) {x : Str} {pos : Pos} (hN : X.N.Nodup) (hi : X.N[i]? = some x := by rfl) (hx : Loc X.env.scope x := by first | exact Or.inl rfl | exact Or.inr rfl) (hf : X.fn x = true ∨ X.env.scope.names.lookup x = some .local := by first | exact .inl rfl | exact .inr rfl | assumption) :
    DG X ca W (.Name x pos) (gVar i) := PG.imp (pg_name hN hi hx hf) fun v σ H Q ⟨L, env, s, d, S, e, r, p⟩ => p L _ H Keep.refl S (e.set r)
theorem dgs_nil : DGs X ca W [] gNone := PGs.imp pgs_nil fun v σ H Q ⟨L, env, s, ds, S, e, r, p⟩ => by
  unfold gNone at p
  split at p
  · simp only [RDs] at r
    exact ⟨r, p L _ H Keep.refl S e⟩
  · exact p.elim
theorem dgs_cons {g : GM} {gs : GMs} (hW : Wid W) (h1 : DG X ca W e g) (h2 : DGs X ca W es gs) (hs : (assignEach (e :: es) X.env).map (·.2) = assign e X.env :: (assignEach es X.env).map (·.2) := by rfl) : DGs X ca W (e :: es) (gMore g gs) :=
  PGs.imp (pgs_cons h1 h2 hs) fun v σ H Q ⟨L, env, s, ds, S, e, r, p⟩ => by
    unfold gMore at p
    split at p
    · rename_i d ds'
      simp only [RDs] at r
      obtain ⟨w, ws, rfl, r1, r2⟩ := r
      exact ⟨w, ws, rfl, L, env, s, d, S, e, r1, p.bind.imp fun σ1 H1 ⟨L1, s1, env1, k1, S1, e1, p1⟩ => ⟨L1, env1, s1, ds', S1, e1, RDs.mono k1.mono _ _ r2, p1.impE fun c H' h => hW _ _ _ _ _ h⟩⟩
    · exact p.elim
theorem dg_tup {n k : Nat} {gs : GMs} (hc : X.calm = true) (h : DGs X ca W es gs) (hn : (assignEach es X.env).length = n := by rfl) (hst : (assignEach es X.env).findIdx? (·.1) = none := by rfl) : DG X ca W (.Tuple es k pos) (gTupD n gs) :=
  PG.imp (pg_tup hc h hn hst) fun v σ H Q ⟨L, env, s, d, S, e, r, p⟩ => by
    unfold gTupD at p
    split at p
    · split at p
      · rename_i xs hl
        simp only [RD] at r
        obtain ⟨a, vs, rfl, f, rs⟩ := r
        exact ⟨a, vs, rfl, f.sq, by rw [← rs.length]; exact hl, L, env, s, xs, S, e, rs, p⟩
      · exact p.elim
    · exact p.elim
def sAsg (m : EM) (g : GM) : SM := fun env s => (m env s).bindS fun d s => (g d env s).bindS fun env s => .next env s
theorem ds_asg {gm : GM} (he : DE X ca W e m) (hg : DG X ca W tg gm) (hs : swapsWithSole [tg] e pos.line X.env = pure false := by rfl) (hw : swappedStores [tg] e X.env = pure none := by rfl) (h1 : (assignEach [tg] X.env).map (·.2) = [assign tg X.env] := by rfl) :
    DS X ca W (.Assign [tg] e pos) (sAsg m gm) := PS.imp (ps_asg he hg hs hw h1) fun T σ H ⟨L, env, s, S, e, p⟩ => ⟨L, env, s, S, e, p.ofR.imp fun v H1 ⟨L1, s1, d, k1, S1, r1, p1⟩ =>
      ⟨L1, env, s1, d, S1, e.mono k1.mono, r1, p1.ofR.imp fun σ2 H2 ⟨L2, s2, env2, k2, S2, e2, p2⟩ => p2 L2 σ2 H2 Keep.refl S2 e2⟩⟩
/-- a, b = x, y -/
def sPar (i j : Nat) (ms : AM) : SM := fun env s => (ms env s).bindS fun ds s => match ds with
  | [x, y] => .next ((env.set i (some x)).set j (some y)) s
  | _ => .bad
theorem ds_par (i j : Nat) {x y : Str} {px py pt : Pos} {kt k2 pt2} (hc : X.calm = true) (hN : X.N.Nodup) (ha : DA X ca W [a, b] ms) (hi : X.N[i]? = some x := by rfl) (hj : X.N[j]? = some y := by rfl) (hij : i ≠ j := by decide)
    (hx : X.env.scope.names.lookup x = some .local := by rfl) (hy : X.env.scope.names.lookup y = some .local := by rfl)
    (hw : swappedStores [.Tuple [.Name x px, .Name y py] kt pt] (.Tuple [a, b] k2 pt2) X.env = pure (some [x, y]) := by rfl)
    (hs : swapsWithSole [.Tuple [.Name x px, .Name y py] kt pt] (.Tuple [a, b] k2 pt2) pos.line X.env = pure false := by rfl) :
    DS X ca W (.Assign [.Tuple [.Name x px, .Name y py] kt pt] (.Tuple [a, b] k2 pt2) pos) (sPar i j ms) := PS.imp (ps_par hc hN hi hj hij hx hy ha hw hs) fun T σ H ⟨L, env, s, S, e, p⟩ =>
  ⟨L, env, s, S, e, p.ofR.imp fun vs H1 ⟨L1, s1, ds, k1, S1, r1, p1⟩ => by
    split at p1
    · obtain ⟨v, w, rfl, q1, q2⟩ := r1.two
      exact ⟨v, w, rfl, p1 L1 _ H1 Keep.refl S1 (((e.mono k1.mono).set q1).set q2)⟩
    · exact p1.elim⟩

/-! ### what is walked -/
/-- the items ds; where a live cell is walked: it stays -/
def Walks (K : PySem.W.Frag) (ca : Nat → Addr) (L : Lv) (H : Hp) (a : List D × Option Nat) (J : It) : Prop := ∀ (L2 : Lv) (s2 : Store) (H2 : Hp), Mono L H L2 H2 → SR K ca L2 s2 H2 → (∀ l, a.2 = some l → s2[l]? = some (.lst a.1)) → ∀ i : Nat,
  (∀ d, a.1[i]? = some d → J.go i H2 ∧ ∀ x H3, J.yld i H2 x H3 → Keep L2 H2 L2 H3 ∧ SR K ca L2 s2 H3 ∧ RD K L2 H3 d x) ∧ (a.1.length ≤ i → J.stop i H2)
abbrev IM := Env → Store → R (List D × Option Nat)
def tI (K : PySem.W.Frag) (ca : Nat → Addr) (W : WX) (im : IM) : TI := fun σ H Q => ∃ L env s, SR K ca L s H ∧ ER K L H env σ ∧ post K ca (fun L' H' a J => Walks K ca L' H' a J) L H (im env s) (fun J H' => Q J H') (wE ca W σ)
def DI (X : Cx) (ca : Nat → Addr) (W : WX) (tg e : Expr) (im : IM) : Prop := PI X tg e (tI X.K ca W im)
def signs (z : Str) : List D := z.cps.toList.map fun c => .str ⟨#[c]⟩
def iAny (K : PySem.W.Frag) (te : TE) : TI := fun σ H R => te σ H fun x H1 => (∃ a, x = .ref a ∧ (∃ xs, SqL K H1 a xs) ∧ R (Itl K a) H1) ∨ (∃ a, x = .ref a ∧ (∃ xs, SqT K H1 a xs) ∧ R (Itt K a) H1) ∨ ∃ z, x = .str z ∧ R (Its z) H1
theorem pi_any {te : TE} (he : PE X e te) : PI X tg e (iAny X.K te) := by
  refine ⟨fun pins s σ H R I h => ?_⟩
  refine thn (he.run pins s σ H _ I h) fun v s1 ⟨x, H1, I1, r1, q1⟩ => ?_
  rcases q1 with ⟨a, e, ⟨xs, hq⟩, q⟩ | ⟨a, e, ⟨xs, hq⟩, q⟩ | ⟨z, e, q⟩
  · subst e
    cases r1
    obtain ⟨its, rv, p, hz⟩ := I1.list hq
    refine wpAny_pyIter_list p.isList ?_
    refine ⟨s1.heap.objs.size, [s1.heap.objs.size], _, _, H1, rfl, I1.kept (t' := s1.toks) fun b o e => Heap.get?_push_of_some _ e, turn_list a _, ⟨_, Heap.get?_push_size _ rfl, rfl, rfl⟩, fun b hb => ?_, q⟩
    have e : b = s1.heap.objs.size := by simpa using hb
    subst e
    exact I1.fpOk (Nat.le_refl _) (I1.hok.fresh (Nat.le_refl _))
  · subst e
    cases r1
    obtain ⟨its, rv, p, hz⟩ := I1.tuple hq
    refine wpAny_pyIter_tuple (show s1.heap.IsTuple a its.toArray from p) ?_
    refine ⟨s1.heap.objs.size, [s1.heap.objs.size], _, _, H1, rfl, I1.kept (t' := s1.toks) fun b o e => Heap.get?_push_of_some _ e, turn_tuple a _, ⟨_, Heap.get?_push_size _ rfl, rfl, rfl⟩, fun b hb => ?_, q⟩
    have e : b = s1.heap.objs.size := by simpa using hb
    subst e
    exact I1.fpOk (Nat.le_refl _) (I1.hok.fresh (Nat.le_refl _))
  · subst e
    obtain ⟨t, rfl⟩ := r1
    cases ha : z.cps.all (· < 128)
    · exact wpAny_pyIter_wide ha (pi_one (tk := s1.toks) I1 _ (turn_str _ z t "str_iterator" (.inr rfl)) ⟨_, Heap.get?_push_size _ rfl, rfl, rfl⟩ q)
    · exact wpAny_pyIter_ascii ha (pi_one (tk := s1.toks) I1 _ (turn_str _ z t "str_ascii_iterator" (.inl rfl)) ⟨_, Heap.get?_push_size _ rfl, rfl, rfl⟩ q)
section
variable {K : PySem.W.Frag} {L : Lv} {H : Hp} {s : Store}
/-- all readings of one list are one -/
theorem vals_uniq {xs ys : List V} {us : List Value} (r : Vals xs us) (q : Vals ys us) : xs = ys := Vals.inj r q
def ROne (K : PySem.W.Frag) (H : Hp) : Prop := (∀ a xs ys, SqL K H a xs → SqL K H a ys → xs = ys) ∧ ∀ a xs ys, SqT K H a xs → SqT K H a ys → xs = ys
theorem walks_list {a : Addr} {ds : List D} {vs : List V} (f : FzL L H a vs) (rs : RDs K L H ds vs) : Walks K ca L H (ds, none) (Itl K a) := fun L2 s2 H2 k S g i => by
  have f2 := f.mono k
  have rs2 := RDs.mono k _ _ rs
  refine ⟨fun d ed => ?_, fun hl => ⟨vs, f2.sq, by rw [← rs.length]; exact hl⟩⟩
  obtain ⟨v, ev, rv⟩ := rs2.get ed
  refine ⟨⟨vs, v, f2.sq, ev⟩, fun x H3 ⟨e3, y⟩ => ?_⟩
  subst e3
  have := y vs f2.sq
  rw [ev] at this; cases this
  exact ⟨Keep.refl, S, rv⟩
theorem walks_tup {a : Addr} {ds : List D} {vs : List V} (f : FzT K L H a vs) (rs : RDs K L H ds vs) : Walks K ca L H (ds, none) (Itt K a) := fun L2 s2 H2 k S g i => by
  have f2 := f.mono k
  have rs2 := RDs.mono k _ _ rs
  refine ⟨fun d ed => ?_, fun hl => ⟨vs, f2.sq, by rw [← rs.length]; exact hl⟩⟩
  obtain ⟨v, ev, rv⟩ := rs2.get ed
  refine ⟨⟨vs, v, f2.sq, ev⟩, fun x H3 ⟨e3, y⟩ => ?_⟩
  subst e3
  have := y vs f2.sq
  rw [ev] at this; cases this
  exact ⟨Keep.refl, S, rv⟩
theorem walks_str (z : Str) : Walks K ca L H (signs z, none) (Its z) := fun L2 s2 H2 k S g i => by
  unfold signs
  refine ⟨fun d ed => ?_, fun hl => ?_⟩
  · rw [List.getElem?_map, Array.getElem?_toList] at ed
    cases q : z.cps[i]? with
    | none => rw [q] at ed; cases ed
    | some c =>
      rw [q] at ed
      have ed : D.str ⟨#[c]⟩ = d := by simpa using ed
      subst ed
      refine ⟨(Array.getElem?_eq_some_iff.mp q).1, fun x H3 ⟨e3, c', ec, ex⟩ => ?_⟩
      subst e3; subst ex
      rw [q] at ec; cases ec
      exact ⟨Keep.refl, S, rfl⟩
  · show z.cps.size ≤ i
    simpa using hl
theorem walks_live {l : Nat} {a : Addr} {ds : List D} (ea : L.rho[l]? = some a) : Walks K ca L H (ds, some l) (Itl K a) := fun L2 s2 H2 k S g i => by
  have e2 := prefix_get k.rho ea
  obtain ⟨vs, h1, rs⟩ := S.cell l a _ e2 (g l rfl)
  refine ⟨fun d ed => ?_, fun hl => ⟨vs, SqL.of h1, by rw [← rs.length]; exact hl⟩⟩
  obtain ⟨v, ev, rv⟩ := rs.get ed
  refine ⟨⟨vs, v, SqL.of h1, ev⟩, fun x H3 ⟨e3, y⟩ => ?_⟩
  subst e3
  have := y vs (SqL.of h1)
  rw [ev] at this; cases this
  exact ⟨Keep.refl, S, rv⟩
theorem walks_scr {a : Addr} {ns : List Int} (f : FzS K L H a (ns.map V.int)) : Walks K ca L H (ns.map D.int, none) (Itl K a) := fun L2 s2 H2 k S g i => by
  have f2 := f.mono k
  have rs2 : RDs K L2 H2 (ns.map D.int) (ns.map V.int) := rds_ints
  refine ⟨fun d ed => ?_, fun hl => ⟨_, f2.sq, by rw [← rs2.length]; exact hl⟩⟩
  obtain ⟨v, ev, rv⟩ := rs2.get ed
  refine ⟨⟨_, v, f2.sq, ev⟩, fun x H3 ⟨e3, y⟩ => ?_⟩
  subst e3
  have := y _ f2.sq
  rw [ev] at this; cases this
  exact ⟨Keep.refl, S, rv⟩
end
/-- walked: a list, a tuple, a text, a live list (not the script itself) -/
def itV' (m : EM) : IM := fun env s => (m env s).bind fun d s => match d with
  | .tup xs => .ok (xs, none) s
  | .lst xs => .ok (xs, none) s
  | .str z => .ok (signs z, none) s
  | .ref l => match s[l]? with
    | some (.lst xs) => .ok (xs, some l) s
    | _ => .bad
  | .scr ns => .ok (ns.map .int, none) s
  | _ => .bad
theorem di_any (h : DE X ca W e m) : DI X ca W tg e (itV' m) := PI.imp (pi_any h) fun σ H Q ⟨L, env, s, S, e, p⟩ =>
  ⟨L, env, s, S, e, p.bind.imp fun v H1 ⟨L1, s1, d, k1, S1, r1, p1⟩ => by
    split at p1
    · simp only [RD] at r1
      obtain ⟨a, vs, rfl, f, rs⟩ := r1
      exact .inr (.inl ⟨a, rfl, ⟨vs, f.sq⟩, p1 L1 _ H1 Keep.refl S1 (walks_tup f rs)⟩)
    · simp only [RD] at r1
      obtain ⟨a, vs, rfl, f, rs⟩ := r1
      exact .inl ⟨a, rfl, ⟨vs, f.sq⟩, p1 L1 _ H1 Keep.refl S1 (walks_list f rs)⟩
    · simp only [RD] at r1
      subst r1
      exact .inr (.inr ⟨_, rfl, p1 L1 _ H1 Keep.refl S1 (walks_str _)⟩)
    · simp only [RD] at r1
      obtain ⟨a, rfl, ea⟩ := r1
      split at p1
      · rename_i es
        obtain ⟨vs, h1, rs⟩ := S1.cell _ a _ ea es
        exact .inl ⟨a, rfl, ⟨vs, SqL.of h1⟩, p1 L1 _ H1 Keep.refl S1 (walks_live ea)⟩
      · exact p1.elim
    · simp only [RD] at r1
      obtain ⟨a, rfl, f⟩ := r1
      exact .inl ⟨a, rfl, ⟨_, f.sq⟩, p1 L1 _ H1 Keep.refl S1 (walks_scr f)⟩
    · exact p1.elim⟩
/-- range(j), range(i, j) -/
def rangeL (i j : Int) : List D := (List.range (j - i).toNat).map fun k => .int (i + (k : Nat))
def P62 : Int := 4611686018427387904
noncomputable def itR1 (ms : AM) : IM := fun env s => (ms env s).bind fun ds s => match ds with
  | [.int j] => @ite (R _) (-P62 ≤ j ∧ j < P62) (Classical.propDecidable _) (.ok (rangeL 0 j, none) s) .bad
  | _ => .bad
noncomputable def itR2 (ms : AM) : IM := fun env s => (ms env s).bind fun ds s => match ds with
  | [.int i, .int j] => @ite (R _) (-P62 ≤ i ∧ i < P62 ∧ -P62 ≤ j ∧ j < P62) (Classical.propDecidable _) (.ok (rangeL i j, none) s) .bad
  | _ => .bad
theorem walks_range {K : PySem.W.Frag} {L : Lv} {H : Hp} (i j : Int) : Walks K ca L H (rangeL i j, none) (Itr i (j - i).toNat) := fun L2 s2 H2 k S g n => by
  unfold rangeL
  refine ⟨fun d ed => ?_, fun hl => by simp only [List.length_map, List.length_range] at hl; exact hl⟩
  rw [List.getElem?_map] at ed
  by_cases hn : n < (j - i).toNat
  · rw [List.getElem?_range hn] at ed
    have ed : D.int (i + (n : Nat)) = d := by simpa using ed
    subst ed
    exact ⟨hn, fun x H3 ⟨e3, ex⟩ => by subst e3; subst ex; exact ⟨Keep.refl, S, rfl⟩⟩
  · rw [List.getElem?_eq_none (by simpa using hn)] at ed; cases ed
theorem di_range1 (hm : X.mg "range" = none) (ha : DA X ca W [a] ms) (hg : Gl X "range" := by rfl) (hs : starEach [a] X.env = [(false, eval a X.env)] := by rfl) : DI X ca W tg (.Call (.Name "range" p) [a] [] pos) (itR1 ms) :=
  PI.imp (pi_range1 hg hm ha hs) fun σ H Q ⟨L, env, s, S, e, p⟩ => ⟨L, env, s, S, e, p.bind.imp fun vs H1 ⟨L1, s1, ds, k1, S1, r1, p1⟩ => by
    split at p1
    · split at p1
      · rename_i j hj
        obtain ⟨v, rfl, r⟩ := r1.one
        simp only [RD] at r
        subst r
        have hw : Walks X.K ca L1 H1 (rangeL 0 j, none) (Itr 0 (j - 0).toNat) := walks_range 0 j
        rw [Int.sub_zero] at hw
        exact ⟨_, rfl, hj.1, hj.2, p1 L1 _ H1 Keep.refl S1 hw⟩
      · exact p1.elim
    · exact p1.elim⟩
theorem di_range2 (hm : X.mg "range" = none) (ha : DA X ca W [a, b] ms) (hg : Gl X "range" := by rfl) (hs : starEach [a, b] X.env = [(false, eval a X.env), (false, eval b X.env)] := by rfl) (hs2 : starEach [b] X.env = [(false, eval b X.env)] := by rfl) :
    DI X ca W tg (.Call (.Name "range" p) [a, b] [] pos) (itR2 ms) :=
  PI.imp (pi_range2 hg hm ha hs hs2) fun σ H Q ⟨L, env, s, S, e, p⟩ => ⟨L, env, s, S, e, p.bind.imp fun vs H1 ⟨L1, s1, ds, k1, S1, r1, p1⟩ => by
    split at p1
    · split at p1
      · rename_i hj
        obtain ⟨v, w, rfl, r, r2⟩ := r1.two
        simp only [RD] at r r2
        subst r; subst r2
        exact ⟨_, _, rfl, hj, p1 L1 _ H1 Keep.refl S1 (walks_range _ _)⟩
      · exact p1.elim
    · exact p1.elim⟩

/-! ### for -/
def okG (a : List D × Option Nat) (s : Store) : Prop := ∀ l, a.2 = some l → s[l]? = some (.lst a.1)
@[simp] theorem okG_none (ds : List D) (s : Store) : okG (ds, none) s ↔ True := ⟨fun _ => trivial, fun _ l h => nomatch h⟩
@[simp] theorem okG_some (ds : List D) (l : Nat) (s : Store) : okG (ds, some l) s ↔ s[l]? = some (.lst ds) := ⟨fun h => h l rfl, fun h l' e => by cases e; exact h⟩
def loopB (r : RS) (k : SM) : RS := match r with
  | .next e s => k e s
  | .cnt e s => k e s
  | .brk e s => .next e s
  | .ret d s => .ret d s
  | .exc c s => .exc c s
  | .bad => .bad
@[simp] theorem loopB_next (e : Env) (s : Store) (k : SM) : loopB (.next e s) k = k e s := rfl
@[simp] theorem loopB_cnt (e : Env) (s : Store) (k : SM) : loopB (.cnt e s) k = k e s := rfl
@[simp] theorem loopB_brk (e : Env) (s : Store) (k : SM) : loopB (.brk e s) k = .next e s := rfl
@[simp] theorem loopB_ret (e : D) (s : Store) (k : SM) : loopB (.ret e s) k = .ret e s := rfl
@[simp] theorem loopB_exc (e : Nat) (s : Store) (k : SM) : loopB (.exc e s) k = .exc e s := rfl
@[simp] theorem loopB_bad (k : SM) : loopB .bad k = .bad := rfl
open Classical in
noncomputable def forD (g : GM) (body : SM) (a : List D × Option Nat) : List D → SM
  | [] => fun env s => if okG a s then .next env s else .bad
  | d :: r => fun env s => if okG a s then (g d env s).bindS fun env s => loopB (body env s) (forD g body a r) else .bad
noncomputable def sFor (im : IM) (g : GM) (body : SM) : SM := fun env s => (im env s).bindS fun a s => forD g body a a.1 env s
theorem postS.loop {K : PySem.W.Frag} {L : Lv} {H : Hp} {r : RS} {k : SM} {T : Ends} {E E2 : Nat → Hp → Prop} {N : St → Hp → Prop} (p : postS K ca L H (loopB r k) T E) (hE : ∀ c H', E c H' → E2 c H')
    (hN : ∀ L' σ' H' env s, Keep L H L' H' → SR K ca L' s H' → ER K L' H' env σ' → postS K ca L' H' (k env s) T E → N σ' H') : postS K ca L H r { T with nx := N, ct := N, bk := T.nx } E2 := by
  cases r with
  | next e s => exact fun L' σ' H' kk S' e' => hN _ _ _ _ _ kk S' e' (postS.from (r := k e s) p kk)
  | cnt e s => exact fun L' σ' H' kk S' e' => hN _ _ _ _ _ kk S' e' (postS.from (r := k e s) p kk)
  | brk e s => exact p
  | ret d s => exact p
  | exc c s => exact fun L' H' kk S' => hE _ _ (p L' H' kk S')
  | bad => exact p
theorem ds_for {im : IM} {gm : GM} (hW : Wid W) (hp : PassesOwn (model X.prog X.w) X.A X.env X.xe) (hc : X.calm = true) (hi : DI X ca W tg iter im) (hg : DG X ca W tg gm) (hb : DSs X ca W body sm)
    (hs : ∀ x, foldedSetIterable iter X.env x = pure x := by intro _; rfl) : DS X ca W (.For tg iter body [] pos) (sFor im gm sm) := PS.imp (ps_for hp hc hi hg hb hs) fun T σ H ⟨L, env, s, S, e, p⟩ =>
  ⟨L, env, s, S, e, p.ofR.imp fun J H1 ⟨L1, s1, a, k1, S1, w1, p1⟩ => by
    refine ⟨fun i m σ2 H2 => ∃ L2 env2 s2, m = a.1.length - i ∧ i ≤ a.1.length ∧ Keep L1 H1 L2 H2 ∧ SR X.K ca L2 s2 H2 ∧ ER X.K L2 H2 env2 σ2 ∧ postS X.K ca L2 H2 (forD gm sm a (a.1.drop i) env2 s2) T (wE ca W σ2),
      ⟨a.1.length, L1, env, s1, by simp, Nat.zero_le _, Keep.refl, S1, e.mono k1.mono, p1⟩, ?_⟩
    rintro i m σ2 H2 ⟨L2, env2, s2, rfl, hi, k2, S2, e2, p2⟩
    by_cases hlt : i < a.1.length
    · have hd : a.1.drop i = a.1[i] :: a.1.drop (i + 1) := List.drop_eq_getElem_cons hlt
      rw [hd] at p2
      unfold forD at p2
      split at p2
      · rename_i hG
        obtain ⟨go, yl⟩ := (w1 L2 s2 H2 k2.mono S2 hG i).1 a.1[i] (List.getElem?_eq_getElem hlt)
        refine .inr ⟨go, fun σ3 H3 => ∃ L3 env3 s3, Keep L1 H1 L3 H3 ∧ SR X.K ca L3 s3 H3 ∧ ER X.K L3 H3 env3 σ3 ∧ postS X.K ca L3 H3 (forD gm sm a (a.1.drop (i + 1)) env3 s3) T (wE ca W σ3), ?_, fun x H' hy => ?_⟩
        · rintro σ3 H3 ⟨L3, env3, s3, k3, S3, e3, p3⟩
          exact ⟨a.1.length - (i + 1), by omega, L3, env3, s3, rfl, hlt, k3, S3, e3, p3⟩
        · obtain ⟨k', S', r'⟩ := yl x H' hy
          refine ⟨L2, env2, s2, a.1[i], S', e2.mono k'.mono, r', (p2.from k').ofR.imp fun σ4 H4 ⟨L4, s4, env4, k4, S4, e4, p4⟩ => ⟨L4, env4, s4, S4, e4, ?_⟩⟩
          exact p4.loop (fun c H' h => hW _ _ _ _ _ h) fun L5 σ5 H5 env5 s5 k5 S5 e5 p5 => ⟨L5, env5, s5, ((k2.trans k').trans k4).trans k5, S5, e5, p5.impE fun c H' h => hW _ _ _ _ _ h⟩
      · exact p2.elim
    · have hi' : i = a.1.length := by omega
      subst hi'
      rw [List.drop_length] at p2
      unfold forD at p2
      split at p2
      · rename_i hG
        exact .inl ⟨(w1 L2 s2 H2 k2.mono S2 hG _).2 (Nat.le_refl _), p2 L2 σ2 H2 Keep.refl S2 e2⟩
      · exact p2.elim⟩

/-! ### while -/
def whileN (c : TM) (b : SM) : Nat → SM
  | 0 => fun _ _ => .bad
  | n + 1 => fun env s => (c env s).bindS fun v s => if v = true then loopB (b env s) (whileN c b n) else .next env s
open Classical in
noncomputable def sWhile (c : TM) (b : SM) : SM := fun env s => if h : ∃ n, whileN c b n env s ≠ .bad then whileN c b h.choose env s else .bad
theorem while_up (c : TM) (b : SM) : ∀ (n : Nat) (env : Env) (s : Store), whileN c b n env s ≠ .bad → whileN c b (n + 1) env s = whileN c b n env s := by
  intro n
  induction n with
  | zero => intro env s h; exact absurd rfl h
  | succ n ih =>
    intro env s h
    have h1 : whileN c b (n + 1) env s = (c env s).bindS fun v s => if v = true then loopB (b env s) (whileN c b n) else .next env s := rfl
    have h2 : whileN c b (n + 1 + 1) env s = (c env s).bindS fun v s => if v = true then loopB (b env s) (whileN c b (n + 1)) else .next env s := rfl
    rw [h1] at h
    rw [h2, h1]
    cases q : c env s with
    | ok v s1 =>
      rw [q] at h
      simp only [R.bindS_ok] at h ⊢
      cases v with
      | false => rfl
      | true =>
        simp only [if_true] at h ⊢
        cases q2 : b env s1 with
        | next e2 s2 => rw [q2] at h; exact ih e2 s2 h
        | cnt e2 s2 => rw [q2] at h; exact ih e2 s2 h
        | _ => rfl
    | exc c s => rfl
    | bad => rfl
theorem while_le (c : TM) (b : SM) {n m : Nat} (hm : n ≤ m) {env : Env} {s : Store} (h : whileN c b n env s ≠ .bad) : whileN c b m env s = whileN c b n env s := by
  induction m with
  | zero => have : n = 0 := by omega
            subst this; rfl
  | succ m ih =>
    by_cases e : n = m + 1
    · subst e; rfl
    · have := ih (by omega)
      rw [← this] at h ⊢
      exact while_up c b m env s h
theorem sWhile_of {c : TM} {b : SM} {n : Nat} {env : Env} {s : Store} (h : whileN c b n env s ≠ .bad) : sWhile c b env s = whileN c b n env s := by
  unfold sWhile
  have hx : ∃ n, whileN c b n env s ≠ .bad := ⟨n, h⟩
  rw [dif_pos hx]
  have h2 := hx.choose_spec
  rcases Nat.le_total n hx.choose with q | q
  · exact while_le c b q h
  · exact (while_le c b q h2).symm
theorem sWhile_bad {c : TM} {b : SM} {env : Env} {s : Store} (h : ∀ n, whileN c b n env s = .bad) : sWhile c b env s = .bad := by
  unfold sWhile
  rw [dif_neg (fun ⟨n, q⟩ => q (h n))]
theorem sWhile_eq (c : TM) (b : SM) (env : Env) (s : Store) : sWhile c b env s = (c env s).bindS fun v s => if v = true then loopB (b env s) (sWhile c b) else .next env s := by
  by_cases h : ∃ n, whileN c b n env s ≠ .bad
  · obtain ⟨n, h⟩ := h
    rw [sWhile_of h]
    cases n with
    | zero => exact absurd rfl h
    | succ n =>
      have h1 : whileN c b (n + 1) env s = (c env s).bindS fun v s => if v = true then loopB (b env s) (whileN c b n) else .next env s := rfl
      rw [h1] at h ⊢
      cases q : c env s with
      | ok v s1 =>
        rw [q] at h
        simp only [R.bindS_ok] at h ⊢
        cases v with
        | false => rfl
        | true =>
          simp only [if_true] at h ⊢
          cases q2 : b env s1 with
          | next e2 s2 => rw [q2] at h; exact (sWhile_of h).symm
          | cnt e2 s2 => rw [q2] at h; exact (sWhile_of h).symm
          | _ => rfl
      | exc c s => rfl
      | bad => rfl
  · have h' : ∀ n, whileN c b n env s = .bad := fun n => by
      cases q : whileN c b n env s with
      | bad => rfl
      | _ => exact absurd ⟨n, by rw [q]; intro z; cases z⟩ h
    rw [sWhile_bad h']
    cases q : c env s with
    | ok v s1 =>
      simp only [R.bindS_ok]
      cases v with
      | false =>
        have := h' 1
        unfold whileN at this
        rw [q] at this
        simp at this
      | true =>
        simp only [if_true]
        have hh : ∀ n, loopB (b env s1) (whileN c b n) = .bad := fun n => by
          have := h' (n + 1)
          have h1 : whileN c b (n + 1) env s = (c env s).bindS fun v s => if v = true then loopB (b env s) (whileN c b n) else .next env s := rfl
          rw [h1, q] at this
          simpa using this
        cases q2 : b env s1 with
        | next e2 s2 => exact (sWhile_bad fun n => by have := hh n; rw [q2] at this; exact this).symm
        | cnt e2 s2 => exact (sWhile_bad fun n => by have := hh n; rw [q2] at this; exact this).symm
        | brk e2 s2 => have := hh 0; rw [q2] at this; cases this
        | ret d s2 => have := hh 0; rw [q2] at this; cases this
        | exc c s2 => have := hh 0; rw [q2] at this; cases this
        | bad => rfl
    | exc c' s1 =>
      have := h' 1
      unfold whileN at this
      rw [q] at this
      cases this
    | bad => rfl
theorem ds_while (hW : Wid W) (hp : PassesOwn (model X.prog X.w) X.A X.env X.xe) (hc : DT X ca W c tc) (hb : DSs X ca W body sm) : DS X ca W (.While c body [] pos) (sWhile tc sm) := PS.imp (ps_while hp hc hb) fun T σ H ⟨L, env, s, S, e, p⟩ => by
  have hx : ∃ n, whileN tc sm n env s ≠ .bad := Classical.byContradiction fun hn => by
    unfold sWhile at p
    rw [dif_neg hn] at p
    exact p
  obtain ⟨n, hn⟩ := hx
  rw [sWhile_of hn] at p
  refine ⟨fun m σ2 H2 => ∃ L2 env2 s2, SR X.K ca L2 s2 H2 ∧ ER X.K L2 H2 env2 σ2 ∧ postS X.K ca L2 H2 (whileN tc sm m env2 s2) T (wE ca W σ2), ⟨n, L, env, s, S, e, p⟩, ?_⟩
  rintro m σ2 H2 ⟨L2, env2, s2, S2, e2, p2⟩
  cases m with
  | zero => exact p2.elim
  | succ m =>
    have p2 : postS X.K ca L2 H2 ((tc env2 s2).bindS fun v s => if v = true then loopB (sm env2 s) (whileN tc sm m) else .next env2 s) T (wE ca W σ2) := p2
    refine ⟨L2, env2, s2, S2, e2, p2.ofR.imp fun b H3 ⟨L3, s3, b', k3, S3, r3, p3⟩ => ?_⟩
    subst r3
    cases b' with
    | true =>
      refine iteT ⟨fun σ4 H4 => ∃ L4 env4 s4, SR X.K ca L4 s4 H4 ∧ ER X.K L4 H4 env4 σ4 ∧ postS X.K ca L4 H4 (whileN tc sm m env4 s4) T (wE ca W σ4), fun σ4 H4 h4 => ⟨m, Nat.lt_succ_self _, h4⟩, L3, env2, s3, S3, e2.mono k3.mono, ?_⟩
      rw [if_pos rfl] at p3
      exact p3.loop (fun c H' h => hW _ _ _ _ _ h) fun L5 σ5 H5 env5 s5 k5 S5 e5 p5 => ⟨L5, env5, s5, S5, e5, p5.impE fun c H' h => hW _ _ _ _ _ h⟩
    | false =>
      rw [if_neg Bool.false_ne_true] at p3
      exact iteF (p3 L3 σ2 H3 Keep.refl S3 (e2.mono k3.mono))
end
end DE
/-! DE7: comprehensions -/
namespace DE
open PySem PySem.Spec PyProof.Rows L2

inductive Tgt where
  | one (i : Nat) | two (i j : Nat)
def setT : Tgt → D → Env → Option Env
  | .one i, d, env => some (env.set i (some d))
  | .two i j, d, env => match d with
    | .tup [x, y] => some ((env.set i (some x)).set j (some y))
    | _ => none
def gT (K : PySem.W.Frag) : Tgt → TG
  | .one i => gName i
  | .two i j => gTup K 2 (gCons (gName i) (gCons (gName j) gNil))
def inT (vs : List Nat) : Tgt → Prop
  | .one i => i ∈ vs
  | .two i j => i ∈ vs ∧ j ∈ vs
def wipeE (env : Env) : List Nat → Env
  | [] => env
  | v :: vs => (wipeE env vs).set v none
abbrev W0 : WX := fun _ _ _ _ => False
def tYesM : TM := fun _ s => .ok true s
open Classical in
noncomputable def lcD (t : Tgt) (tt : TM) (elt : EM) (a : List D × Option Nat) (env : Env) : List D → Store → R (List D)
  | [], s => if okG a s then .ok [] s else .bad
  | d :: r, s => if okG a s then match setT t d env with
      | none => .bad
      | some env1 => (tt env1 s).bind fun b s => if b = true then (elt env1 s).bind fun y s => (lcD t tt elt a env r s).bind fun ys s => .ok (y :: ys) s else lcD t tt elt a env r s
    else .bad
def finL : R (List D) → R D
  | .ok zs s => if zs.length ≤ LINE then .ok (.lst zs) s else .bad
  | _ => .bad
def finN : R (List D) → R D
  | .ok zs s => if zs.length ≤ LINE then .ok (.ref s.length) (s ++ [.lst zs]) else .bad
  | _ => .bad
noncomputable def eLc (im : IM) (t : Tgt) (vs : List Nat) (tt : TM) (elt : EM) : EM := fun env s => (im env s).bind fun a s => finL (lcD t tt elt a (wipeE env vs) a.1 s)
noncomputable def eLcN (im : IM) (t : Tgt) (vs : List Nat) (tt : TM) (elt : EM) : EM := fun env s => (im env s).bind fun a s => finN (lcD t tt elt a (wipeE env vs) a.1 s)
theorem wipe_set {σ : St} {i : Nat} {x : Option V} : ∀ {vs : List Nat}, i ∈ vs → wipe (σ.set i x) vs = wipe σ vs
  | v :: vs, h => by
    show (wipe (σ.set i x) vs).set v none = (wipe σ vs).set v none
    by_cases hm : i ∈ vs
    · rw [wipe_set hm]
    · have hv : i = v := by simpa [hm] using h
      subst hv
      have q : ∀ (ws : List Nat), i ∉ ws → wipe (σ.set i x) ws = (wipe σ ws).set i x := by
        intro ws
        induction ws with
        | nil => intro _; rfl
        | cons w ws ih =>
          intro hn
          simp only [List.mem_cons, not_or] at hn
          show (wipe (σ.set i x) ws).set w none = ((wipe σ ws).set w none).set i x
          rw [ih hn.2, List.set_comm _ _ hn.1]
      rw [q vs hm, List.set_set]
theorem wipe_wipe (σ : St) : ∀ vs : List Nat, wipe (wipe σ vs) vs = wipe σ vs := by
  have q : ∀ (ws : List Nat) (τ : St), (∀ w ∈ ws, τ[w]? = some none ∨ τ[w]? = none) → wipe τ ws = τ := by
    intro ws
    induction ws with
    | nil => intro _ _; rfl
    | cons w ws ih =>
      intro τ h
      show (wipe τ ws).set w none = τ
      rw [ih τ fun v hv => h v (List.mem_cons_of_mem _ hv)]
      rcases h w List.mem_cons_self with h | h
      · obtain ⟨hl, e⟩ := List.getElem?_eq_some_iff.mp h
        conv => rhs; rw [← List.set_getElem_self hl]
        rw [e]
      · exact List.set_eq_of_length_le (List.getElem?_eq_none_iff.mp h)
  intro vs
  refine q vs _ fun w hw => ?_
  cases e : (wipe σ vs)[w]? with
  | none => exact .inr rfl
  | some o =>
    cases o with
    | none => exact .inl rfl
    | some x => exact absurd hw (wipe_some e).2
section
variable {K : PySem.W.Frag} {ca : Nat → Addr} {L : Lv} {H : Hp} {s : Store} {env : Env} {σ : St}
theorem ER.wipe (e : ER K L H env σ) : ∀ vs : List Nat, ER K L H (wipeE env vs) (L2.wipe σ vs)
  | [] => e
  | v :: vs => by
    have ih := ER.wipe e vs
    refine ⟨by simp [wipeE, L2.wipe, ih.1], fun i d h => ?_⟩
    unfold wipeE at h
    by_cases hv : v = i
    · subst hv
      by_cases hl : v < (wipeE env vs).length
      · rw [List.getElem?_set_self hl] at h; cases h
      · rw [List.getElem?_eq_none (by simpa using hl)] at h; cases h
    · rw [List.getElem?_set_ne hv] at h
      obtain ⟨x, h1, h2⟩ := ih.2 i d h
      exact ⟨x, by unfold L2.wipe; rw [List.getElem?_set_ne hv]; exact h1, h2⟩
theorem gT_ok {t : Tgt} {vs : List Nat} {d : D} {x : V} {env1 : Env} {Q : St → Hp → Prop} (hv : inT vs t) (e : ER K L H env σ) (r : RD K L H d x) (he : setT t d env = some env1) (q : ∀ σ2, ER K L H env1 σ2 → L2.wipe σ2 vs = L2.wipe σ vs → Q σ2 H) : gT K t x σ H Q := by
  cases t with
  | one i =>
    cases he
    exact q _ (e.set r) (wipe_set hv)
  | two i j =>
    unfold setT at he
    simp only at he
    split at he
    · rename_i x1 x2
      cases he
      simp only [RD] at r
      obtain ⟨a, vs', rfl, f, rs⟩ := r
      obtain ⟨v, w, rfl, q1, q2⟩ := rs.two
      exact ⟨a, _, rfl, f.sq, rfl, v, _, rfl, w, _, rfl, rfl, q _ ((e.set q1).set q2) (by rw [wipe_set hv.2, wipe_set hv.1])⟩
    · cases he
theorem mo_open {rho pi : List Addr} {p : Addr} : Mono (⟨rho, p :: pi⟩ : Lv) H ⟨rho, pi⟩ H := ⟨List.prefix_refl _, fun b' o eb h1 h2 => ⟨eb, h1, fun z => h2 (List.mem_cons_of_mem _ z)⟩⟩
theorem SR.open {rho pi : List Addr} {p : Addr} (S : SR K ca ⟨rho, p :: pi⟩ s H) : SR K ca ⟨rho, pi⟩ s H := ⟨S.len, S.nd, fun l b c e1 e2 => (S.cell l b c e1 e2).mono mo_open rfl, fun b hb => S.pi b (List.mem_cons_of_mem _ hb)⟩
theorem mo_adopt {rho pi : List Addr} {p : Addr} : Mono (⟨rho, p :: pi⟩ : Lv) H ⟨rho ++ [p], pi⟩ H := ⟨List.prefix_append _ _, fun b' o eb h1 h2 => ⟨eb, fun z => by
  rcases List.mem_append.mp z with z | z
  · exact h1 z
  · exact h2 (by simp at z; subst z; exact List.mem_cons_self), fun z => h2 (List.mem_cons_of_mem _ z)⟩⟩
/-- what was shut away becomes a live cell -/
theorem SR.adopt {rho pi : List Addr} {p : Addr} (S : SR K ca ⟨rho, p :: pi⟩ s H) (hp : p ∉ pi) {c : Cell} (hc : CellOk K ca ⟨rho ++ [p], pi⟩ H p c) : SR K ca ⟨rho ++ [p], pi⟩ (s ++ [c]) H := by
  have hr := (S.pi p List.mem_cons_self).1
  refine ⟨by have := S.len; simp at this ⊢; exact this, ?_, fun l a c' e1 e2 => ?_, fun b hb => ?_⟩
  · show (rho ++ [p]).Nodup
    rw [List.nodup_append]
    exact ⟨S.nd, by simp, fun a ha b hb => by simp at hb; subst hb; rintro rfl; exact hr ha⟩
  · have hlen : rho.length = s.length := S.len
    by_cases hl : l < rho.length
    · have e1' : rho[l]? = some a := by rw [← e1]; exact (List.getElem?_append_left hl).symm
      have e2' : s[l]? = some c' := by rw [← e2]; exact (List.getElem?_append_left (by rw [← hlen]; exact hl)).symm
      exact (S.cell l a c' e1' e2').mono mo_adopt rfl
    · have hl2 : l = rho.length := by
        have := (List.getElem?_eq_some_iff.mp e1).1
        simp at this; omega
      subst hl2
      have e1' : p = a := by simpa using e1
      have e2' : c = c' := by rw [hlen] at e2; simpa using e2
      subst e1'; subst e2'
      exact hc
  · obtain ⟨h1, h2⟩ := S.pi b (List.mem_cons_of_mem _ hb)
    refine ⟨fun hm => ?_, h2⟩
    rcases List.mem_append.mp hm with hm | hm
    · exact h1 hm
    · simp at hm; subst hm; exact hp hb
/-- what is shut away is written -/
theorem SR.poke (S : SR K ca L s H) {p : Addr} (hp : p ∈ L.pi) (o : HO) : SR K ca L s (upd H p o) ∧ Mono L H L (upd H p o) := by
  have k : Mono L H L (upd H p o) := ⟨List.prefix_refl _, fun b u e h1 h2 => ⟨by rw [upd_ne (show b ≠ p from fun z => h2 (by rw [z]; exact hp))]; exact e, h1, h2⟩⟩
  refine ⟨⟨S.len, S.nd, fun l a c e1 e2 => ?_, fun b hb => ?_⟩, k⟩
  · refine (S.cell l a c e1 e2).mono k ?_
    rw [upd_ne (show a ≠ p from fun z => (S.pi p hp).1 (by rw [← z]; exact List.mem_of_getElem? e1))]
  · obtain ⟨h1, u, hu⟩ := S.pi b hb
    by_cases hb' : b = p
    · subst hb'; exact ⟨h1, o, upd_same⟩
    · exact ⟨h1, u, by rw [upd_ne hb']; exact hu⟩
end
section
variable {X : Cx} {ca : Nat → Addr} {W : WX} {tg iter elt : Expr} {ifs : List Expr} {pos spos py : Pos}
/-- the reading of a comprehension, of any end -/
theorem lc_of {t : Tgt} {vs : List Nat} {tt : TM} {em : EM} {im : IM} (hv : inT vs t) {L : Lv} {env : Env} {s : Store} {σ : St} {H : Hp} {Q : VK} (S : SR X.K ca L s H) (e : ER X.K L H env σ)
    (p : post X.K ca (fun L' H' a J => Walks X.K ca L' H' a J) L H (im env s) (fun J H1 => ∃ L1 s1 a, Keep L H L1 H1 ∧ SR X.K ca L1 s1 H1 ∧ Walks X.K ca L1 H1 a J ∧
      ∃ zs s2, lcD t tt em a (wipeE env vs) a.1 s1 = .ok zs s2 ∧ zs.length ≤ LINE ∧ ∀ Dd, H1 Dd = none → ∀ rho2 H2 vs2, Keep L1 H1 ⟨rho2, L1.pi⟩ H2 → SR X.K ca ⟨rho2, Dd :: L1.pi⟩ s2 H2 → RDs X.K ⟨rho2, Dd :: L1.pi⟩ H2 zs vs2 → H2 Dd = some (.lst vs2) → Dd ∉ rho2 → Dd ∉ L1.pi → Q (.ref Dd) H2) (wE ca W σ)) :
    tLc (tI X.K ca W im) (gT X.K t) (tT X.K ca W0 tt) (tE X.K ca W0 em) vs σ H Q := by
  refine ⟨L, env, s, S, e, p.imp fun J H1 ⟨L1, s1, a, k1, S1, w1, zs, sE, ez, hz, q⟩ => fun Dd hD => ?_⟩
  have fD := S1.fresh hD
  -- the invariant
  refine ⟨fun i m H2 => ∃ rho2 s2 acc accV ys, m = a.1.length - i ∧ i ≤ a.1.length ∧ H2 Dd = some (.lst accV) ∧ Dd ∉ rho2 ∧ RDs X.K ⟨rho2, Dd :: L1.pi⟩ H2 acc accV ∧ SR X.K ca ⟨rho2, Dd :: L1.pi⟩ s2 H2 ∧ L1.rho <+: rho2 ∧
      (∀ b o, H1 b = some o → b ∉ L1.rho → H2 b = some o ∧ b ∉ rho2) ∧ lcD t tt em a (wipeE env vs) (a.1.drop i) s2 = .ok ys sE ∧ zs = acc ++ ys, ⟨a.1.length, L1.rho, s1, [], [], zs, by simp, Nat.zero_le _, upd_same, fD.1, .nil, ?_, List.prefix_refl _, fun b o eb hb => ⟨by rw [upd_ne (ne_of_none eb hD)]; exact eb, hb⟩, ez, rfl⟩, ?_⟩
  · obtain ⟨kk, SS⟩ := S1.new hD (.lst [])
    exact ⟨SS.len, SS.nd, fun l b c e1 e2 => (S1.cell l b c e1 e2).mono (L2 := ⟨L1.rho, Dd :: L1.pi⟩) ⟨List.prefix_refl _, fun b' o eb h1 h2 => ⟨by rw [upd_ne (ne_of_none eb hD)]; exact eb, h1, by
        simp only [List.mem_cons, not_or]; exact ⟨ne_of_none eb hD, h2⟩⟩⟩ (by
        obtain ⟨u, hu⟩ := (S1.cell l b c e1 e2).some
        rw [upd_ne (ne_of_none hu hD)]), fun b hb => by
        rcases List.mem_cons.mp hb with rfl | hb
        · exact ⟨fD.1, _, upd_same⟩
        · exact SS.pi b hb⟩
  rintro i m H2 ⟨rho2, s2, acc, accV, ys, rfl, hi, hDd, hDr, rA, S2, kr, kp, el, eq⟩
  have mono12 : Mono L1 H1 ⟨rho2, Dd :: L1.pi⟩ H2 := ⟨kr, fun b o eb h1 h2 => ⟨(kp b o eb h1).1, (kp b o eb h1).2, by simp only [List.mem_cons, not_or]; exact ⟨ne_of_none eb hD, h2⟩⟩⟩
  have pD : Dd ∈ (⟨rho2, Dd :: L1.pi⟩ : Lv).pi := List.mem_cons_self
  by_cases hlt : i < a.1.length
  · have hd : a.1.drop i = a.1[i] :: a.1.drop (i + 1) := List.drop_eq_getElem_cons hlt
    rw [hd] at el
    unfold lcD at el
    split at el
    case isFalse => cases el
    rename_i hG
    cases et : setT t a.1[i] (wipeE env vs) with
    | none => rw [et] at el; cases el
    | some env1 =>
      rw [et] at el
      simp only at el
      obtain ⟨go, yl⟩ := (w1 _ s2 H2 mono12 S2 hG i).1 a.1[i] (List.getElem?_eq_getElem hlt)
      refine .inr ⟨go, fun H3 => ∃ rho3 s3 acc3 accV3 ys3, H3 Dd = some (.lst accV3) ∧ Dd ∉ rho3 ∧ RDs X.K ⟨rho3, Dd :: L1.pi⟩ H3 acc3 accV3 ∧ SR X.K ca ⟨rho3, Dd :: L1.pi⟩ s3 H3 ∧ L1.rho <+: rho3 ∧
        (∀ b o, H1 b = some o → b ∉ L1.rho → H3 b = some o ∧ b ∉ rho3) ∧ lcD t tt em a (wipeE env vs) (a.1.drop (i + 1)) s3 = .ok ys3 sE ∧ zs = acc3 ++ ys3, ?_, fun x H' hy => ?_⟩
      · rintro H3 ⟨rho3, s3, acc3, accV3, ys3, h1, h2, h3, h4, h5, h6, h7, h8⟩
        exact ⟨a.1.length - (i + 1), by omega, rho3, s3, acc3, accV3, ys3, rfl, hlt, h1, h2, h3, h4, h5, h6, h7, h8⟩
      obtain ⟨k', S', r'⟩ := yl x H' hy
      have eW : ER X.K ⟨rho2, Dd :: L1.pi⟩ H' (wipeE env vs) (L2.wipe σ vs) := (((e.mono k1.mono).wipe vs).mono mono12).mono k'.mono
      refine gT_ok hv eW r' et fun σ2 e2 hw => ⟨by rw [hw, wipe_wipe], ?_⟩
      -- the test
      cases eb : tt env1 s2 with
      | exc c s => rw [eb] at el; cases el
      | bad => rw [eb] at el; cases el
      | ok b s3 =>
        rw [eb] at el
        simp only [R.bind_ok] at el
        refine ⟨_, env1, s2, S', e2, ?_⟩
        rw [eb]
        intro L3 b' H3 k3 S3 hb
        have hb : b = b' := hb
        subst hb
        have kD : Keep ⟨rho2, Dd :: L1.pi⟩ H2 L3 H3 := k'.trans k3
        have D3 := kD.keep Dd _ hDd hDr
        have pi3 : L3.pi = Dd :: L1.pi := kD.pi
        obtain ⟨rho3, pi3'⟩ := L3
        cases pi3
        have old3 : ∀ b o, H1 b = some o → b ∉ L1.rho → H3 b = some o ∧ b ∉ rho3 := fun b o eb hb => kD.keep b o (kp b o eb hb).1 (kp b o eb hb).2
        cases b with
        | false =>
          rw [if_neg Bool.false_ne_true] at el
          exact iteF ⟨rho3, s3, acc, accV, ys, D3.1, D3.2, RDs.mono kD.mono _ _ rA, S3, kr.trans kD.rho, old3, el, eq⟩
        | true =>
          rw [if_pos rfl] at el
          refine iteT ?_
          cases ey : em env1 s3 with
          | exc c s => rw [ey] at el; cases el
          | bad => rw [ey] at el; cases el
          | ok y s4 =>
            rw [ey] at el
            simp only [R.bind_ok] at el
            cases er : lcD t tt em a (wipeE env vs) (a.1.drop (i + 1)) s4 with
            | exc c s => rw [er] at el; cases el
            | bad => rw [er] at el; cases el
            | ok ys4 s5 =>
              rw [er] at el
              simp only [R.bind_ok] at el
              cases el
              refine ⟨_, env1, s3, S3, e2.mono k3.mono, ?_⟩
              rw [ey]
              intro L4 v4 H4 k4 S4 r4
              have kD4 : Keep ⟨rho2, Dd :: L1.pi⟩ H2 L4 H4 := kD.trans k4
              have D4 := kD4.keep Dd _ hDd hDr
              have pi4 : L4.pi = Dd :: L1.pi := kD4.pi
              obtain ⟨rho4, pi4'⟩ := L4
              cases pi4
              have pD4 : Dd ∈ (⟨rho4, Dd :: L1.pi⟩ : Lv).pi := List.mem_cons_self
              obtain ⟨S5, m5⟩ := S4.poke pD4 (.lst (accV ++ [v4]))
              have rA4 := RDs.mono kD4.mono _ _ rA
              refine ⟨accV, D4.1, ?_, rho4, s4, acc ++ [y], accV ++ [v4], ys4, upd_same, D4.2, RDs.mono m5 _ _ (rA4.append (.cons r4 .nil)), S5, kr.trans kD4.rho, fun b o eb hb => ?_, er, by rw [List.append_assoc]; exact eq⟩
              · rw [← rA.length, line_eq]
                rw [eq] at hz
                simp at hz
                omega
              · have q := kD4.keep b o (kp b o eb hb).1 (kp b o eb hb).2
                exact ⟨by rw [upd_ne (ne_of_none eb hD)]; exact q.1, q.2⟩
  · have hi' : i = a.1.length := by omega
    subst hi'
    rw [List.drop_length] at el
    unfold lcD at el
    split at el
    case isFalse => cases el
    rename_i hG
    cases el
    rw [List.append_nil] at eq
    subst eq
    refine .inl ⟨(w1 _ sE H2 mono12 S2 hG _).2 (Nat.le_refl _), ?_⟩
    exact q Dd hD rho2 H2 accV ⟨rfl, kr, kp⟩ S2 rA hDd hDr fD.2
variable {scope : Scope} {own : List (Str × Nat)} {t : Tgt} {tt : TM} {em : EM} {im : IM}
/-- targets of a comprehension -/
def TgOk (X : Cx) (tg : Expr) (t : Tgt) : Prop := PG X tg (gT X.K t)
theorem tg_one (i : Nat) {x : Str} {pos : Pos} (hN : X.N.Nodup) (hi : X.N[i]? = some x := by rfl) (hx : Loc X.env.scope x := by first | exact Or.inl rfl | exact Or.inr rfl) (hf : X.fn x = true ∨ X.env.scope.names.lookup x = some .local := by first | exact .inl rfl | exact .inr rfl | assumption) : TgOk X (.Name x pos) (.one i) := pg_name hN hi hx hf
theorem tg_two (i j : Nat) {x y : Str} {pos p1 p2 : Pos} {k : Nat} (hc : X.calm = true) (hN : X.N.Nodup) (hi : X.N[i]? = some x := by rfl) (hj : X.N[j]? = some y := by rfl) (hx : Loc X.env.scope x := by first | exact Or.inl rfl | exact Or.inr rfl) (hf : X.fn x = true ∨ X.env.scope.names.lookup x = some .local := by first | exact .inl rfl | exact .inr rfl | assumption)
    (hy : Loc X.env.scope y := by first | exact Or.inl rfl | exact Or.inr rfl) (hfy : X.fn y = true ∨ X.env.scope.names.lookup y = some .local := by first | exact .inl rfl | exact .inr rfl | assumption) : TgOk X (.Tuple [.Name x p1, .Name y p2] k pos) (.two i j) :=
  pg_tup hc (pgs_cons (pg_name hN hi hx hf) (pgs_cons (pg_name hN hj hy hfy) pgs_nil))
def DTs (X : Cx) (ca : Nat → Addr) (W : WX) (ifs : List Expr) (m : TM) : Prop := PTs X ifs (tT X.K ca W m)
theorem PTs.imp {X : Cx} {e : List Expr} {t t' : TT} (h : PTs X e t) (i : ∀ σ H Q, t' σ H Q → t σ H Q) : PTs X e t' := ⟨fun pins s σ H Q I q => h.run pins s σ H Q I (i σ H Q q)⟩
theorem dts_nil : DTs X ca W [] tYesM := PTs.imp pts_nil fun σ H Q ⟨L, env, s, S, e, p⟩ => p L true H Keep.refl S rfl
theorem dts_one {c : Expr} {tc : TM} (h : DT X ca W c tc) : DTs X ca W [c] tc := pts_one h
abbrev Blk (X : Cx) (scope : Scope) (P : Cx → Prop) : Prop := ∀ (s : Shared) (H : Hp) (C : Addr) (cl : List (Str × Addr)) (fp : List Addr), P (X.blk s H scope (compEnvC scope cl C X.env) fp)
theorem lc_post {L : Lv} {env : Env} {s : Store} {σ : St} {H : Hp} {vs : List Nat} {Q : VK} (p : post X.K ca (RD X.K) L H (eLc im t vs tt em env s) Q (wE ca W σ)) :
    post X.K ca (fun L' H' a J => Walks X.K ca L' H' a J) L H (im env s) (fun J H1 => ∃ L1 s1 a, Keep L H L1 H1 ∧ SR X.K ca L1 s1 H1 ∧ Walks X.K ca L1 H1 a J ∧
      ∃ zs s2, lcD t tt em a (wipeE env vs) a.1 s1 = .ok zs s2 ∧ zs.length ≤ LINE ∧ ∀ Dd, H1 Dd = none → ∀ rho2 H2 vs2, Keep L1 H1 ⟨rho2, L1.pi⟩ H2 → SR X.K ca ⟨rho2, Dd :: L1.pi⟩ s2 H2 → RDs X.K ⟨rho2, Dd :: L1.pi⟩ H2 zs vs2 → H2 Dd = some (.lst vs2) → Dd ∉ rho2 → Dd ∉ L1.pi → Q (.ref Dd) H2) (wE ca W σ) :=
  p.bind.imp fun J H1 ⟨L1, s1, a, k1, S1, w1, p1⟩ => by
    refine ⟨L1, s1, a, k1, S1, w1, ?_⟩
    cases q : lcD t tt em a (wipeE env vs) a.1 s1 with
    | exc c s => rw [q] at p1; exact p1.elim
    | bad => rw [q] at p1; exact p1.elim
    | ok zs s2 =>
      rw [q] at p1
      have p2 : post X.K ca (RD X.K) L1 H1 (if zs.length ≤ LINE then R.ok (D.lst zs) s2 else R.bad) Q (wE ca W σ) := p1
      split at p2
      · rename_i hz
        refine ⟨_, _, rfl, hz, fun Dd hD rho2 H2 vs2 k S2 rs h1 h2 h3 => p2 _ _ _ k S2.open ?_⟩
        simp only [RD]
        exact ⟨Dd, vs2, rfl, ⟨h2, h3, h1⟩, RDs.mono mo_open _ _ rs⟩
      · exact p2.elim
theorem lc_postN {L : Lv} {env : Env} {s : Store} {σ : St} {H : Hp} {vs : List Nat} {Q : VK} (p : post X.K ca (RD X.K) L H (eLcN im t vs tt em env s) Q (wE ca W σ)) :
    post X.K ca (fun L' H' a J => Walks X.K ca L' H' a J) L H (im env s) (fun J H1 => ∃ L1 s1 a, Keep L H L1 H1 ∧ SR X.K ca L1 s1 H1 ∧ Walks X.K ca L1 H1 a J ∧
      ∃ zs s2, lcD t tt em a (wipeE env vs) a.1 s1 = .ok zs s2 ∧ zs.length ≤ LINE ∧ ∀ Dd, H1 Dd = none → ∀ rho2 H2 vs2, Keep L1 H1 ⟨rho2, L1.pi⟩ H2 → SR X.K ca ⟨rho2, Dd :: L1.pi⟩ s2 H2 → RDs X.K ⟨rho2, Dd :: L1.pi⟩ H2 zs vs2 → H2 Dd = some (.lst vs2) → Dd ∉ rho2 → Dd ∉ L1.pi → Q (.ref Dd) H2) (wE ca W σ) :=
  p.bind.imp fun J H1 ⟨L1, s1, a, k1, S1, w1, p1⟩ => by
    refine ⟨L1, s1, a, k1, S1, w1, ?_⟩
    cases q : lcD t tt em a (wipeE env vs) a.1 s1 with
    | exc c s => rw [q] at p1; exact p1.elim
    | bad => rw [q] at p1; exact p1.elim
    | ok zs s2 =>
      rw [q] at p1
      have p2 : post X.K ca (RD X.K) L1 H1 (if zs.length ≤ LINE then R.ok (D.ref s2.length) (s2 ++ [Cell.lst zs]) else R.bad) Q (wE ca W σ) := p1
      split at p2
      · rename_i hz
        refine ⟨_, _, rfl, hz, fun Dd hD rho2 H2 vs2 k S2 rs h1 h2 h3 => ?_⟩
        have k' : Keep L1 H1 ⟨rho2 ++ [Dd], L1.pi⟩ H2 := ⟨rfl, k.rho.trans (List.prefix_append _ _), fun b o eb hb => ⟨(k.keep b o eb hb).1, fun hm => by
          rcases List.mem_append.mp hm with hm | hm
          · exact (k.keep b o eb hb).2 hm
          · simp at hm; rw [hm, hD] at eb; cases eb⟩⟩
        refine p2 _ _ _ k' (S2.adopt h3 (c := .lst zs) ⟨vs2, h1, RDs.mono mo_adopt _ _ rs⟩) ?_
        simp only [RD]
        exact ⟨Dd, rfl, by have := S2.len; rw [← this]; simp⟩
      · exact p2.elim
theorem de_lc (hc : X.calm = true) (hN : X.N.Nodup) (hi : DI X ca W tg iter im) (ok : BlkOk X.N X.env.scope scope own) (hv : inT (own.map (·.2)) t) (hg : Blk X scope fun Y => TgOk Y tg t) (ht : Blk X scope fun Y => DTs Y ca W0 ifs tt) (he : Blk X scope fun Y => DE Y ca W0 elt em)
    (hs : ∀ x, foldedSetIterable iter X.env x = pure x := by intro _; rfl) : DE X ca W (.ListComp elt [⟨tg, iter, ifs, 0⟩] scope pos) (eLc im t (own.map (·.2)) tt em) :=
  PE.imp (pe_lc (g := gT X.K t) (tt := tT X.K ca W0 tt) (te := tE X.K ca W0 em) hc hN hi ok hg ht he hs) fun σ H Q ⟨L, env, s, S, e, p⟩ => lc_of hv S e (lc_post p)
theorem de_lcN (hc : X.calm = true) (hN : X.N.Nodup) (hi : DI X ca W tg iter im) (ok : BlkOk X.N X.env.scope scope own) (hv : inT (own.map (·.2)) t) (hg : Blk X scope fun Y => TgOk Y tg t) (ht : Blk X scope fun Y => DTs Y ca W0 ifs tt) (he : Blk X scope fun Y => DE Y ca W0 elt em)
    (hs : ∀ x, foldedSetIterable iter X.env x = pure x := by intro _; rfl) : DE X ca W (.ListComp elt [⟨tg, iter, ifs, 0⟩] scope pos) (eLcN im t (own.map (·.2)) tt em) :=
  PE.imp (pe_lc (g := gT X.K t) (tt := tT X.K ca W0 tt) (te := tE X.K ca W0 em) hc hN hi ok hg ht he hs) fun σ H Q ⟨L, env, s, S, e, p⟩ => lc_of hv S e (lc_postN p)
theorem ds_setLc (i : Nat) {y : Str} (hc : X.calm = true) (hN : X.N.Nodup) (hi : DI X ca W tg iter im) (ok : BlkOk X.N X.env.scope scope own) (hv : inT (own.map (·.2)) t) (hg : Blk X scope fun Y => TgOk Y tg t) (ht : Blk X scope fun Y => DTs Y ca W0 ifs tt) (he : Blk X scope fun Y => DE Y ca W0 elt em)
    (hy : X.N[i]? = some y := by rfl) (hyl : X.env.scope.names.lookup y = some .local := by rfl) (hsw : swapsWith (.ListComp elt [⟨tg, iter, ifs, 0⟩] scope pos) (some (.Name y py)) spos.line X.env = pure true := by exact sw_true rfl rfl rfl (by decide +kernel))
    (hs : ∀ x, foldedSetIterable iter X.env x = pure x := by intro _; rfl) : DS X ca W (.Assign [.Name y py] (.ListComp elt [⟨tg, iter, ifs, 0⟩] scope pos) spos) (sSet i (eLc im t (own.map (·.2)) tt em)) :=
  PS.imp (ps_setLc (g := gT X.K t) (tt := tT X.K ca W0 tt) (te := tE X.K ca W0 em) hc hN hy hyl hsw hi ok hg ht he hs) fun T σ H ⟨L, env, s, S, e, p⟩ =>
    lc_of hv S e (lc_post (p.ofR.imp fun v H1 ⟨L1, s1, d, k1, S1, r1, p1⟩ => p1 L1 _ H1 Keep.refl S1 ((e.mono k1.mono).set r1)))
end
end DE
/-! DE8: raise; a law's end -/
namespace DE
open PySem PySem.Spec PyProof.Rows L2
theorem takes0N {X : Cx} : L2N.Takes X W0 := fun _ _ x => by
  obtain ⟨_, _, _, _, _, _, _, _, _, _, _, _, _, _, _, _, z⟩ := x
  exact z.elim
/-- what is known of an own class of refusals -/
structure ExT (K : PySem.W.Frag) (mg : Str → Option Value) (x : Str) (C : Addr) : Prop where
  g : mg x = some (.ref C)
  x : PySem.W.excIn K C [.type "ValueError", .type "Exception", .type "BaseException", .type "object"] "ValueError.__new__" = true
  k : PySem.W.keepIn K (.ref C) = true
  b : PySem.W.subIn K (.ref C) (.type "BaseException") = some true
  t : PySem.W.typeIn K (.ref C) = some (.type "type")
section
variable {X : Cx} {ca : Nat → Addr} {W : WX} {pos p p2 pos2 : Pos}
def sRaise (c : Nat) : SM := fun _ s => .exc c s
theorem ds_raise {x m : Str} {j c : Nat} (T : ExT X.K X.mg x (ca c)) (hc : X.calm = true) (tk : L2N.Takes X W) (hg : Gl X x := by rfl) (hdb : (x == ("__debug__" : Str)) = false := by decide) :
    DS X ca W (.Raise (some (.Call (.Name x p) [.Constant (.str m) j p2] [] pos)) none pos2) (sRaise c) :=
  PS.imp (L2N.ps_raise hc tk (L2N.pmk_own PySem.F.excBase_ValueError T.x T.g T.k (raises_own T.b T.t) hg hdb)) fun T σ H ⟨L, env, s, S, e, p⟩ => p L H Keep.refl S
end
theorem wid_fn {E : XK} : Wid (fun cls d _ H => E cls d H) := fun _ _ _ _ _ h => h
theorem wid_0 : Wid W0 := fun _ _ _ _ _ h => h
section
variable {K : PySem.W.Frag} {ca : Nat → Addr} {L L2 : Lv} {H H2 : Hp} {s s2 : Store} {n : Nat}
mutual
/-- what was read before and is read now needs no later cell -/
theorem RD.narrow (w : Within L L2 n) : ∀ (d : D) (v0 v : V), RD K L H d v0 → RD K L2 H2 d v → RD K L H2 d v
  | .tup xs, v0, v, h, r => by
    simp only [RD] at h r ⊢
    obtain ⟨a0, vs0, e0, f0, rs0⟩ := h
    obtain ⟨a, vs, e, f, rs⟩ := r
    exact ⟨a, vs, e, f.within w, RDs.narrow w xs vs0 vs rs0 rs⟩
  | .lst xs, v0, v, h, r => by
    simp only [RD] at h r ⊢
    obtain ⟨a0, vs0, e0, f0, rs0⟩ := h
    obtain ⟨a, vs, e, f, rs⟩ := r
    exact ⟨a, vs, e, ⟨w.out f.1, w.outp f.2.1, f.2.2⟩, RDs.narrow w xs vs0 vs rs0 rs⟩
  | .dct ks xs, v0, v, h, r => by
    simp only [RD] at h r ⊢
    obtain ⟨a0, vs0, e0, f0, l0, rs0⟩ := h
    obtain ⟨a, vs, e, f, l, rs⟩ := r
    exact ⟨a, vs, e, ⟨w.out f.1, w.outp f.2.1, f.2.2⟩, l, RDs.narrow w xs vs0 vs rs0 rs⟩
  | .ref l, v0, v, h, r => by
    simp only [RD] at h r ⊢
    obtain ⟨a0, e0, q0⟩ := h
    obtain ⟨a, e, q⟩ := r
    refine ⟨a, e, ?_⟩
    have := prefix_get w.rho q0
    rw [q] at this; cases this
    exact q0
  | .scr ns, v0, v, h, r => by
    simp only [RD] at r ⊢
    obtain ⟨a, e, f⟩ := r
    exact ⟨a, e, f.within w⟩
  | .exc _ _, _, _, _, r => r
  | .obj fs xs, v0, v, h, r => by
    simp only [RD] at h r ⊢
    obtain ⟨a0, C0, dx0, vs0, e0, f0, c0, l0, rs0⟩ := h
    obtain ⟨a, C, dx, vs, e, f, c, l, rs⟩ := r
    exact ⟨a, C, dx, vs, e, ⟨w.out f.1, w.outp f.2.1, f.2.2⟩, c, l, RDs.narrow w xs vs0 vs rs0 rs⟩
  | .non, _, _, _, r => r
  | .bl _, _, _, _, r => r
  | .int _, _, _, _, r => r
  | .str _, _, _, _, r => r
theorem RDs.narrow (w : Within L L2 n) : ∀ (ds : List D) (vs0 vs : List V), RDs K L H ds vs0 → RDs K L2 H2 ds vs → RDs K L H2 ds vs
  | [], _, _, _, r => r
  | x :: xs, _, _, h, r => by
    simp only [RDs] at h r
    obtain ⟨w0, ws0, rfl, r0, rs0⟩ := h
    obtain ⟨w1, ws1, rfl, r1, rs1⟩ := r
    exact .cons (RD.narrow w x w0 w1 r0 r1) (RDs.narrow w xs ws0 ws1 rs0 rs1)
end
theorem CellOk.narrow (w : Within L L2 n) {a : Addr} {c : Cell} (h : CellOk K ca L H a c) (r : CellOk K ca L2 H2 a c) : CellOk K ca L H2 a c := by
  cases c with
  | lst xs => obtain ⟨v0, _, h0⟩ := h; obtain ⟨v, e, h1⟩ := r; exact ⟨v, e, RDs.narrow w _ _ _ h0 h1⟩
  | dK ks xs => obtain ⟨v0, _, _, h0⟩ := h; obtain ⟨v, e, l, h1⟩ := r; exact ⟨v, e, l, RDs.narrow w _ _ _ h0 h1⟩
  | dT ks xs => obtain ⟨v0, _, _, h0⟩ := h; obtain ⟨v, e, l, h1⟩ := r; exact ⟨v, e, l, RDs.narrow w _ _ _ h0 h1⟩
  | ins k fs xs => obtain ⟨d0, v0, _, _, _, h0⟩ := h; obtain ⟨d, v, e, l, c, h1⟩ := r; exact ⟨d, v, e, l, c, RDs.narrow w _ _ _ h0 h1⟩
/-- behind a call that left the old cells as they were -/
theorem SR.back (S : SR K ca L s H) (k : Keep L H L2 H2) (S2 : SR K ca L2 s2 H2) (e : s2.take s.length = s) : Within L L2 s.length ∧ Keep L H L H2 ∧ SR K ca L s H2 := by
  have w : Within L L2 s.length := ⟨k.rho, S.len, k.pi⟩
  refine ⟨w, ⟨rfl, List.prefix_refl _, fun b o eb hb => ⟨(k.keep b o eb hb).1, hb⟩⟩, S.len, S.nd, fun l a c e1 e2 => ?_, fun b hb => ?_⟩
  · have hl : l < s.length := (List.getElem?_eq_some_iff.mp e2).1
    have e2' : s2[l]? = some c := by
      rw [← e, List.getElem?_take_of_lt hl] at e2
      exact e2
    exact (S.cell l a c e1 e2).narrow w (S2.cell l a c (prefix_get k.rho e1) e2')
  · obtain ⟨h1, o, h2⟩ := S.pi b hb
    exact ⟨h1, o, (k.keep b o h2 h1).1⟩
open Classical in
/-- without what it made: the result by itself, the store as it was -/
noncomputable def pureRet (fn : Fn) : Fn := fun ds s => match fn ds s with
  | .ok d s' => match frz s' s.length d with
    | some d' => if s'.take s.length = s then .ok d' s else .bad
    | none => .bad
  | .exc c s' => if s'.take s.length = s then .exc c s else .bad
  | .bad => .bad
theorem sp_pure {m : Nat} {fn : Fn} : ∀ vs H Q E, spOf K ca m (pureRet fn) vs H Q E → spOf K ca m fn vs H Q E := fun vs H Q E ⟨L, ds, s, hn, S, r, p⟩ => by
  refine ⟨L, ds, s, hn, S, r, ?_⟩
  unfold pureRet at p
  cases q : fn ds s with
  | bad => rw [q] at p; exact p.elim
  | exc c s2 =>
    rw [q] at p
    simp only at p
    split at p
    · rename_i ht
      intro L2 H2 k S2
      obtain ⟨w, k', S'⟩ := S.back k S2 ht
      exact p L H2 k' S'
    · exact p.elim
  | ok d s2 =>
    rw [q] at p
    simp only at p
    split at p
    · rename_i d' ef
      split at p
      · rename_i ht
        intro L2 v H2 k S2 rv
        obtain ⟨w, k', S'⟩ := S.back k S2 ht
        exact p L v H2 k' S' (frz_ok w S2 ef rv)
      · exact p.elim
    · exact p.elim
end
section
variable {P : Program} {w : World} {K : PySem.W.Frag} {mg : Str → Option Value} {base : Heap} {ca : Nat → Addr} {CX : CXT}
theorem fn_pure {k m : Nat} {f : Addr} {fd : FuncData} {ps : List Str} {fn : Fn} (F : FnOk P w K mg base CX k f fd ps (spOf K ca m fn)) : FnOk P w K mg base CX k f fd ps (spOf K ca m (pureRet fn)) := F.imp sp_pure
/-- at no level nothing is promised -/
theorem fn_zero {m k : Nat} {f : Addr} {fd : FuncData} {ps : List Str} : FnOk P w K mg base CX k f fd ps (spOf K ca m fun _ _ => .bad) :=
  ⟨fun vs H Q E ⟨_, _, _, _, _, _, p⟩ => p.elim, fun _ _ _ _ _ _ _ _ _ _ _ _ _ ⟨_, _, _, _, _, _, p⟩ => p.elim⟩
end
end DE
/-! DE9: small words for the printed derivations -/
namespace DE
open PySem PySem.Spec PyProof.Rows L2
theorem hu200 {k : Nat} {A : Around} (hr : Room k A) : A.units + 200 < cLine := by have := hr.un; omega
theorem hu1 {k : Nat} {A : Around} (hr : Room k A) : A.units + 1 < cLine := by have := hr.un; omega
def GlobD (K : PySem.W.Frag) (mg : Str → Option Value) (x : Str) (d : D) : Prop := ∃ u v, mg x = some u ∧ RelV v u ∧ ∀ L H, RD K L H d v
section
variable {X : Cx} {ca : Nat → Addr} {W : WX} {pos : Pos}
theorem de_globD {x : Str} {d : D} (hg : Gl X x) (h : GlobD X.K X.mg x d) (hd : (x == ("__debug__" : Str)) = false := by decide) : DE X ca W (.Name x pos) (eC d) := by
  obtain ⟨u, v, h1, h2, h3⟩ := h
  exact de_glob hg h1 h2 h3 hd
theorem imp_lt : Imp2 X.K ca ltD (rI0 fun i j => .bl (decide (i < j))) := imp_cmp _
theorem imp_le : Imp2 X.K ca leD (rI0 fun i j => .bl (decide (i ≤ j))) := imp_cmp _
theorem imp_gt : Imp2 X.K ca gtD (rI0 fun i j => .bl (decide (j < i))) := imp_cmp _
theorem imp_ge : Imp2 X.K ca geD (rI0 fun i j => .bl (decide (j ≤ i))) := imp_cmp _
end
section
variable {P : Program} {w : World} {K : PySem.W.Frag} {mg : Str → Option Value} {base : Heap} {N : List Str} {qual : Str} {scope : Scope} {f : Addr} {cd : Value} {A : Around} {outer : List PySem.Env} {s : Shared} {H : Hp} {E : XK}
theorem tk_fn : L2N.Takes (cxOf (L2N.CX P w) P w K mg base N qual scope f cd A outer s H E) (fun cls d _ H => E cls d H) := L2N.takes_of rfl rfl rfl rfl
theorem hp_fn : PassesOwn (model P w) (cxOf (L2N.CX P w) P w K mg base N qual scope f cd A outer s H E).A (cxOf (L2N.CX P w) P w K mg base N qual scope f cd A outer s H E).env (cxOf (L2N.CX P w) P w K mg base N qual scope f cd A outer s H E).xe := passes_of rfl
end
namespace B
theorem max : bootBuiltins "max" = some (.builtin "max") := by decide +kernel
theorem min : bootBuiltins "min" = some (.builtin "min") := by decide +kernel
theorem abs : bootBuiltins "abs" = some (.builtin "abs") := by decide +kernel
theorem list : bootBuiltins "list" = some (.type "list") := by decide +kernel
theorem tuple : bootBuiltins "tuple" = some (.type "tuple") := by decide +kernel
theorem int : bootBuiltins "int" = some (.type "int") := by decide +kernel
theorem str : bootBuiltins "str" = some (.type "str") := by decide +kernel
theorem bool : bootBuiltins "bool" = some (.type "bool") := by decide +kernel
theorem dict : bootBuiltins "dict" = some (.type "dict") := by decide +kernel
end B
end DE
/-! DEH: within an except suite: the ends of a list and of a tuple that is unpacked, a comprehension over a list -/
namespace DE
open PySem PySem.Spec PyProof.Rows L2 HotX
section
variable {prog : Program} {w : World} {A : Around} {E : Value → Shared → Prop} {s : Shared}
theorem list_end_hot {it l x1 : Addr} {i : Nat} {items : Array Value} {Q : Option Value → Shared → Prop} (hot : HotAt A x1 s.heap) (hne : it ≠ x1) (hit : s.heap.IsListIter it l i) (hl : s.heap.IsList l items) (hx : items[i]? = none)
    (hQ : ∀ h', (∀ b o, b ≠ it → s.heap.get? b = some o → h'.get? b = some o) → Q none { s with heap := h' }) : wpAny (model prog w) A (pyNext (.ref it)) Q E s := by
  obtain ⟨o, ho, hc, hd⟩ := id hit
  obtain ⟨ol, hol, _, nl, hdl⟩ := hl
  obtain ⟨hh, o1, vs1, h1, d1, c1⟩ := hot
  unfold pyNext
  refine wpAny_bind (wpAny_attempt (wpAny_callSpecial?_slot (name := Str.ofString "__next__") hit.typeIs slot_listiter_next
    (wpAny_call_entry slot_listiter_next hit.typeIs entry_listiter_next ?_ (args_listiter_next _))))
  show wpAny _ _ (field (.ref it) 0 >>= _) _ _ s
  refine wpAny_bind (wpAny_field ho hd (x := .ref l) rfl ?_)
  show wpAny _ _ (if (Value.ref l == Value.none) = true then _ else _) _ _ s
  rw [if_neg (show ¬ ((Value.ref l == Value.none) = true) from Bool.false_ne_true)]
  show wpAny _ _ (field (.ref it) 1 >>= _) _ _ s
  refine wpAny_bind (wpAny_field ho hd (x := .int i 0) rfl ?_)
  show wpAny _ _ (seqItems? (.ref l) >>= _) _ _ s
  refine wpAny_bind (wpAny_seqItems hol hdl ?_)
  simp only [Int.toNat_natCast, hx]
  refine wpAny_bind (wpAny_rule (wpAny_bind (wpAny_setField ho hd (by simp) ?_)))
  show wpAny _ _ (newExc (.type "StopIteration") [] >>= _) _ _ _
  refine wpAny_bind ?_
  simp only [newExc, newTuple]
  refine wpAny_bind (wpAny_newObj_type ?_ (by size_fits))
  refine wpAny_bind (m := firstArgMember _ _) (wpAny_of_eq (a := Value.none) (by first | rfl | (simp only [firstArgMember]; rfl)) ?_)
  refine wpAny_newObj_type ?_ (by size_fits)
  have u1 : (s.heap.update it (Obj.mapFields (·.setIfInBounds 0 .none))).get? x1 = some o1 := by
    rw [Heap.get?_update_other _ _ hne]; exact h1
  refine raiseNew_hot ⟨hh, o1, vs1, Heap.get?_push_of_some _ (Heap.get?_push_of_some _ u1), d1, c1⟩ (Nat.ne_of_lt (Heap.lt_size (Heap.get?_push_of_some _ u1))) (Heap.get?_push_size _ rfl) rfl (by first | (simp; done) | (simp; omega) | (simp only [Array.size_append]; simp; omega)) ?_
  refine wpAny_bind (wpAny_isInstance (T := "StopIteration") (b := true) ⟨_, Heap.get?_update_self _ (Heap.get?_push_size _ rfl) rfl, rfl⟩ isSubtype_stop ?_)
  refine wpAny_pure (hQ _ fun b o hb e => ?_)
  have e2 : (s.heap.update it (Obj.mapFields (·.setIfInBounds 0 .none))).get? b = some o := by
    rw [Heap.get?_update_other _ _ (Ne.symm hb)]; exact e
  rw [Heap.get?_update_other _ _ (Nat.ne_of_gt (Heap.lt_size (Heap.get?_push_of_some _ e2)))]
  exact Heap.get?_push_of_some _ (Heap.get?_push_of_some _ e2)
theorem tuple_end_hot {it l x1 : Addr} {i : Nat} {items : Array Value} {Q : Option Value → Shared → Prop} (hot : HotAt A x1 s.heap) (hne : it ≠ x1) (hit : IsTupIter s.heap it l i) (hl : IsTup s.heap l items) (hx : items[i]? = none)
    (hQ : ∀ h', (∀ b o, b ≠ it → s.heap.get? b = some o → h'.get? b = some o) → Q none { s with heap := h' }) : wpAny (model prog w) A (pyNext (.ref it)) Q E s := by
  obtain ⟨o, ho, hc, hd⟩ := id hit
  obtain ⟨ol, hol, _, nl, hdl⟩ := hl
  obtain ⟨hh, o1, vs1, h1, d1, c1⟩ := hot
  unfold pyNext
  refine wpAny_bind (wpAny_attempt (wpAny_callSpecial?_slot (name := Str.ofString "__next__") (T := "tuple_iterator") ⟨o, ho, hc⟩ F.slot_tuple_iterator_next
    (wpAny_call_entry F.slot_tuple_iterator_next (T := "tuple_iterator") ⟨o, ho, hc⟩ F.entry_tuple_iterator_next ?_ (F.args_tuple_iterator_next_1 _))))
  show wpAny _ _ (field (.ref it) 0 >>= _) _ _ s
  refine wpAny_bind (wpAny_field ho hd (x := .ref l) rfl ?_)
  show wpAny _ _ (if (Value.ref l == Value.none) = true then _ else _) _ _ s
  rw [if_neg (show ¬ ((Value.ref l == Value.none) = true) from Bool.false_ne_true)]
  show wpAny _ _ (field (.ref it) 1 >>= _) _ _ s
  refine wpAny_bind (wpAny_field ho hd (x := .int i 0) rfl ?_)
  show wpAny _ _ (seqItems? (.ref l) >>= _) _ _ s
  refine wpAny_bind (wpAny_seqItems hol hdl ?_)
  simp only [Int.toNat_natCast, hx]
  refine wpAny_bind (wpAny_rule (wpAny_bind (wpAny_setField ho hd (by simp) ?_)))
  show wpAny _ _ (newExc (.type "StopIteration") [] >>= _) _ _ _
  refine wpAny_bind ?_
  simp only [newExc, newTuple]
  refine wpAny_bind (wpAny_newObj_type ?_ (by size_fits))
  refine wpAny_bind (m := firstArgMember _ _) (wpAny_of_eq (a := Value.none) (by first | rfl | (simp only [firstArgMember]; rfl)) ?_)
  refine wpAny_newObj_type ?_ (by size_fits)
  have u1 : (s.heap.update it (Obj.mapFields (·.setIfInBounds 0 .none))).get? x1 = some o1 := by
    rw [Heap.get?_update_other _ _ hne]; exact h1
  refine raiseNew_hot ⟨hh, o1, vs1, Heap.get?_push_of_some _ (Heap.get?_push_of_some _ u1), d1, c1⟩ (Nat.ne_of_lt (Heap.lt_size (Heap.get?_push_of_some _ u1))) (Heap.get?_push_size _ rfl) rfl (by first | (simp; done) | (simp; omega) | (simp only [Array.size_append]; simp; omega)) ?_
  refine wpAny_bind (wpAny_isInstance (T := "StopIteration") (b := true) ⟨_, Heap.get?_update_self _ (Heap.get?_push_size _ rfl) rfl, rfl⟩ isSubtype_stop ?_)
  refine wpAny_pure (hQ _ fun b o hb e => ?_)
  have e2 : (s.heap.update it (Obj.mapFields (·.setIfInBounds 0 .none))).get? b = some o := by
    rw [Heap.get?_update_other _ _ (Ne.symm hb)]; exact e
  rw [Heap.get?_update_other _ _ (Nat.ne_of_gt (Heap.lt_size (Heap.get?_push_of_some _ e2)))]
  exact Heap.get?_push_of_some _ (Heap.get?_push_of_some _ e2)
theorem hot_keep {x1 : Addr} {h h' : Heap} (hot : HotAt A x1 h) (k : ∀ o, h.get? x1 = some o → h'.get? x1 = some o) : HotAt A x1 h' := by
  obtain ⟨hh, o1, vs1, h1, d1, c1⟩ := hot
  exact ⟨hh, o1, vs1, k _ h1, d1, c1⟩
theorem hot_some {x1 : Addr} {h : Heap} (hot : HotAt A x1 h) : ∃ o, h.get? x1 = some o := by
  obtain ⟨hh, o1, vs1, h1, d1, c1⟩ := hot
  exact ⟨o1, h1⟩
theorem unpack_hot {t x1 : Addr} {items : Array Value} {Q : List Value → Shared → Prop} (hot : HotAt A x1 s.heap) (ht : IsTup s.heap t items)
    (hQ : ∀ h', Heap.ExtBut s.heap.objs.size s.heap h' → Q items.toList { s with heap := h' }) : wpAny (model prog w) A (unpackItems (.ref t) items.size none) Q E s := by
  have hlt : t ≠ s.heap.objs.size := by obtain ⟨o, ho, _⟩ := ht; exact Nat.ne_of_lt (Heap.lt_size ho)
  have hx : s.heap.objs.size ≠ x1 := by obtain ⟨o, ho⟩ := hot_some hot; exact Nat.ne_of_gt (Heap.lt_size ho)
  unfold unpackItems
  refine wpAny_bind ?_
  · unfold notIterableAtAll
    refine wpAny_bind (wpAny_specialOf ht.typeIs slot_tuple_iter.lookup ?_)
    refine wpAny_pure ?_
    simp only [Bool.false_eq_true, if_false]
    refine wpAny_bind (wpAny_holding (iter_tuple ht ?_))
    refine wpAny_bind (wpAny_holding (draw_tuple hlt items.size 0 _ _ ⟨_, Heap.get?_push_size _ rfl, rfl, rfl⟩ (ht.push _) (by omega) fun h₁ hit₁ hs₁ => ?_))
    have hall : List.take items.size (List.drop 0 items.toList) = items.toList := by
      rw [List.drop_zero]; exact List.take_of_length_le (by simp)
    rw [hall]
    rw [if_neg (by simp)]
    have ht₁ : IsTup h₁ t items := (ht.push _).extBut hs₁.extBut hlt
    refine wpAny_bind (wpAny_holding (tuple_end_hot (hot_keep hot (h' := h₁) fun o e => hs₁.extBut _ _ (Ne.symm hx) (Heap.get?_push_of_some _ e)) hx hit₁ ht₁ (by simp) fun h₂ he₂ => ?_))
    simp only [Option.isSome_none, Bool.false_eq_true, if_false]
    refine wpAny_pure (hQ h₂ fun b o hb e => he₂ b o hb (hs₁.extBut b o hb (Heap.get?_push_of_some _ e)))
theorem assign_hot {env : PySem.Env} {elts : List Expr} {x1'} {pos : Pos} {t x1 : Addr} {items : Array Value} {Q : Unit → Shared → Prop} (hot : HotAt A x1 s.heap) (ht : IsTup s.heap t items)
    (hn : (assignEach elts env).length = items.size) (hstar : (assignEach elts env).findIdx? (·.1) = none)
    (h : ∀ h', Heap.ExtBut s.heap.objs.size s.heap h' → wpAny (model prog w) A (assignInOrder ((assignEach elts env).map (·.2)) items.toList) Q E { s with heap := h' }) :
    wpAny (model prog w) A (assign (.Tuple elts x1' pos) env (.ref t)) Q E s := by
  rw [assign_Tuple]
  refine wpAny_bind (wpAny_standAt ?_)
  unfold unpack
  rw [hn, hstar]
  exact wpAny_bind (wpAny_holding (unpack_hot hot ht h))
end
/-- the handled exception at p, out of a block's reach -/
structure HotB (p : Addr × Obj) (s : Shared) (H : Hp) (fs fp : List Addr) : Prop where
  get : s.heap.get? p.1 = some p.2
  free : H p.1 = none
  nofs : p.1 ∉ fs
  nofp : p.1 ∉ fp
  ctx : ∃ vs : Array Value, p.2.data = .fields vs ∧ vs[2]? = some .none
theorem HotB.at {X : Cx} {p : Addr × Obj} {s0 : Shared} {H0 : Hp} {scope : Scope} {ce : PySem.Env} {fp : List Addr} (b : HotB p s0 H0 (frs X.stack) fp) (hh : X.A.handled = some (.ref p.1)) {pins : List (Addr × Obj)} {σ : St} {H : Hp} {s : Shared} (I : Inv (X.blk s0 H0 scope ce fp) pins σ H s) : HotAt X.A p.1 s.heap := by
  obtain ⟨vs, d, c⟩ := b.ctx
  exact ⟨hh, p.2, vs, I.base.keep p.1 p.2 b.get b.free b.nofs b.nofp, d, c⟩
structure TurnH (P : Program) (w : World) (K : PySem.W.Frag) (tg : Expr) (J : It) (fp : List Addr) (it : Addr) (tn : Nat → Heap → Prop) : Prop where
  mem : it ∈ fp
  obj : ∀ i h, tn i h → ∀ b ∈ fp, ∃ o, h.get? b = some o ∧ ∀ v, o.data ≠ .cell v
  keep : ∀ i h h', tn i h → (∀ b ∈ fp, ∀ o, h.get? b = some o → h'.get? b = some o) → tn i h'
  item : ∀ (X : Cx), X.prog = P → X.w = w → X.K = K → ∀ (i : Nat) (pins : List (Addr × Obj)) (s : Shared) (σ : St) (H : Hp) (E : Value → Shared → Prop), Inv X pins σ H s → (∀ b ∈ fp, FpOk X pins H b) → tn i s.heap → J.go i H →
    wpAny (model P w) X.A (pyNext (.ref it)) (fun r s1 => ∃ u, r = some u ∧
      wpAny (model P w) X.A (letOwnedTupleGo tg (.ref it) u) (fun _ s2 => ∃ x H', Inv X pins σ H' s2 ∧ RelV x u ∧ J.yld i H x H' ∧ tn (i + 1) s2.heap ∧ ∀ b ∈ fp, H' b = none) E s1) E s
  done : ∀ (X : Cx), X.prog = P → X.w = w → X.K = K → ∀ (i : Nat) (pins : List (Addr × Obj)) (s : Shared) (σ : St) (H : Hp) (E : Value → Shared → Prop) {x1 : Addr}, HotAt X.A x1 s.heap → x1 ∉ fp → Inv X pins σ H s → (∀ b ∈ fp, FpOk X pins H b) → tn i s.heap → J.stop i H →
    wpAny (model P w) X.A (pyNext (.ref it)) (fun r s1 => r = none ∧ Inv X pins σ H s1) E s
  self : ∀ (A : Around) (i : Nat) (s : Shared) (Q : Value → Shared → Prop) (E : Value → Shared → Prop), tn i s.heap → Q (.ref it) s → wpAny (model P w) A (pyIter (.ref it)) Q E s
def PIEH (X : Cx) (pins : List (Addr × Obj)) (σ : St) (tg : Expr) (R : It → Hp → Prop) (itv : Value) (s2 : Shared) : Prop :=
  ∃ (it : Addr) (fp : List Addr) (tn : Nat → Heap → Prop) (J : It) (H' : Hp), itv = .ref it ∧ Inv X pins σ H' s2 ∧ TurnH X.prog X.w X.K tg J fp it tn ∧ tn 0 s2.heap ∧ (∀ b ∈ fp, FpOk X pins H' b) ∧ R J H'
structure PIH (X : Cx) (tg iter : Expr) (wi : TI) : Prop where
  run : ∀ (pins : List (Addr × Obj)) (s : Shared) (σ : St) (H : Hp) (R : It → Hp → Prop), Inv X pins σ H s → wi σ H R →
    wpAny (model X.prog X.w) X.A (eval iter X.env) (fun v s1 => wpAny (model X.prog X.w) X.A (pyIter v) (PIEH X pins σ tg R) X.xe s1) X.xe s
theorem turnH_list {P : Program} {w : World} {K : PySem.W.Frag} {tg : Expr} (a it : Addr) : TurnH P w K tg (Itl K a) [it] it (fun i h => h.IsListIter it a i) where
  mem := (turn_list (P := P) (w := w) (K := K) (tg := tg) a it).mem
  obj := (turn_list (P := P) (w := w) (K := K) (tg := tg) a it).obj
  keep := (turn_list (P := P) (w := w) (K := K) (tg := tg) a it).keep
  item := by
    intro X hP hw hK i pins s σ H E I hf st hg
    subst hP hw hK
    obtain ⟨xs, x, hq, hx⟩ := hg
    obtain ⟨its, rv, p, hz⟩ := I.list hq
    obtain ⟨u, hu, ru⟩ := rv.get hx
    obtain ⟨f0, f1, f2, f3, f4, f5⟩ := hf it (by simp)
    refine wpAny_pyNext_list_item st p.isList (x := u) (by simpa using hu) fun h' st' sb => ?_
    have I1 : Inv X pins σ H { s with heap := h' } := I.turned (t' := s.toks) (fun b o hb e => (sb.2 b hb).trans e) f0 f1 f3 f4 f5
    obtain ⟨o, e, c, d⟩ := id st'
    exact ⟨u, rfl, go_of (s := { s with heap := h' }) e c d (by decide) ⟨x, H, I1, ru, ⟨rfl, fun ys hy => by rw [I.list_inj hy hq]; exact hx⟩, st', fun b hb => (hf b hb).1⟩⟩
  done := by
    intro X hP hw hK i pins s σ H E x1 hot hne I hf st hg
    subst hP hw hK
    obtain ⟨xs, hq, hx⟩ := hg
    obtain ⟨its, rv, p, hz⟩ := I.list hq
    obtain ⟨f0, f1, f2, f3, f4, f5⟩ := hf it (by simp)
    have hl := rv.length
    exact list_end_hot hot (fun z => hne (by simp [z])) st p.isList (by simp; omega) fun h' eb => ⟨rfl, I.turned (t' := s.toks) (fun b o hb e => eb b o hb e) f0 f1 f3 f4 f5⟩
  self := fun _ _ _ _ _ st h => wpAny_pyIter_listiter st h
section
variable {X : Cx} {tg : Expr}
theorem pi_listH {l : Expr} {tl : TE} (hl : PE X l tl) : PIH X tg l (iList X.K tl) := by
  refine ⟨fun pins s σ H R I h => ?_⟩
  refine thn (hl.run pins s σ H _ I h) fun v s1 ⟨x, H1, I1, r1, q1⟩ => ?_
  obtain ⟨a, e, ⟨xs, hq⟩, q⟩ := q1
  subst e
  cases r1
  obtain ⟨its, rv, p, hz⟩ := I1.list hq
  refine wpAny_pyIter_list p.isList ?_
  refine ⟨s1.heap.objs.size, [s1.heap.objs.size], _, _, H1, rfl, I1.kept (t' := s1.toks) fun b o e => Heap.get?_push_of_some _ e, turnH_list a _, ⟨_, Heap.get?_push_size _ rfl, rfl, rfl⟩, fun b hb => ?_, q⟩
  have e : b = s1.heap.objs.size := by simpa using hb
  subst e
  exact I1.fpOk (Nat.le_refl _) (I1.hok.fresh (Nat.le_refl _))
theorem pg_tupH {p : Addr × Obj} {s0 : Shared} {H0 : Hp} {scope : Scope} {ce : PySem.Env} {fp : List Addr} {es : List Expr} {k : Nat} {t : TGs} {n : Nat} {pos : Pos} (b : HotB p s0 H0 (frs X.stack) fp) (hh : X.A.handled = some (.ref p.1)) (h : PGs (X.blk s0 H0 scope ce fp) es t)
    (hn : (assignEach es (X.blk s0 H0 scope ce fp).env).length = n := by rfl) (hst : (assignEach es (X.blk s0 H0 scope ce fp).env).findIdx? (·.1) = none := by rfl) : PG (X.blk s0 H0 scope ce fp) (.Tuple es k pos) (gTup X.K n t) := by
  refine ⟨fun pins s σ H v u Q I r hw => ?_⟩
  obtain ⟨a, xs, e1, hq, hl, hw⟩ := hw
  subst e1
  cases r
  obtain ⟨its, rv, ht, hz⟩ := I.tuple hq
  refine assign_hot (b.at hh I) ht (by simp [hn, ← hl, rv.length]) hst fun h' hx => ?_
  have I1 : Inv (X.blk s0 H0 scope ce fp) pins σ H { s with heap := h' } := I.kept (t' := s.toks) fun b o e => hx b o (Nat.ne_of_lt (Heap.lt_size e)) e
  exact h.run pins _ σ H xs _ Q I1 (by simpa using rv) hw
theorem lc_coreH {p : Addr × Obj} {pins : List (Addr × Obj)} {s : Shared} {σ : St} {H : Hp} {Q : VK} {elt tg iter : Expr} {ifs : List Expr} {scope : Scope} {own : List (Str × Nat)} {pos pos' : Pos} {wi : TI} {g : TG} {tt : TT} {te : TE} {use : Option (Value → Sem Unit)} {Qf : Value → Shared → Prop}
    (hh : X.A.handled = some (.ref p.1)) (hv : ∃ vs : Array Value, p.2.data = .fields vs ∧ vs[2]? = some .none) (hpn : p ∈ X.pn) (hN : X.N.Nodup) (I : Inv X pins σ H s) (hi : PIH X tg iter wi) (ok : BlkOk X.N X.env.scope scope own)
    (hg : ∀ (s : Shared) (H : Hp) (C : Addr) (cl : List (Str × Addr)) (fp : List Addr), HotB p s H (frs X.stack) fp → PG (X.blk s H scope (compEnvC scope cl C X.env) fp) tg g) (ht : ∀ (s : Shared) (H : Hp) (C : Addr) (cl : List (Str × Addr)) (fp : List Addr), PTs (X.blk s H scope (compEnvC scope cl C X.env) fp) ifs tt)
    (he : ∀ (s : Shared) (H : Hp) (C : Addr) (cl : List (Str × Addr)) (fp : List Addr), PE (X.blk s H scope (compEnvC scope cl C X.env) fp) elt te) (hs : ∀ x, foldedSetIterable iter X.env x = pure x)
    (h : tLc wi g tt te (own.map (·.2)) σ H Q)
    (hRR : ∀ D C s' m H', Inv X pins σ H' s' → Q (.ref D) H' → s'.heap.Ns C m → FpOk X pins H' C → compPost (model X.prog X.w) X.A X.xe use Qf (.ref D) C (.ok .next) s') :
    wpAny (model X.prog X.w) X.A (comprehension (.ListComp elt [⟨tg, iter, ifs, 0⟩] scope pos) scope X.env pos' (newList []) false (eval iter X.env) use) Qf X.xe s := by
  have hfree : ∀ y ∈ scope.names, y.2 = .free → ∃ c, X.env.cells.lookup y.1 = some c := fun y hy e => by
    rcases ok.free y hy e with k | k
    · exact I.ok.has _ (.inl k)
    · exact I.ok.has _ (.inr k)
  refine wpAny_comprehension_free (use := use) rfl hs (closure_ok hfree) ok.kind (fun y hy e => by rw [ok.uniq y hy, e])
    (thn (hi.run pins s σ H _ I h) fun xv s1 hx => thn hx fun itv s2 h2 => ?_)
  obtain ⟨it, fp, tn, J, H2, e, I2, T, st2, f2, q⟩ := h2
  subst e
  refine wpAny_newObj_type (newEnv_comp ?_) (by show 0 ≤ sizeLine; decide)
  generalize hD : s2.heap.objs.size = D
  have hDn : H2 D = none := I2.hok.fresh (Nat.le_of_eq hD)
  obtain ⟨W, ⟨m0, w0⟩, turn⟩ := q D hDn
  -- the new list
  generalize hs3 : ({ s2 with heap := s2.heap.push { cls := .type "list", data := .seq ([] : List Value).toArray } } : Shared) = s3
  have I3 : Inv X pins σ (upd H2 D (.lst [])) s3 := by
    rw [← hs3]
    refine I2.laid (t' := s2.toks) (fun b o e => Heap.get?_push_of_some _ e) (Nat.le_of_eq hD) ⟨Nat.zero_le _, [], 0, .nil, ?_⟩
    rw [← hD]
    exact Heap.get?_push_size _ rfl
  have h3 : s3.heap = s2.heap.push { cls := .type "list", data := .seq ([] : List Value).toArray } := by rw [← hs3]
  have sz : ∀ b ∈ fp, b < s2.heap.objs.size := fun b hb => by
    obtain ⟨o, e, _⟩ := T.obj _ _ st2 b hb
    exact Heap.lt_size e
  have f3 : ∀ b ∈ fp, FpOk X pins (upd H2 D (.lst [])) b ∧ b < s3.heap.objs.size := fun b hb => by
    have hlt := sz b hb
    refine ⟨⟨?_, (f2 b hb).2⟩, by rw [h3, Heap.size_push]; exact Nat.lt_succ_of_lt hlt⟩
    rw [upd_ne (by rw [← hD]; exact Nat.ne_of_lt hlt)]
    exact (f2 b hb).1
  have st3 : tn 0 s3.heap := T.keep _ _ _ st2 fun b _ o e => by rw [h3]; exact Heap.get?_push_of_some _ e
  have I4 := block_start I3 ok hN f3
  have hb3 : HotB p s3 (upd H2 D (.lst [])) (frs X.stack) fp := by
    obtain ⟨e, n, ne, nf, d⟩ := I3.pin p (List.mem_append_left _ hpn)
    refine ⟨e, n, fun z => ?_, fun z => ?_, hv⟩
    · rcases List.mem_cons.mp (I3.stkSub p.1 z) with q | q
      · exact ne q
      · exact nf q
    · exact (f3 p.1 z).1.2.2.2.2.2 p (List.mem_append_left _ hpn) rfl
  have pg := hg s3 (upd H2 D (.lst [])) s3.heap.objs.size (cellsFrom (s3.heap.objs.size + 1) scope.names (cloFrom X.env.cells scope.names [])) fp hb3
  have pt := ht s3 (upd H2 D (.lst [])) s3.heap.objs.size (cellsFrom (s3.heap.objs.size + 1) scope.names (cloFrom X.env.cells scope.names [])) fp
  have pe := he s3 (upd H2 D (.lst [])) s3.heap.objs.size (cellsFrom (s3.heap.objs.size + 1) scope.names (cloFrom X.env.cells scope.names [])) fp
  show codeAny _ _ (.compStart (.ListComp elt [⟨tg, iter, ifs, 0⟩] scope pos) 0 (.ref it) (.ref D) (compEnvC scope (cellsFrom (s3.heap.objs.size + 1) scope.names (cloFrom X.env.cells scope.names [])) s3.heap.objs.size X.env)) (compPost (model X.prog X.w) X.A X.xe use Qf (.ref D) s3.heap.objs.size) { s3 with heap := pushCells (s3.heap.push { cls := .type "dict", data := .dict #[] }) scope.names }
  have nfp : ∀ b ∈ fp, (upd H2 D (.lst [])) b = none := fun b hb => (f3 b hb).1.1
  generalize hce : compEnvC scope (cellsFrom (s3.heap.objs.size + 1) scope.names (cloFrom X.env.cells scope.names [])) s3.heap.objs.size X.env = ce at I4 pg pt pe ⊢
  have cL : ce.locals = s3.heap.objs.size := by subst hce; rfl
  generalize hH3 : upd H2 D (.lst []) = H3 at I3 I4 pg pt pe w0 nfp f3 hb3
  generalize hs4 : ({ s3 with heap := pushCells (s3.heap.push { cls := .type "dict", data := .dict #[] }) scope.names } : Shared) = s4 at I4 ⊢
  have st4 : tn 0 s4.heap := T.keep _ _ _ st3 fun b _ o e => by rw [← hs4]; exact pushCells_keeps _ _ _ _ (Heap.get?_push_of_some _ e)
  have stat : ∀ {σ' : St} {H' : Hp} {s' : Shared}, Inv (X.blk s3 H3 scope ce fp) [] σ' H' s' → (∀ b ∈ fp, H' b = none) → ∀ b ∈ fp, FpOk (X.blk s3 H3 scope ce fp) [] H' b := fun {σ' H' s'} I' hn b hb =>
    ⟨hn b hb, (I'.ok.exf b hb).1, I'.ok.exfs b hb, .inl hb, fun x c e => (I'.ok.exf b hb).2 x c e, fun p hp => absurd (show p ∈ ([] : List (Addr × Obj)) ++ [] from hp) (by simp)⟩
  have loop : codeAny (model X.prog X.w) X.A (.compLoop (.ListComp elt [⟨tg, iter, ifs, 0⟩] scope pos) 0 (.ref it) (.ref D) ce) (compPost (model X.prog X.w) X.A X.xe use Qf (.ref D) s3.heap.objs.size) s4 := by
    refine compLoop_any (fun n s' => ∃ i H', Inv (X.blk s3 H3 scope ce fp) [] (wipe σ (own.map (·.2))) H' s' ∧ tn i s'.heap ∧ (∀ b ∈ fp, H' b = none) ∧ W i n H') ?_ m0 ⟨0, H3, I4, st4, nfp, w0⟩
    rintro n s5 ⟨i, H5, I5, st5, n5, w5⟩
    rcases turn i n H5 w5 with ⟨stop, qq⟩ | ⟨go, Nx, hNx, step⟩
    · have td := T.done (X.blk s3 H3 scope ce fp) rfl rfl rfl i [] s5 _ H5 (fun _ _ => False) (hb3.at hh I5) hb3.nofp I5 (stat I5 n5) st5 stop
      refine thnF td fun r s6 ⟨hr, I6⟩ => ?_
      subst hr
      -- back in the def's context
      have I7 : Inv X pins σ H5 s6 := I3.call' (ch := fp) I6.os I6.base I6.hok I6.bare fun b hb => ⟨(f3 b hb).1.2.2.2.1, (f3 b hb).1.2.1, (f3 b hb).1.2.2.2.2.1, (f3 b hb).1.2.2.2.2.2⟩
      have nC : H5 s3.heap.objs.size = none := by
        have z : H5 ce.locals = none := I6.free
        rw [cL] at z
        exact z
      obtain ⟨m, hn, _⟩ := I6.loc
      have hn : s6.heap.Ns ce.locals m := hn
      rw [cL] at hn
      exact hRR D s3.heap.objs.size s6 m H5 I7 qq hn (I3.fpOk (Nat.le_refl _) nC)
    · have ti := T.item (X.blk s3 H3 scope ce fp) rfl rfl rfl i [] s5 _ H5 (fun _ _ => False) I5 (stat I5 n5) st5 go
      refine thnF ti fun r s6 ⟨u, hr, h6⟩ => ?_
      subst hr
      refine thnF h6 fun _ s7 ⟨x, H7, I7, r7, y7, st7, n7⟩ => ?_
      have I7' := I7.pinned (stat I7 n7) (T.obj _ _ st7)
      refine thnF (pg.run _ s7 _ H7 x u _ I7' r7 (step x H7 y7)) fun _ s8 ⟨σ8, H8, I8, hw8, q8⟩ => ?_
      refine thnF (pt.run _ s8 σ8 H8 _ I8 q8) fun b s9 ⟨H9, I9, q9⟩ => ?_
      -- the turn's end
      have fin : ∀ {s' : Shared} {H' : Hp}, Inv (X.blk s3 H3 scope ce fp) ([] ++ pinsAt fp s7.heap) σ8 H' s' → Nx H' → ∃ m, m < n ∧ ∃ i H', Inv (X.blk s3 H3 scope ce fp) [] (wipe σ (own.map (·.2))) H' s' ∧ tn i s'.heap ∧ (∀ b ∈ fp, H' b = none) ∧ W i m H' := fun {s' H'} I' nx => by
        obtain ⟨m', hm, w'⟩ := hNx H' nx
        have pin' : ∀ b ∈ fp, ∀ o, s7.heap.get? b = some o → s'.heap.get? b = some o ∧ H' b = none := fun b hb o e =>
          let z := I'.pin (b, o) (List.mem_append_right _ (List.mem_append_right _ (mem_pinsAt hb e)))
          ⟨z.1, z.2.1⟩
        have hl : (wipe σ (own.map (·.2))).length = σ8.length := by rw [← hw8, wipe_length]
        refine ⟨m', hm, i + 1, H', (I'.unpinned (pins := [])).weak hl (fun j v e => ?_), T.keep _ _ _ st7 fun b hb o e => (pin' b hb o e).1, fun b hb => ?_, w'⟩
        · rw [← hw8] at e
          exact (wipe_some e).1
        · obtain ⟨o, e, _⟩ := T.obj _ _ st7 b hb
          exact (pin' b hb o e).2
      cases b with
      | false =>
        simp only [Bool.false_eq_true, if_false] at q9 ⊢
        exact fin I9 q9
      | true =>
        simp only [if_true] at q9 ⊢
        refine thnF (pe.run _ s9 σ8 H9 _ I9 q9) fun z s10 ⟨yv, H10, I10, r10, acc, hD10, hz10, nx⟩ => ?_
        exact app_ok (X := X.blk s3 H3 scope ce fp) I10 hD10 hz10 r10 fun s11 I11 => fin I11 nx
  exact codeAny_compStart_list loop (T.self X.A 0 _ _ _ st4 loop)

theorem pe_lcH {p : Addr × Obj} {elt tg iter : Expr} {ifs : List Expr} {scope : Scope} {own : List (Str × Nat)} {pos : Pos} {wi : TI} {g : TG} {tt : TT} {te : TE} (hh : X.A.handled = some (.ref p.1)) (hv : ∃ vs : Array Value, p.2.data = .fields vs ∧ vs[2]? = some .none) (hpn : p ∈ X.pn) (hN : X.N.Nodup) (hi : PIH X tg iter wi) (ok : BlkOk X.N X.env.scope scope own)
    (hg : ∀ (s : Shared) (H : Hp) (C : Addr) (cl : List (Str × Addr)) (fp : List Addr), HotB p s H (frs X.stack) fp → PG (X.blk s H scope (compEnvC scope cl C X.env) fp) tg g) (ht : ∀ (s : Shared) (H : Hp) (C : Addr) (cl : List (Str × Addr)) (fp : List Addr), PTs (X.blk s H scope (compEnvC scope cl C X.env) fp) ifs tt)
    (he : ∀ (s : Shared) (H : Hp) (C : Addr) (cl : List (Str × Addr)) (fp : List Addr), PE (X.blk s H scope (compEnvC scope cl C X.env) fp) elt te) (hs : ∀ x, foldedSetIterable iter X.env x = pure x := by intro _; rfl) :
    PE X (.ListComp elt [⟨tg, iter, ifs, 0⟩] scope pos) (tLc wi g tt te (own.map (·.2))) := by
  refine ⟨fun pins s σ H Q I h => ?_⟩
  rw [eval_ListComp]
  refine lc_coreH hh hv hpn hN I hi ok hg ht he hs h fun D C s' m H' I' q hn f => ⟨m, hn, fun h'' sb => ?_⟩
  obtain ⟨f0, f1, f2, f3, f4, f5⟩ := f
  exact ⟨.ref D, H', I'.turned (t' := s'.toks) (fun b o hb e => (sb.2 b hb).trans e) f0 f1 f3 f4 f5, rfl, q⟩
theorem ps_setLcH {p : Addr × Obj} {i : Nat} {y : Str} {py : Pos} {elt tg iter : Expr} {ifs : List Expr} {scope : Scope} {own : List (Str × Nat)} {pos spos : Pos} {wi : TI} {g : TG} {tt : TT} {te : TE} (hh : X.A.handled = some (.ref p.1)) (hv : ∃ vs : Array Value, p.2.data = .fields vs ∧ vs[2]? = some .none) (hpn : p ∈ X.pn) (hN : X.N.Nodup) (hy : X.N[i]? = some y) (hyl : X.env.scope.names.lookup y = some .local)
    (hsw : swapsWith (.ListComp elt [⟨tg, iter, ifs, 0⟩] scope pos) (some (.Name y py)) spos.line X.env = pure true) (hi : PIH X tg iter wi) (ok : BlkOk X.N X.env.scope scope own)
    (hg : ∀ (s : Shared) (H : Hp) (C : Addr) (cl : List (Str × Addr)) (fp : List Addr), HotB p s H (frs X.stack) fp → PG (X.blk s H scope (compEnvC scope cl C X.env) fp) tg g) (ht : ∀ (s : Shared) (H : Hp) (C : Addr) (cl : List (Str × Addr)) (fp : List Addr), PTs (X.blk s H scope (compEnvC scope cl C X.env) fp) ifs tt)
    (he : ∀ (s : Shared) (H : Hp) (C : Addr) (cl : List (Str × Addr)) (fp : List Addr), PE (X.blk s H scope (compEnvC scope cl C X.env) fp) elt te) (hs : ∀ x, foldedSetIterable iter X.env x = pure x := by intro _; rfl) :
    PS X (.Assign [.Name y py] (.ListComp elt [⟨tg, iter, ifs, 0⟩] scope pos) spos) (tAsg (tLc wi g tt te (own.map (·.2))) (gName i)) := by
  refine ⟨fun pins s σ H D I h => ?_⟩
  rw [exec_Assign_Name_used _ _ _ _ hsw]
  refine wpAny_bind (wpAny_standAt (wpAny_bind ?_))
  show wpAny _ X.A (do let _ ← comprehension (.ListComp elt [⟨tg, iter, ifs, 0⟩] scope pos) scope X.env (firstIterPos [⟨tg, iter, ifs, 0⟩] pos) (newList []) false (eval iter X.env) (some (assign (.Name y py) X.env))) _ _ s
  have h : tLc wi g tt te (own.map (·.2)) σ H (fun x H1 => gName i x σ H1 D.nx) := h
  refine wpAny_bind (thn (lc_coreH (Qf := fun _ s' => SP X pins D .next s') hh hv hpn hN I hi ok hg ht he hs h fun L C s' m H' I' q hn f => ?_) fun _ s' hq => wpAny_pure (wpAny_pure hq))
  show wpAny _ _ (assign (.Name y py) X.env (.ref L)) _ _ _
  refine wpAny_assign_Name (store_ok2 (v := V.ref L) I' hN hy (.inl hyl) rfl (fun s2 I2 ⟨a, sb, ha⟩ => ?_) (.inr hyl))
  obtain ⟨f0, f1, f2, f3, f4, f5⟩ := f
  have haC : C ≠ a := by
    rcases ha with z | z
    · rw [z]; exact f1
    · exact fun e => f4 y a z e.symm
  refine ⟨m, hn.sameBut sb haC, fun h3 sb3 => ?_⟩
  exact ⟨_, H', I2.turned (t' := s2.toks) (fun b o hb e => (sb3.2 b hb).trans e) f0 f1 f3 f4 f5, q⟩
end
end DE
/-! DET: try: return .. except X as e: return kind(e) -/
namespace DE
open PySem PySem.Spec PyProof.Rows L2 HotX
/-- a def called where p is handled -/
structure FnP (P : Program) (w : World) (K : PySem.W.Frag) (mg : Str → Option Value) (base : Heap) (CX : CXT) (k : Nat) (f : Addr) (fd : FuncData) (ps : List Str) (sp : (Addr × Obj) → Sp) : Prop where
  len : ∀ p vs H Q E, sp p vs H Q E → vs.length = ps.length
  run : ∀ (A : Around) (outer : List PySem.Env) (s : Shared) (H : Hp) (args : Args) (us : List Value) (vs : List V) (Q : VK) (E : XK) (p : Addr × Obj), L2H.RoomH k A → L2H.Hot1 A p → L2H.PinOk outer H s p → Env0 P w K mg base A outer s H → BindsTo s fd args (ps.zip us) → Vals vs us → sp p vs H Q E →
    codeAny (model P w) A (.call (.ref f) args) (CR CX outer P w H s Q E) s
theorem fn_ofP {CX : CXT} {P : Program} {w : World} {K : PySem.W.Frag} {mg : Str → Option Value} {base : Heap} {k : Nat} {f : Addr} {name qual : Str} {params : Arguments} {body : List Stmt} {scope : Scope} {dV kV doc pm cdv ct oc : Value} {an od : Option Addr}
    {osl : Array (Option Value)} {N ps : List Str} {sp : (Addr × Obj) → Sp} (lk : K.lookup f = some ⟨oc, od, .func (PySem.W.fnOf name qual params body scope dV kV doc pm an cdv ct), osl⟩) (hcd : PySem.W.codeIn K cdv qual = true) (S : FnScope N ps scope)
    (len : ∀ p vs H Q E, sp p vs H Q E → vs.length = ps.length)
    (hbody : ∀ (A : Around) (outer : List PySem.Env) (s : Shared) (H : Hp) (vs : List V) (Q : VK) (E : XK) (p : Addr × Obj), L2H.Hot1 A p → L2H.RoomH k (A.deeper (envOfC qual scope s.heap.objs.size f cdv)) → sp p vs H Q E →
      ∃ t, PSs (L2H.cxH CX P w K mg base N qual scope f cdv A outer s H E p) body t ∧ t { nx := fun _ H' => Q .non H', rt := Q } (L2.start N vs) H) :
    FnP P w K mg base CX (k + 1) f (PySem.W.fnOf name qual params body scope dV kV doc pm an cdv ct) ps sp := by
  refine ⟨len, fun A outer s H args us vs Q E p hr hot hpin e0 hb r hsp => ?_⟩
  have hl := len _ _ _ _ _ hsp
  have KX : K.In s.heap := e0.mod.kin.keeps fun b o e => (e0.bs b o e).1
  have lim : s.heap.NoLimit := e0.mod.nolimit.keeps fun b o e => (e0.bs b o e).1
  have hkind : ∀ y ∈ ps.zip us, scope.names.lookup y.1 = some .local ∨ (scope.names.lookup y.1 = some .cell ∧ ((cellsFrom (s.heap.objs.size + 1) scope.names []).lookup y.1).isSome = true) := fun ⟨n, v⟩ hy => by
    rcases S.par n (List.of_mem_zip hy).1 with q | q
    · exact .inl q
    · exact .inr ⟨q, PySem.W.cellsFrom_some _ _ _ (.inl q)⟩
  refine codeAny_call_function hr.depth (KX _ _ lk) rfl S.co S.gen rfl (PySem.W.codeRec_of KX hcd) (hb _ _ _ _ ?_)
  refine wpAny_newFunctionEnv_cells S.kind hkind fun env he s1 x => ?_
  subst he
  refine ⟨lim.keeps x.toInCall.keep, codeAny_func ?_⟩
  obtain ⟨t, ht, hq⟩ := hbody A outer s H vs Q E p hot (hr.deeper _) hsp
  have I : Inv (L2H.cxH CX P w K mg base N qual scope f cdv A outer s H E p) [] (L2.start N vs) H s1 := L2H.inv_startH S hpin e0 hl r x
  refine wpAny_mono (ht.run [] s1 (L2.start N vs) H _ I hq) (fun fl s' hs => ?_) fun e s' hs => hs
  have fin : ∀ {σ' : St} {H' : Hp} {v : V} {u : Value}, Inv (L2H.cxH CX P w K mg base N qual scope f cdv A outer s H E p) [] σ' H' s' → RelV v u → Q v H' → CE outer P w H s Q u s' :=
    fun {σ' H' v u} J rv q => ⟨v, H', J.os, J.bare, J.base, J.hok, rv, q⟩
  cases fl with
  | ret u =>
    obtain ⟨v, σ', H', J, rv, q⟩ := hs
    exact fin J rv q
  | next =>
    obtain ⟨σ', H', J, q⟩ := hs
    exact fin (v := V.non) (u := Value.none) J rfl q
  | brk =>
    obtain ⟨_, _, _, q⟩ := hs
    exact False.elim q
  | cont =>
    obtain ⟨_, _, _, q⟩ := hs
    exact False.elim q
section
variable {X : Cx} {CX : CXT} {k : Nat} {f C : Addr} {fd : FuncData} {ps : List Str} {sp : (Addr × Obj) → Sp} {E : XK} {x m : Str} {q pos apos : Pos} {e o : Expr} {es : List Expr} {ta : TE} {t : TA} {p : Addr × Obj}
theorem pe_callP (F : FnP X.prog X.w X.K X.mg X.base CX k f fd ps sp) (hr : L2H.RoomH k X.A) (hot : L2H.Hot1 X.A p) (hp : p ∈ X.pn) (hg : Gl X x) (hm : X.mg x = some (.ref f)) (hk : PySem.W.keepIn X.K (.ref f) = true) (hb : Binds X.K fd ps []) (hx : ∀ σ, PassesAt CX X σ E)
    (ha : PA X (e :: es) t) (hdb : (x == ("__debug__" : Str)) = false := by decide) (he : starEach (e :: es) X.env = (false, eval e X.env) :: starEach es X.env := by rfl) (hpl : (backTo pos (starEach es X.env)).any (·.1) = false := by rfl) :
    PE X (.Call (.Name x q) (e :: es) [] pos) (fun σ H Q => t σ H fun vs H1 => sp p vs H1 Q E) := by
  refine ⟨fun pins s σ H Q I h => ?_⟩
  refine wpAny_Call_Name_kw (ld_glob I hg hm ?_ hdb)
  refine PySem.W.callWith_K (h₀ := X.base) I.ok.mod.kin hk (thn (ha.run pos pins s σ H _ I h) fun us s1 ⟨vs, H1, I1, r, q⟩ => ⟨I1.kIn, ?_⟩) he hpl
  have hl : us.length = ps.length := by rw [← r.length]; exact F.len _ _ _ _ _ q
  have b := hb s1 us I1.kIn (by rw [List.append_nil]; exact hl)
  rw [List.append_nil] at b
  have P1 := I1.pin p (List.mem_append_left _ hp)
  have hpin : L2H.PinOk X.stack H1 s1 p := ⟨P1.1, P1.2.1, fun hm => (List.mem_cons.mp (I1.stkSub p.1 hm)).elim P1.2.2.1 P1.2.2.2.1, P1.2.2.2.2⟩
  refine wpAny_call (codeAny_mono (F.run X.A X.stack s1 H1 ⟨us, []⟩ us vs Q E p hr hot hpin I1.env0 b r q) fun r s' hq => ?_)
  cases r with
  | error e => exact hx σ pins H1 s1 e s' I1 hq
  | ok fl =>
    cases fl with
    | ret u => exact I1.after hq
    | next => exact False.elim hq
    | brk => exact False.elim hq
    | cont => exact False.elim hq
end
/-! ### isinstance of the handled exception -/
section
variable {X : Cx} {ca : Nat → Addr} {W : WX} {e : Expr} {m : EM} {pos p1 p2 : Pos}
theorem call_isP {p : Addr × Obj} {D : Addr} (C : ExcC X.K D) (hp : p ∈ X.pn) (hz : Zc (.ref D) none p.2) (hf : ∃ vs, p.2.data = .fields vs) : CallR X (.builtin "isinstance") (rIsE X.K D p.1) := by
  intro pins s σ H xs us Q I r h
  obtain ⟨c, cv, b, rfl, hcv, e, q⟩ := h
  cases r with
  | cons rx rr =>
    cases rr with
    | cons rt rr =>
      cases rr
      cases rx
      have ec := hcv _ rt
      subst ec
      obtain ⟨hget, _⟩ := I.pin p (List.mem_append.mpr (.inl hp))
      obtain ⟨vs, hv⟩ := hf
      have J : PySem.W.InstAt s.heap p.1 p.2 D none := by
        obtain ⟨a, oc, od, oda, osl⟩ := p
        obtain ⟨h1, h2⟩ := hz
        dsimp only at h1 h2 hv hget
        subst h1 h2 hv
        exact ⟨hget, rfl, rfl, trivial⟩
      exact PySem.W.kia_one (PySem.W.handS_kitx_exc C.hg C.hk C.hs C.hd C.ha C.hn C.ht C.hm) I.kIn J e (fun z => nomatch z) fun tk => ⟨.bl b, H, I.kept (t' := tk) fun _ _ z => z, rfl, q⟩
/-- the answer b of isinstance(e, X) for an exception of the class c at a -/
def isE (c : Nat) (a : Addr) (b : Bool) (m : EM) : EM := fun env s => (m env s).bind fun d s => match d with
  | .exc c' a' => if c' = c ∧ a' = a then .ok (.bl b) s else .bad
  | _ => .bad
theorem de_isE {p : Addr × Obj} {c : Nat} {b : Bool} {T : Str} {C : Addr} (hT : X.mg T = some (.ref C)) (hC : ExcC X.K (ca c)) (hp : p ∈ X.pn) (hz : Zc (.ref (ca c)) none p.2) (hf : ∃ vs, p.2.data = .fields vs) (hk : PySem.W.kitOne X.K (.ref (ca c)) (.ref C) = some b) (hm : X.mg "isinstance" = none) (he : DE X ca W e m)
    (hg : Gl X "isinstance" := by rfl) (hgT : Gl X T := by rfl) (hTd : (T == ("__debug__" : Str)) = false := by decide)
    (h1 : starEach (.Name T p2 :: []) X.env = (false, eval (.Name T p2) X.env) :: starEach [] X.env := by rfl) (h2 : starEach (e :: [.Name T p2]) X.env = (false, eval e X.env) :: starEach [.Name T p2] X.env := by rfl) (hpl : (backTo pos (starEach [.Name T p2] X.env)).any (·.1) = false := by rfl) :
    DE X ca W (.Call (.Name "isinstance" p1) [e, .Name T p2] [] pos) (isE c p.1 b m) :=
  PE.imp (pe_callB (call_isP hC hp hz hf) hg hm boot_isinstance (pa_cons he (pa_cons (pe_glob (v := .ref C) hgT hT rfl hTd) pa_nil h1) h2) (by decide) (by decide) h2 hpl) fun σ H Q ⟨L, env, s, S, e, q⟩ =>
    ⟨L, env, s, S, e, q.bind.imp fun v H1 ⟨L1, s1, d, k1, S1, r1, q1⟩ => by
      split at q1
      · split at q1
        · rename_i hh
          simp only [RD] at r1
          subst r1
          exact ⟨.ref C, .ref C, b, by rw [hh.2], fun u hu => hu, hk, q1 L1 _ H1 Keep.refl S1 rfl⟩
        · exact q1.elim
      · exact q1.elim⟩
theorem de_isEV {p : Addr × Obj} {c : Nat} (hC : ExcC X.K (ca c)) (hp : p ∈ X.pn) (hz : Zc (.ref (ca c)) none p.2) (hf : ∃ vs, p.2.data = .fields vs) (hk : PySem.W.kitOne X.K (.ref (ca c)) (.type "ValueError") = some true) (hm : X.mg "isinstance" = none) (hT : X.mg "ValueError" = none) (he : DE X ca W e m)
    (hg : Gl X "isinstance" := by rfl) (hgT : Gl X "ValueError" := by rfl)
    (h1 : starEach (.Name "ValueError" p2 :: []) X.env = (false, eval (.Name "ValueError" p2) X.env) :: starEach [] X.env := by rfl) (h2 : starEach (e :: [.Name "ValueError" p2]) X.env = (false, eval e X.env) :: starEach [.Name "ValueError" p2] X.env := by rfl) (hpl : (backTo pos (starEach [.Name "ValueError" p2] X.env)).any (·.1) = false := by rfl) :
    DE X ca W (.Call (.Name "isinstance" p1) [e, .Name "ValueError" p2] [] pos) (isE c p.1 true m) :=
  PE.imp (pe_callB (call_isP hC hp hz hf) hg hm boot_isinstance (pa_cons he (pa_cons (pe_bltn (v := .ty "ValueError") hgT hT (by decide +kernel) rfl (by decide) (by decide)) pa_nil h1) h2) (by decide) (by decide) h2 hpl) fun σ H Q ⟨L, env, s, S, e, q⟩ =>
    ⟨L, env, s, S, e, q.bind.imp fun v H1 ⟨L1, s1, d, k1, S1, r1, q1⟩ => by
      split at q1
      · split at q1
        · rename_i hh
          simp only [RD] at r1
          subst r1
          exact ⟨.ty "ValueError", .type "ValueError", true, by rw [hh.2], fun u hu => hu, hk, q1 L1 _ H1 Keep.refl S1 rfl⟩
        · exact q1.elim
      · exact q1.elim⟩
end

/-! ### the law's kind of a refusal -/
/-- what is known of the five refusals 1 to 5 under 0 -/
structure ExK (K : PySem.W.Frag) (ca : Nat → Addr) : Prop where
  c : ∀ i, 1 ≤ i → i ≤ 5 → ExcC K (ca i)
  ko : ∀ i j, 1 ≤ i → i ≤ 5 → 1 ≤ j → j ≤ 5 → PySem.W.kitOne K (.ref (ca i)) (.ref (ca j)) = some (decide (i = j))
  kv : ∀ i, 1 ≤ i → i ≤ 5 → PySem.W.kitOne K (.ref (ca i)) (.type "ValueError") = some true
  xm : ∀ i, 1 ≤ i → i ≤ 5 → PySem.W.exmOne K (.ref (ca i)) (.ref (ca 0)) = some true
def kw (c : Nat) : Str := match c with | 1 => "letters" | 2 => "pattern" | 3 => "great" | 4 => "text" | _ => "room"
def kindD (c : Nat) : D := .lst [.str (kw c)]
def itL (m : EM) : IM := fun env s => (m env s).bind fun d s => match d with
  | .lst xs => .ok (xs, none) s
  | _ => .bad
section
variable {X : Cx} {ca : Nat → Addr} {W : WX} {e tg : Expr} {m : EM}
theorem PIH.imp {X : Cx} {tg e : Expr} {t t' : TI} (h : PIH X tg e t) (i : ∀ σ H Q, t' σ H Q → t σ H Q) : PIH X tg e t' := ⟨fun pins s σ H Q I q => h.run pins s σ H Q I (i σ H Q q)⟩
theorem dih_list (h : DE X ca W e m) : PIH X tg e (tI X.K ca W (itL m)) := PIH.imp (pi_listH h) fun σ H Q ⟨L, env, s, S, e, p⟩ =>
  ⟨L, env, s, S, e, p.bind.imp fun v H1 ⟨L1, s1, d, k1, S1, r1, p1⟩ => by
    split at p1
    · simp only [RD] at r1
      obtain ⟨a, vs, rfl, f, rs⟩ := r1
      exact ⟨a, rfl, ⟨vs, f.sq⟩, p1 L1 _ H1 Keep.refl S1 (walks_list f rs)⟩
    · exact p1.elim⟩
end
noncomputable def m_kind (c : Nat) (a : Addr) : SM :=
  (sSeq (sSet 1 (eLst (aCons (eTup (aCons (eC (.str "letters")) (aCons (isE c a (decide (c = 1)) (eVar 0)) aNil))) (aCons (eTup (aCons (eC (.str "pattern")) (aCons (isE c a (decide (c = 2)) (eVar 0)) aNil))) aNil))))
  (sSeq (sSet 1 (e2 addD (eVar 1) (eLst (aCons (eTup (aCons (eC (.str "great")) (aCons (isE c a (decide (c = 3)) (eVar 0)) aNil))) (aCons (eTup (aCons (eC (.str "text")) (aCons (isE c a (decide (c = 4)) (eVar 0)) aNil))) aNil)))))
  (sSeq (sSet 1 (eLc (itL (e2 addD (eVar 1) (eLst (aCons (eTup (aCons (eC (.str "room")) (aCons (isE c a (decide (c = 5)) (eVar 0)) aNil))) aNil)))) (.two 2 3) [2, 3] (tVal (eVar 3)) (eVar 2)))
  (sRet (e2 mulD (eVar 1) (eCall intD (aCons (eAnd (e2 (eqD false) (eCall lenD (aCons (eVar 1) aNil)) (eC (.int 1))) (isE c a true (eVar 0))) aNil)))))))
theorem kind_eval (c : Nat) (a : Addr) (s : Store) (h1 : 1 ≤ c) (h5 : c ≤ 5) : pureRet (bodyF 4 (m_kind c a)) [.exc c a] s = .ok (kindD c) s := by
  have hc : c = 1 ∨ c = 2 ∨ c = 3 ∨ c = 4 ∨ c = 5 := by omega
  rcases hc with rfl | rfl | rfl | rfl | rfl <;>
    simp [pureRet, bodyF, m_kind, env0, sSeq, sSet, eLst, aCons, aNil, eTup, eC, isE, eVar, R.bind, R.bindS, RS.bind, LINE, e2, addD, rdL, line_eq, eLc, itL, lcD, finL, setT, wipeE, tVal, sRet, mulD, eCall, intD, eAnd, eqD, res, frz, sub, lenD, rdS, layD, depD, eqv, pyOf, PyData.eqv, kindD, kw, repL, subs, BIG]
end DE
/-! DEU: the body of the law's kind, try .. except -/
namespace DE
open PySem PySem.Spec PyProof.Rows L2 HotX
section
variable {X : Cx} {ca : Nat → Addr} {W : WX} {tg iter elt : Expr} {ifs : List Expr} {pos spos py : Pos}
variable {scope : Scope} {own : List (Str × Nat)} {t : Tgt} {tt : TM} {em : EM} {im : IM}
theorem ds_setLcH {p : Addr × Obj} (i : Nat) {y : Str} (hot : L2H.Hot1 X.A p) (hpn : p ∈ X.pn) (hN : X.N.Nodup) (hi : PIH X tg iter (tI X.K ca W im)) (ok : BlkOk X.N X.env.scope scope own) (hv : inT (own.map (·.2)) t)
    (hg : ∀ (s : Shared) (H : Hp) (C : Addr) (cl : List (Str × Addr)) (fp : List Addr), HotB p s H (frs X.stack) fp → PG (X.blk s H scope (compEnvC scope cl C X.env) fp) tg (gT X.K t)) (ht : Blk X scope fun Y => DTs Y ca W0 ifs tt) (he : Blk X scope fun Y => DE Y ca W0 elt em)
    (hy : X.N[i]? = some y := by rfl) (hyl : X.env.scope.names.lookup y = some .local := by rfl) (hsw : swapsWith (.ListComp elt [⟨tg, iter, ifs, 0⟩] scope pos) (some (.Name y py)) spos.line X.env = pure true := by exact sw_true rfl rfl rfl (by decide +kernel))
    (hs : ∀ x, foldedSetIterable iter X.env x = pure x := by intro _; rfl) : DS X ca W (.Assign [.Name y py] (.ListComp elt [⟨tg, iter, ifs, 0⟩] scope pos) spos) (sSet i (eLc im t (own.map (·.2)) tt em)) :=
  PS.imp (ps_setLcH (g := gT X.K t) (tt := tT X.K ca W0 tt) (te := tE X.K ca W0 em) hot.1 hot.2 hpn hN hy hyl hsw hi ok hg ht he hs) fun T σ H ⟨L, env, s, S, e, p⟩ =>
    lc_of hv S e (lc_post (p.ofR.imp fun v H1 ⟨L1, s1, d, k1, S1, r1, p1⟩ => p1 L1 _ H1 Keep.refl S1 ((e.mono k1.mono).set r1)))
theorem tg_twoH {p : Addr × Obj} (i j : Nat) {s0 : Shared} {H0 : Hp} {ce : PySem.Env} {fp : List Addr} {x y : Str} {p1 p2 : Pos} {k : Nat} (hh : X.A.handled = some (.ref p.1)) (b : HotB p s0 H0 (frs X.stack) fp) (hN : X.N.Nodup) (hi : X.N[i]? = some x := by rfl) (hj : X.N[j]? = some y := by rfl)
    (hx : Loc (X.blk s0 H0 scope ce fp).env.scope x := by first | exact Or.inl rfl | exact Or.inr rfl) (hf : (X.blk s0 H0 scope ce fp).fn x = true ∨ (X.blk s0 H0 scope ce fp).env.scope.names.lookup x = some .local := by first | exact .inl rfl | exact .inr rfl | assumption)
    (hy : Loc (X.blk s0 H0 scope ce fp).env.scope y := by first | exact Or.inl rfl | exact Or.inr rfl) (hfy : (X.blk s0 H0 scope ce fp).fn y = true ∨ (X.blk s0 H0 scope ce fp).env.scope.names.lookup y = some .local := by first | exact .inl rfl | exact .inr rfl | assumption) : PG (X.blk s0 H0 scope ce fp) (.Tuple [.Name x p1, .Name y p2] k pos) (gT X.K (.two i j)) :=
  pg_tupH b hh (pgs_cons (pg_name hN hi hx hf) (pgs_cons (pg_name hN hj hy hfy) pgs_nil))
end
theorem huH {k : Nat} {A : Around} (hr : L2H.RoomH k A) : A.units + 200 < cLine := by have := hr.un; omega
/-! ### its promise -/
def spKind (K : PySem.W.Frag) (ca : Nat → Addr) : (Addr × Obj) → Sp := fun p vs H Q _ => ∃ L s c, 1 ≤ c ∧ c ≤ 5 ∧ vs = [.ref p.1] ∧ L2N.Zn (.ref (ca c)) none p.2 ∧ SR K ca L s H ∧ ∀ L' v H', Keep L H L' H' → SR K ca L' s H' → RD K L' H' (kindD c) v → Q v H'
section
variable {P : Program} {w : World} {K : PySem.W.Frag} {mg : Str → Option Value} {base : Heap} {ca : Nat → Addr}
theorem fn_kind {x qual : Str} {st : Stmt} {f : Addr} {fd : FuncData} {N : List Str} {nm : Str} {k : Nat} (hn : N.length = 4) (F : Fun K x qual st f fd) (S : FnScope N [nm] (defScope st))
    (hbody : ∀ (X : Cx) (p : Addr × Obj) (c : Nat), (∃ cdv A outer s H E, X = L2H.cxH (L2N.CX P w) P w K mg base N qual (defScope st) f cdv A outer s H E p) → L2H.RoomH k X.A → L2H.Hot1 X.A p → p ∈ X.pn → 1 ≤ c → c ≤ 5 → Zc (.ref (ca c)) none p.2 → DSs X ca W0 (defBody st) (m_kind c p.1)) :
    FnP P w K mg base (L2N.CX P w) (k + 1) f fd [nm] (spKind K ca) := by
  obtain ⟨oc, od, kV, doc, pm, an, cdv, ct, osl, rfl, lk, hcd⟩ := F.ex
  refine fn_ofP lk hcd S (fun p vs H Q E h => ?_) (fun A outer s H vs Q E p hot hr h => ?_)
  · obtain ⟨L, s, c, _, _, rfl, _⟩ := h
    rfl
  · obtain ⟨L, s', c, h1, h5, rfl, hz, SS, q⟩ := h
    have hsp : spOf K ca 1 (pureRet (bodyF 4 (m_kind c p.1))) [.ref p.1] H Q (fun _ _ _ => False) := by
      refine ⟨L, [.exc c p.1], s', rfl, SS, .cons ?_ .nil, ?_⟩
      · simp only [RD]
      · rw [kind_eval c p.1 s' h1 h5]
        exact q
    obtain ⟨L2, ds, s2, hd, S2, r2, p2⟩ := sp_pure _ _ _ _ hsp
    refine ⟨_, hbody _ p c ⟨cdv, A, outer, s, H, E, rfl⟩ hr hot (List.mem_singleton.mpr rfl) h1 h5 hz.zc, L2, env0 N.length ds, s2, S2, er_start r2, ?_⟩
    rw [hn]
    unfold bodyF at p2
    cases q : m_kind c p.1 (env0 4 ds) s2 with
    | next env' s1 =>
      rw [q] at p2
      exact fun L' σ' H' k' S' _ => p2 L' .non H' k' S' rfl
    | brk env s => rw [q] at p2; exact p2.elim
    | cnt env s => rw [q] at p2; exact p2.elim
    | ret d s => rw [q] at p2; exact p2
    | exc c s => rw [q] at p2; exact p2
    | bad => rw [q] at p2; exact p2.elim
end
/-! ### try: .. except X as e: return kind(e) -/
def WL (n : Nat) (W : WX) : WX := fun c d _ H => ∀ σ', σ'.length = n → W c d σ' H
theorem wid_WL {n : Nat} {W : WX} : Wid (WL n W) := fun _ _ _ _ _ h => h
theorem takes_WL {X : Cx} {W : WX} (t : L2N.Takes X W) : L2N.Takes X (WL X.N.length W) := fun u s' ⟨a, B, sI, pins, σ, H, cls, d, e, I, nb, up, sky, na, os, ag, w⟩ =>
  t u s' ⟨a, B, sI, pins, σ, H, cls, d, e, I, nb, up, sky, na, os, ag, w σ I.len⟩
def sTry (i : Nat) (m : SM) : SM := fun env s => if i < env.length then (match m env s with
  | .exc c s' => if 1 ≤ c ∧ c ≤ 5 then .ret (kindD c) s' else .bad
  | r => r) else .bad
def tKind (K : PySem.W.Frag) (ca : Nat → Addr) (i : Nat) (a : Addr) (c : Nat) : TS := fun D σ H => 1 ≤ c ∧ c ≤ 5 ∧ σ[i]? = some (some (.ref a)) ∧ ∃ L s, SR K ca L s H ∧ ∀ L' v H', Keep L H L' H' → SR K ca L' s H' → RD K L' H' (kindD c) v → D.rt v H'
section
variable {X : Cx} {ca : Nat → Addr} {W : WX} {m : SM} {pos p1 p2 p3 p4 : Pos}
/-- the suite -/
theorem suite_kind {i : Nat} {x n : Str} {j : Nat} {f a : Addr} {fd : FuncData} {nm : Str} {oe : Obj} {pn : List (Addr × Obj)} {c : Nat} (F : FnP X.prog X.w X.K X.mg X.base (L2N.CX X.prog X.w) 1 f fd [nm] (spKind X.K ca)) (hr : Room (j + 1) X.A) (hm : X.mg x = some (.ref f)) (hk : PySem.W.keepIn X.K (.ref f) = true) (hb : Binds X.K fd [nm] [])
    (hz : L2N.Zn (.ref (ca c)) none oe) (hv : ∃ vs, oe.data = .fields vs) (hg : Gl X x := by rfl) (hi : X.N[i]? = some n := by rfl) (hvs : Vis X.env.scope n := by first | exact Or.inl rfl | exact Or.inr (Or.inl rfl) | exact Or.inr (Or.inr rfl)) (hdb : (x == ("__debug__" : Str)) = false := by decide) (hd : (n == ("__debug__" : Str)) = false := by decide)
    (hcd : (n == ("__classdict__" : Str)) = false := by decide) (he : starEach [.Name n p2] X.env = [(false, eval (.Name n p2) X.env)] := by rfl) :
    PSs (X.suite a ((a, oe) :: pn)) [.Return (some (.Call (.Name x p1) [.Name n p2] [] p3)) p4] (tKind X.K ca i a c) := by
  have hot : L2H.Hot1 (X.suite a ((a, oe) :: pn)).A (a, oe) := ⟨rfl, by obtain ⟨vs, e⟩ := hv; exact ⟨vs, e, hz.2.2 vs e⟩⟩
  have hr' : L2H.RoomH 1 (X.suite a ((a, oe) :: pn)).A := ⟨by have := hr.dp; show X.A.depth + 3 * 1 + 5 < _; omega, by have := hr.un; show X.A.units + 16 * 1 + 200 < _; omega⟩
  have hv2 : PE (X.suite a ((a, oe) :: pn)) (.Name n p2) (tVar i) := pe_var hi hvs hd hcd
  have hc := pe_callP (X := X.suite a ((a, oe) :: pn)) (E := fun _ _ _ => False) (pos := p3) (q := p1) F hr' hot List.mem_cons_self hg hm hk hb (fun σ pins H s e s' I cx => by
    obtain ⟨_, _, _, _, _, _, _, _, _, _, _, _, z⟩ := cx
    exact z.elim) (pa_cons hv2 pa_nil he) hdb he (by rfl)
  refine PSs.imp (pss_one (ps_ret hc)) fun D σ H h => ?_
  obtain ⟨h1, h5, hs, L, s, S, q⟩ := h
  exact ⟨_, hs, L, s, c, h1, h5, rfl, hz, S, q⟩
theorem ds_try {x n : Str} (i : Nat) {body suite : List Stmt} {b₀ : Stmt} (hN : X.N.Nodup) (hs : X.stack = X.env :: X.outer) (hf : X.env.frame = some X.env.locals) (hm : X.mg x = some (.ref (ca 0))) (hW : Wid W) (tk : L2N.Takes X W) (ek : ExK X.K ca)
    (hsu : ∀ (a : Addr) (oe : Obj) (c : Nat) (pn : List (Addr × Obj)), L2N.Zn (.ref (ca c)) none oe → (∃ vs, oe.data = .fields vs) → PSs (X.suite a ((a, oe) :: pn)) (b₀ :: suite) (tKind X.K ca i a c))
    (hb : ∀ (W' : WX) (pn : List (Addr × Obj)) (xe : Value → Shared → Prop), Wid W' → L2N.Takes (X.tr pn xe) W' → PassesOwn (model X.prog X.w) X.A X.env xe → DSs (X.tr pn xe) ca W' body m)
    (hi : X.N[i]? = some n := by rfl) (hln : X.env.kindOf n = some .local := by rfl) (hg : Gl X x := by rfl) (hdb : (x == ("__debug__" : Str)) = false := by decide) :
    DS X ca W (.Try body [.ExceptHandler (some (.Name x p1)) (some n) (b₀ :: suite) p2] [] [] pos) (sTry i m) := by
  refine PS.imp (L2N.ps_try_as (c := .ref (ca 0)) (Wout := W) (ts := fun a cls d D σ H => ∃ c, cls = .ref (ca c) ∧ d = none ∧ tKind X.K ca i a c D σ H) (tb := fun W' => tS X.K ca (WL X.N.length W') m) hs hf hN hi hln ⟨hg, hdb, .inl hm⟩ tk
    (fun W' pn xe tk' ho => hb _ pn xe wid_WL (takes_WL (X := X.tr pn xe) tk') ho) (fun a oe cls d pn hz hv => ⟨fun pins s σ H D I h => ?_⟩)) fun D σ H h => ?_
  · obtain ⟨c, rfl, rfl, h⟩ := h
    exact (hsu a oe c pn hz hv).run pins s σ H D I h
  · obtain ⟨L, env, s, S, e, p⟩ := h
    refine ⟨L, env, s, S, e, ?_⟩
    unfold sTry at p
    split at p
    case isFalse => exact p.elim
    rename_i hil
    cases q : m env s with
    | next env' s1 => rw [q] at p; exact p
    | brk env s => rw [q] at p; exact p
    | cnt env s => rw [q] at p; exact p
    | ret d s => rw [q] at p; exact p
    | bad => rw [q] at p; exact p.elim
    | exc c s' =>
      rw [q] at p
      simp only at p
      split at p
      case isFalse => exact p.elim
      rename_i hc
      intro L' H' k' S' σ' hl
      refine ⟨true, ek.xm c hc.1 hc.2, fun _ a ha => ⟨c, rfl, rfl, hc.1, hc.2, ?_, L', s', S', fun L2 v H2 k2 S2 r => p L2 v H2 (k'.trans k2) S2 r⟩, fun h => by cases h⟩
      have : i < X.N.length := by
        rcases List.getElem?_eq_some_iff.mp hi with ⟨h, _⟩
        exact h
      simp [List.getElem?_set, hl, this]
end
/-! ### small dicts -/
section
variable {X : Cx} {ca : Nat → Addr} {W : WX} {pos p1 p2 : Pos}
theorem new_dct {K : PySem.W.Frag} {L : Lv} {s : Store} {H : Hp} {Q : VK} {E : Nat → Hp → Prop} (S : SR K ca L s H) {ks : List Key} {ds : List D} {vs : List V} (hl : ks.length = vs.length) (r : RDs K L H ds vs) (p : post K ca (RD K) L H (.ok (.dct ks ds) s) Q E) : ∀ q, H q = none → Q (.ref q) (upd H q (.dK (ks.zip vs))) := fun q hq => by
  obtain ⟨k, S'⟩ := S.new hq (.dK (ks.zip vs))
  have f := S.fresh hq
  refine p L _ _ k S' ?_
  simp only [RD]
  exact ⟨q, vs, rfl, ⟨f.1, f.2, upd_same⟩, hl, RDs.mono k.mono _ _ r⟩
theorem de_dct0 : DE X ca W (.Dict [] [] pos) (eC (.dct [] [])) := PE.imp pe_dnewK fun σ H Q ⟨L, env, s, S, e, p⟩ => new_dct (ks := []) S rfl .nil p
theorem upd_upd {H : Hp} {p : Addr} {a b : HO} : upd (upd H p a) p b = upd H p b := by
  funext q
  unfold upd
  split <;> rfl
theorem de_dct1 {x : Str} {n : Int} {k1 k2 : Nat} : DE X ca W (.Dict [some (.Constant (.str x) k1 p1)] [.Constant (.int n) k2 p2] pos) (eC (.dct [.inr x] [.int n])) :=
  PE.imp (pe_disp (pps_cons pe_str pe_int pps_nil) rfl rfl (List.cons_ne_nil _ _) (Nat.le_of_ble_eq_true rfl)) fun σ H Q ⟨L, env, s, S, e, p⟩ => fun q hq =>
    ⟨upd_same, [(.inr x, .int n)], rfl, Nat.le_of_ble_eq_true rfl, by
      show Q _ (upd (upd H q _) q _)
      rw [upd_upd]
      exact new_dct (ks := [.inr x]) (vs := [.int n]) S rfl (.cons (by simp only [RD]) .nil) p q hq⟩
end
end DE
/-! DEO: attributes, lists' methods, instances -/
namespace DE
open PySem PySem.Spec PyProof.Rows L2
section
variable {K : PySem.W.Frag} {ca : Nat → Addr} {L : Lv} {H : Hp} {s : Store}
/-- an attribute by its name -/
def getF : List Str → List D → Str → Option D
  | g :: fs, x :: xs, f => if f = g then some x else getF fs xs f
  | _, _, _ => none
def setF : List Str → List D → Str → D → List Str × List D
  | g :: fs, x :: xs, f, d => if g = f then (g :: fs, d :: xs) else ((g :: (setF fs xs f d).1), (x :: (setF fs xs f d).2))
  | _, _, f, d => ([f], [d])
theorem getF_ok : ∀ {fs : List Str} {xs : List D} {vs : List V} {f : Str} {d : D}, getF fs xs f = some d → RDs K L H xs vs → ∃ v, (fs.zip vs).lookup f = some v ∧ RD K L H d v ∧ f ∈ fs
  | [], _, _, _, _, e, _ => by simp [getF] at e
  | _ :: _, [], _, _, _, e, _ => by simp [getF] at e
  | g :: fs, x :: xs, vs, f, d, e, r => by
    simp only [RDs] at r
    obtain ⟨w, ws, rfl, r1, r2⟩ := r
    unfold getF at e
    by_cases h : f = g
    · rw [if_pos h] at e
      cases e
      subst h
      exact ⟨w, by simp, r1, List.mem_cons_self⟩
    · rw [if_neg h] at e
      obtain ⟨v, e1, r3, hm⟩ := getF_ok e r2
      refine ⟨v, ?_, r3, List.mem_cons_of_mem _ hm⟩
      have : (f == g) = false := by simpa using h
      simp only [List.zip_cons_cons, List.lookup_cons, this]
      exact e1
theorem setF_ok : ∀ {fs : List Str} {xs : List D} {vs : List V} {f : Str} {d : D} {v : V}, fs.length = vs.length → RDs K L H xs vs → RD K L H d v →
    ∃ vs', putF f v (fs.zip vs) = (setF fs xs f d).1.zip vs' ∧ (setF fs xs f d).1.length = vs'.length ∧ RDs K L H (setF fs xs f d).2 vs' ∧ ∀ g ∈ (setF fs xs f d).1, g = f ∨ g ∈ fs
  | [], xs, vs, f, d, v, hl, r, rd => by
    have : vs = [] := by simpa using hl.symm
    subst this
    refine ⟨[v], by simp [putF, setF], by simp [setF], ?_, by simp [setF]⟩
    simp only [setF]
    exact .cons rd .nil
  | g :: fs, [], vs, f, d, v, hl, r, rd => by
    simp only [RDs] at r
    subst r
    simp at hl
  | g :: fs, x :: xs, vs, f, d, v, hl, r, rd => by
    simp only [RDs] at r
    obtain ⟨w, ws, rfl, r1, r2⟩ := r
    by_cases h : g = f
    · refine ⟨v :: ws, by simp [putF, setF, h], by simpa [setF, h] using hl, ?_, by simp only [setF, if_pos h]; intro g' hg'; exact .inr hg'⟩
      simp only [setF, if_pos h]
      exact .cons rd r2
    · obtain ⟨vs', e1, e2, e3, e4⟩ := setF_ok (f := f) (by simpa using hl) r2 rd
      refine ⟨w :: vs', ?_, ?_, ?_, ?_⟩
      · simp only [List.zip_cons_cons, putF, setF, if_neg h, e1]
      · simp only [setF, if_neg h, List.length_cons, e2]
      · simp only [setF, if_neg h]
        exact .cons r1 e3
      · simp only [setF, if_neg h]
        intro g' hg'
        rcases List.mem_cons.mp hg' with rfl | hg'
        · exact .inr List.mem_cons_self
        · rcases e4 g' hg' with q | q
          · exact .inl q
          · exact .inr (List.mem_cons_of_mem _ q)
end
section
variable {X : Cx} {ca : Nat → Addr} {W : WX} {e o value : Expr} {es : List Expr} {m ma mo mv : EM} {ms : AM} {pos pos' apos p : Pos}
/-- e.f -/
def fldD (f : Str) (d : D) (s : Store) : R D := match d with
  | .obj fs xs => match getF fs xs f with | some v => .ok v s | none => .bad
  | .ref l => match s[l]? with
    | some (.ins _ fs xs) => match getF fs xs f with | some v => .ok v s | none => .bad
    | _ => .bad
  | _ => .bad
def eFld (f : Str) (m : EM) : EM := fun env s => (m env s).bind fun d s => fldD f d s
theorem de_fld {f : Str} (h : DE X ca W e m) (hb : attributeBase e f X.env (eval e X.env) = eval e X.env := by rfl) : DE X ca W (.Attribute e f pos) (eFld f m) :=
  PE.imp (pe_fld h hb) fun σ H Q ⟨L, env, s, S, e, q⟩ => ⟨L, env, s, S, e, q.bind.imp fun v H1 ⟨L1, s1, d, k1, S1, r1, q1⟩ => by
    unfold fldD at q1
    split at q1
    · simp only [RD] at r1
      obtain ⟨a, C, dx, vs, rfl, h1, hc, hl, rs⟩ := r1
      split at q1
      · rename_i v' eg
        obtain ⟨w, e1, r2, hm⟩ := getF_ok eg rs
        exact ⟨a, C, dx, _, w, rfl, h1.2.2, hc.1, hc.2 f hm, e1, q1 L1 _ H1 Keep.refl S1 r2⟩
      · exact q1.elim
    · simp only [RD] at r1
      obtain ⟨a, rfl, ea⟩ := r1
      split at q1
      · rename_i c fs xs ec
        obtain ⟨dx, vs, h1, hl, hc, rs⟩ := S1.cell _ a _ ea ec
        split at q1
        · rename_i v' eg
          obtain ⟨w, e1, r2, hm⟩ := getF_ok eg rs
          exact ⟨a, _, dx, _, w, rfl, h1, hc.1, hc.2 f hm, e1, q1 L1 _ H1 Keep.refl S1 r2⟩
        · exact q1.elim
      · exact q1.elim
    · exact q1.elim⟩
/-- o.f = value, f one of the attributes that the classes cs have -/
def setFD (cs : List Nat) (f : Str) (o d : D) (s : Store) : Option Store := match o with
  | .ref l => match s[l]? with
    | some (.ins c fs xs) => if (c ∈ cs ∨ f ∈ fs) ∧ fs.length < 1000 then some (s.set l (.ins c (setF fs xs f d).1 (setF fs xs f d).2)) else none
    | _ => none
  | _ => none
def sFld (cs : List Nat) (f : Str) (mo mv : EM) : SM := fun env s => (mv env s).bindS fun d s => (mo env s).bindS fun o s => match setFD cs f o d s with
  | some s => .next env s
  | none => .bad
theorem ds_fld {cs : List Nat} {f : Str} (hn : ∀ c ∈ cs, NoAttr X.K (ca c) f) (ho : DE X ca W o mo) (hv : DE X ca W value mv) (hs : swapsWith value (some (.Attribute o f pos')) pos.line X.env = pure false := by rfl) : DS X ca W (.Assign [.Attribute o f pos'] value pos) (sFld cs f mo mv) :=
  PS.imp (ps_fld ho hv hs) fun T σ H ⟨L, env, s, S, e, q⟩ => ⟨L, env, s, S, e, q.ofR.imp fun y H1 ⟨L1, s1, d, k1, S1, r1, q1⟩ => ⟨L1, env, s1, S1, e.mono k1.mono, q1.ofR.imp fun x H2 ⟨L2, s2, od, k2, S2, r2, q2⟩ => by
    unfold setFD at q2
    split at q2
    case h_2 => exact q2.elim
    rename_i sN eN
    split at eN
    case h_2 => cases eN
    rename_i l
    split at eN
    case h_2 => cases eN
    rename_i c fs xs ec
    split at eN
    case isFalse => cases eN
    rename_i hc
    cases eN
    simp only [RD] at r2
    obtain ⟨a, rfl, ea⟩ := r2
    obtain ⟨dx, vs, h1, hl, hcl, rs⟩ := S2.cell l a _ ea ec
    have hna : NoAttr X.K (ca c) f := by
      rcases hc.1 with h | h
      · exact hn c h
      · exact hcl.2 f h
    refine ⟨a, ca c, dx, fs.zip vs, rfl, h1, hcl.1, hna, by rw [List.length_zip, ← hl, Nat.min_self]; exact hc.2, ?_⟩
    have k2' := k1.trans k2
    obtain ⟨vs0, e0, l0, rr0, m0⟩ := setF_ok (f := f) hl rs (RD.mono k2.mono _ _ r1)
    have hu : Mono L2 H2 L2 (upd H2 a (.ins (ca c) dx (putF f y (fs.zip vs)))) := ⟨List.prefix_refl _, fun b u eb hb1 hb2 => ⟨by rw [upd_ne (show b ≠ a from fun z => hb1 (by rw [z]; exact List.mem_of_getElem? ea))]; exact eb, hb1, hb2⟩⟩
    obtain ⟨kw, Sw⟩ := S2.write ea (o := .ins (ca c) dx (putF f y (fs.zip vs))) (c := .ins c (setF fs xs f d).1 (setF fs xs f d).2) ⟨dx, vs0, by rw [← e0]; exact upd_same, l0, ⟨hcl.1, fun g hg => by
      rcases m0 g hg with rfl | hg
      · exact hna
      · exact hcl.2 g hg⟩, RDs.mono hu _ _ rr0⟩
    exact q2 L2 σ _ kw Sw ((e.mono k2'.mono).mono kw.mono)⟩⟩
/-! ### lists' methods -/
def isLst (s : Store) (o : D) : Bool := match o with
  | .ref l => match s[l]? with | some (.lst _) => true | _ => false
  | _ => false
def eLM (f : D → D → Store → R D) (mo m : EM) : EM := fun env s => (mo env s).bind fun o s => if isLst s o = true then (m env s).bind fun d s => f o d s else .bad
def eLM0 (f : D → Store → R D) (mo : EM) : EM := fun env s => (mo env s).bind fun o s => f o s
def apD : D → D → Store → R D := fun o d s => match o with
  | .ref l => match s[l]? with
    | some (.lst xs) => if xs.length < sizeLine then .ok .non (s.set l (.lst (xs ++ [d]))) else .bad
    | _ => .bad
  | _ => .bad
def popD : D → Store → R D := fun o s => match o with
  | .ref l => match s[l]? with
    | some (.lst xs) => match xs[xs.length - 1]? with | some d => .ok d (s.set l (.lst xs.dropLast)) | none => .bad
    | _ => .bad
  | _ => .bad
theorem isLst_ok {L : Lv} {s : Store} {H : Hp} {o : D} {v : V} (S : SR X.K ca L s H) (r : RD X.K L H o v) (h : isLst s o = true) : tyV X.K "list" v H := by
  unfold isLst at h
  split at h
  · rename_i l
    simp only [RD] at r
    obtain ⟨a, rfl, ea⟩ := r
    split at h
    · rename_i xs ec
      obtain ⟨vs, h1, _⟩ := S.cell l a _ ea ec
      exact .inl ⟨rfl, vs, .inl (.inl h1)⟩
    · cases h
  · cases h
theorem write_lst {L : Lv} {s : Store} {H : Hp} {l : Nat} {a : Addr} {xs : List D} {vs : List V} (S : SR X.K ca L s H) (ea : L.rho[l]? = some a) (rs : RDs X.K L H xs vs) : Keep L H L (upd H a (.lst vs)) ∧ SR X.K ca L (s.set l (.lst xs)) (upd H a (.lst vs)) := by
  have hu : Mono L H L (upd H a (.lst vs)) := ⟨List.prefix_refl _, fun b u eb hb1 hb2 => ⟨by rw [upd_ne (show b ≠ a from fun z => hb1 (by rw [z]; exact List.mem_of_getElem? ea))]; exact eb, hb1, hb2⟩⟩
  exact S.write ea (o := .lst vs) (c := .lst xs) ⟨vs, upd_same, RDs.mono hu _ _ rs⟩
theorem RDs.dropLast {K : PySem.W.Frag} {L : Lv} {H : Hp} : ∀ {xs : List D} {vs : List V}, RDs K L H xs vs → RDs K L H xs.dropLast vs.dropLast
  | [], vs, r => by simp only [RDs] at r; subst r; exact .nil
  | [x], vs, r => by
    simp only [RDs] at r
    obtain ⟨w, ws, rfl, r1, rfl⟩ := r
    exact .nil
  | x :: y :: xs, vs, r => by
    simp only [RDs] at r
    obtain ⟨w, ws, rfl, r1, w2, ws2, rfl, r2, r3⟩ := r
    have : RDs K L H (y :: xs) (w2 :: ws2) := .cons r2 r3
    exact .cons r1 (RDs.dropLast this)
theorem de_append (ho : DE X ca W o mo) (he : DE X ca W e m) (hs : starEach (e :: []) X.env = (false, eval e X.env) :: starEach [] X.env := by rfl) (hbase : attributeBase o "append" X.env (eval o X.env) = eval o X.env := by rfl)
    (hfew : ((backTo pos (starEach (e :: []) X.env)).all (fun x => !x.1) && (backToKw pos (keywordEach [] X.env)).all (fun x => x.1.isSome)
      && decide ((e :: []).length + ([] : List Keyword).length + (if ([] : List Keyword).isEmpty then 0 else 1) < 30)) = true := by rfl) (hline : (apos.endLine == pos.line) = true := by rfl) (hplain : (backTo pos (starEach [] X.env)).any (·.1) = false := by rfl) :
    DE X ca W (.Call (.Attribute o "append" apos) [e] [] pos) (eLM apD mo m) :=
  PE.imp (pe_bm PySem.F.plainAttrs_list PySem.F.slot_list_append PySem.F.type_list_append mt_append ho (pa_cons he pa_nil hs) hbase hfew hline hs hplain) fun σ H Q ⟨L, env, s, S, ee, q⟩ => ⟨L, env, s, S, ee, q.bind.imp fun x H1 ⟨L1, s1, od, k1, S1, r1, q1⟩ => by
    split at q1
    case isFalse => exact q1.elim
    rename_i hb
    refine ⟨isLst_ok S1 r1 hb, L1, env, s1, S1, ee.mono k1.mono, q1.bind.imp fun y H2 ⟨L2, s2, d, k2, S2, r2, q2⟩ => ?_⟩
    unfold apD at q2
    split at q2
    case h_2 => exact q2.elim
    rename_i l _
    split at q2
    case h_2 => exact q2.elim
    rename_i xs ec
    split at q2
    case isFalse => exact q2.elim
    rename_i hz
    have r1' := RD.mono k2.mono _ _ r1
    simp only [RD] at r1'
    obtain ⟨a, rfl, ea⟩ := r1'
    obtain ⟨vs, h1, rs⟩ := S2.cell l a _ ea ec
    obtain ⟨kw, Sw⟩ := write_lst S2 ea (rs.append (.cons r2 .nil))
    exact ⟨a, vs, y, rfl, rfl, h1, by rw [← rs.length]; exact hz, q2 L2 .non _ kw Sw rfl⟩⟩
theorem de_pop (ho : DE X ca W o mo) (hbase : attributeBase o "pop" X.env (eval o X.env) = eval o X.env := by rfl) (hline : (apos.endLine == pos.line) = true := by rfl) :
    DE X ca W (.Call (.Attribute o "pop" apos) [] [] pos) (eLM0 popD mo) :=
  PE.imp (pe_bm0 PySem.F.plainAttrs_list PySem.F.slot_list_pop PySem.F.type_list_pop mt_pop ho hbase hline) fun σ H Q ⟨L, env, s, S, ee, q⟩ => ⟨L, env, s, S, ee, q.bind.imp fun x H1 ⟨L1, s1, od, k1, S1, r1, q1⟩ => by
    unfold popD at q1
    split at q1
    case h_2 => exact q1.elim
    rename_i l
    split at q1
    case h_2 => exact q1.elim
    rename_i xs ec
    split at q1
    case h_2 => exact q1.elim
    rename_i d ed
    simp only [RD] at r1
    obtain ⟨a, rfl, ea⟩ := r1
    obtain ⟨vs, h1, rs⟩ := S1.cell l a _ ea ec
    obtain ⟨w, hw, rw'⟩ := rs.get ed
    obtain ⟨kw, Sw⟩ := write_lst S1 ea rs.dropLast
    exact ⟨.inl ⟨rfl, vs, .inl (.inl h1)⟩, a, vs, w, rfl, rfl, h1, by rw [← rs.length]; exact hw, q1 L1 w _ kw Sw (RD.mono kw.mono _ _ rw')⟩⟩
end
/-! ### instances -/
section
variable {X : Cx} {ca : Nat → Addr} {W : WX} {e : Expr} {es : List Expr} {ms : AM} {pos p : Pos}
/-- C(..): a live cell -/
def eMakeL (c n : Nat) (fn : Fn) (ms : AM) : EM := fun env s => (ms env s).bind fun ds s => if ds.length + 1 = n then (match fn (.ref s.length :: ds) (s ++ [.ins c [] []]) with
  | .ok .non s2 => .ok (.ref s.length) s2
  | _ => .bad) else .bad
open Classical in
/-- .. that nothing changes later -/
noncomputable def eMakeF (c n : Nat) (fn : Fn) (ms : AM) : EM := fun env s => (ms env s).bind fun ds s => if ds.length + 1 = n then (match fn (.ref s.length :: ds) (s ++ [.ins c [] []]) with
  | .ok .non s2 => match frz s2 s.length (.ref s.length) with
    | some d => if s2.take s.length = s then .ok d s else .bad
    | none => .bad
  | _ => .bad) else .bad
theorem make_post {K : PySem.W.Frag} {ca : Nat → Addr} {c n : Nat} {fn : Fn} {L : Lv} {s s2 : Store} {H : Hp} {ds : List D} {vs : List V} {Q : VK} (hc : Cls K (ca c)) (S : SR K ca L s H) (r : RDs K L H ds vs) (hn : ds.length + 1 = n) (ef : fn (.ref s.length :: ds) (s ++ [.ins c [] []]) = .ok .non s2)
    {x dx : Addr} (hx : H x = none) (hdx : H dx = none) (hne : dx ≠ x) (q : ∀ L2 H2, Keep L H L2 H2 → SR K ca L2 s2 H2 → L2.rho[s.length]? = some x → Q (.ref x) H2) :
    spOf K ca n fn (.ref x :: (vs ++ [])) (upd (upd H dx (.own x)) x (.ins (ca c) dx [])) (fun v H2 => v = .non ∧ Q (.ref x) H2) (fun _ _ _ => False) := by
  obtain ⟨k0, S0⟩ := S.new hdx (.own x)
  have hx' : (upd H dx (.own x)) x = none := by rw [upd_ne (Ne.symm hne)]; exact hx
  obtain ⟨k1, S1⟩ := S0.alloc hx' (o := .ins (ca c) dx []) (c := .ins c [] []) ⟨dx, [], upd_same, rfl, ⟨hc, fun f hf => by cases hf⟩, .nil⟩
  have k := k0.trans k1
  have er : (L.rho ++ [x])[s.length]? = some x := by rw [← S.len]; simp
  refine ⟨_, .ref s.length :: ds, _, by rw [List.length_cons]; exact hn, S1, .cons ?_ (by rw [List.append_nil]; exact RDs.mono k.mono _ _ r), ?_⟩
  · simp only [RD]
    exact ⟨x, rfl, er⟩
  · rw [ef]
    intro L2 v H2 k2 S2 rv
    simp only [RD] at rv
    exact ⟨rv, q L2 H2 (k.trans k2) S2 (prefix_get k2.rho er)⟩
theorem pass_no {X : Cx} : Passes (L2N.CX X.prog X.w) X (fun _ _ _ => False) := fun pins σ H s e s' I cx => by
  obtain ⟨_, _, _, _, _, _, _, _, _, _, _, _, z⟩ := cx
  exact z.elim
theorem de_makeL {c k n : Nat} {f : Addr} {fd : FuncData} {ps : List Str} {fn : Fn} {x : Str} (M : Mk X.K (ca c) f) (hc : Cls X.K (ca c)) (F : FnOk X.prog X.w X.K X.mg X.base (L2N.CX X.prog X.w) k f fd ps (spOf X.K ca n fn)) (hr : Room (k + 1) X.A) (hm : X.mg x = some (.ref (ca c))) (hb : Binds X.K fd ps [])
    (ha : DA X ca W (e :: es) ms) (hg : Gl X x := by rfl) (hdb : (x == ("__debug__" : Str)) = false := by decide) (he : starEach (e :: es) X.env = (false, eval e X.env) :: starEach es X.env := by rfl) (hpl : (backTo pos (starEach es X.env)).any (·.1) = false := by rfl) :
    DE X ca W (.Call (.Name x p) (e :: es) [] pos) (eMakeL c n fn ms) :=
  PE.imp (pe_make (E := fun _ _ _ => False) M F hr hg hm hb .nil pass_no ha hdb he hpl) fun σ H Q ⟨L, env, s, S, ee, q⟩ => ⟨L, env, s, S, ee, q.bind.imp fun vs H1 ⟨L1, s1, ds, k1, S1, r1, q1⟩ => fun y dy hy hdy hne => by
    split at q1
    case isFalse => exact q1.elim
    rename_i hn
    split at q1
    · rename_i s2 ef
      exact make_post hc S1 r1 hn ef hy hdy hne fun L2 H2 k2 S2 er => q1 L2 (.ref y) H2 k2 S2 (by simp only [RD]; exact ⟨y, rfl, er⟩)
    · exact q1.elim⟩
theorem de_makeL0 {c k n : Nat} {f : Addr} {fd : FuncData} {ps : List Str} {fn : Fn} {x : Str} (M : Mk X.K (ca c) f) (hc : Cls X.K (ca c)) (F : FnOk X.prog X.w X.K X.mg X.base (L2N.CX X.prog X.w) k f fd ps (spOf X.K ca n fn)) (hr : Room (k + 1) X.A) (hm : X.mg x = some (.ref (ca c))) (hb : Binds X.K fd ps [])
    (hg : Gl X x := by rfl) (hdb : (x == ("__debug__" : Str)) = false := by decide) :
    DE X ca W (.Call (.Name x p) [] [] pos) (eMakeL c n fn aNil) :=
  PE.imp (pe_make0 (E := fun _ _ _ => False) M F hr hg hm hb .nil pass_no hdb) fun σ H Q ⟨L, env, s, S, ee, q⟩ => fun y dy hy hdy hne => by
    have q1 : post X.K ca (RD X.K) L H (if ([] : List D).length + 1 = n then (match fn (.ref s.length :: []) (s ++ [.ins c [] []]) with
      | .ok .non s2 => .ok (.ref s.length) s2
      | _ => .bad) else .bad) Q (wE ca W σ) := q
    split at q1
    case isFalse => exact q1.elim
    rename_i hn
    split at q1
    · rename_i s2 ef
      exact make_post hc S .nil hn ef hy hdy hne fun L2 H2 k2 S2 er => q1 L2 (.ref y) H2 k2 S2 (by simp only [RD]; exact ⟨y, rfl, er⟩)
    · exact q1.elim
theorem de_makeF {c k n : Nat} {f : Addr} {fd : FuncData} {ps : List Str} {fn : Fn} {x : Str} (M : Mk X.K (ca c) f) (hc : Cls X.K (ca c)) (F : FnOk X.prog X.w X.K X.mg X.base (L2N.CX X.prog X.w) k f fd ps (spOf X.K ca n fn)) (hr : Room (k + 1) X.A) (hm : X.mg x = some (.ref (ca c))) (hb : Binds X.K fd ps [])
    (ha : DA X ca W (e :: es) ms) (hg : Gl X x := by rfl) (hdb : (x == ("__debug__" : Str)) = false := by decide) (he : starEach (e :: es) X.env = (false, eval e X.env) :: starEach es X.env := by rfl) (hpl : (backTo pos (starEach es X.env)).any (·.1) = false := by rfl) :
    DE X ca W (.Call (.Name x p) (e :: es) [] pos) (eMakeF c n fn ms) :=
  PE.imp (pe_make (E := fun _ _ _ => False) M F hr hg hm hb .nil pass_no ha hdb he hpl) fun σ H Q ⟨L, env, s, S, ee, q⟩ => ⟨L, env, s, S, ee, q.bind.imp fun vs H1 ⟨L1, s1, ds, k1, S1, r1, q1⟩ => fun y dy hy hdy hne => by
    split at q1
    case isFalse => exact q1.elim
    rename_i hn
    split at q1
    · rename_i s2 ef
      split at q1
      · rename_i d ez
        split at q1
        · rename_i ht
          refine make_post hc S1 r1 hn ef hy hdy hne fun L2 H2 k2 S2 er => ?_
          obtain ⟨w, k', S'⟩ := S1.back k2 S2 ht
          exact q1 L1 (.ref y) H2 k' S' (frz_ok w S2 ez (by simp only [RD]; exact ⟨y, rfl, er⟩))
        · exact q1.elim
      · exact q1.elim
    · exact q1.elim⟩
end
/-! ### dict displays with texts for keys; nothing changes them -/
theorem mergeK_new : ∀ (acc kvs : List (Key × V)), ((acc ++ kvs).map (·.1)).Nodup → mergeK acc kvs = acc ++ kvs
  | acc, [], _ => by simp [mergeK]
  | acc, (k, v) :: r, h => by
    have hk : (acc.any fun kv => decide (kv.1 = k)) = false := by
      rw [List.any_eq_false]
      intro kv hm
      have : kv.1 ≠ k := by
        intro e
        rw [List.map_append, List.nodup_append] at h
        exact h.2.2 kv.1 (List.mem_map_of_mem hm) k (by simp) e
      simpa using this
    have e : putK acc k v = acc ++ [(k, v)] := by unfold putK; rw [if_neg (by rw [hk]; exact Bool.false_ne_true)]
    have ih := mergeK_new (acc ++ [(k, v)]) r (by rw [List.append_assoc]; exact h)
    show mergeK (putK acc k v) r = _
    rw [e, ih, List.append_assoc]
    rfl
section
variable {X : Cx} {ca : Nat → Addr} {W : WX} {v : Expr} {m : EM} {ms : AM} {keys : List (Option Expr)} {values : List Expr} {ks : List Str} {pos p : Pos}
/-- the pairs of a display -/
def DP (X : Cx) (ca : Nat → Addr) (W : WX) (pos : Pos) (keys : List (Option Expr)) (values : List Expr) (ks : List Str) (ms : AM) : Prop := ∃ trs : List (TE × TE), PPs X pos keys values trs ∧ ∀ (σ : St) (H : Hp) (Q : List (V × V) → Hp → Prop),
  (∃ L env s, SR X.K ca L s H ∧ ER X.K L H env σ ∧ post X.K ca (RDs X.K) L H (ms env s) (fun vs H1 => Q ((ks.map V.str).zip vs) H1) (wE ca W σ)) → tPairs trs σ H Q
theorem dp_nil : DP X ca W pos [] [] [] aNil := ⟨[], pps_nil, fun σ H Q ⟨L, env, s, S, e, q⟩ => by
  have := q L [] H Keep.refl S .nil
  exact this⟩
theorem dp_cons {k : Str} {j : Nat} (hv : DE X ca W v m) (hr : DP X ca W pos keys values ks ms) : DP X ca W pos (some (.Constant (.str k) j p) :: keys) (v :: values) (k :: ks) (aCons m ms) := by
  obtain ⟨trs, h1, h2⟩ := hr
  refine ⟨_, pps_cons pe_str hv h1, fun σ H Q ⟨L, env, s, S, e, q⟩ => ?_⟩
  refine ⟨L, env, s, S, e, q.bind.imp fun y H1 ⟨L1, s1, d, k1, S1, r1, q1⟩ => ?_⟩
  exact h2 σ H1 _ ⟨L1, env, s1, S1, e.mono k1.mono, q1.bind.imp fun ys H2 ⟨L2, s2, ds, k2, S2, r2, q2⟩ => q2 L2 _ H2 Keep.refl S2 (.cons (RD.mono k2.mono _ _ r1) r2)⟩
theorem zip_kv : ∀ (ks : List Str) (vs : List V), (ks.map V.str).zip vs = ((ks.map Sum.inr : List Key).zip vs).map (fun kv => (kV kv.1, kv.2))
  | [], _ => by simp
  | _ :: _, [] => by simp
  | k :: ks, v :: vs => by
    simp only [List.map_cons, List.zip_cons_cons, zip_kv ks vs]
    rfl
def eDct (ks : List Str) (ms : AM) : EM := fun env s => (ms env s).bind fun ds s => if ds.length = ks.length then .ok (.dct (ks.map .inr) ds) s else .bad
theorem de_dct {k0 : Option Expr} (h : DP X ca W pos (k0 :: keys) values ks ms) (hn : ks.Nodup := by decide +kernel) (h15 : ks.length ≤ 15 := by decide) (hall : (k0 :: keys).all (·.isSome) = true := by rfl) (hl : (k0 :: keys).length = values.length := by rfl) (hl15 : (k0 :: keys).length ≤ 15 := by exact Nat.le_of_ble_eq_true rfl) :
    DE X ca W (.Dict (k0 :: keys) values pos) (eDct ks ms) := by
  obtain ⟨trs, h1, h2⟩ := h
  refine PE.imp (pe_disp h1 hall hl (List.cons_ne_nil _ _) hl15) fun σ H Q ⟨L, env, s, S, e, q⟩ => fun a ha => ?_
  obtain ⟨kk, SS⟩ := S.new ha (.dK [])
  have f := S.fresh ha
  have S0 : SR X.K ca ⟨L.rho, a :: L.pi⟩ s (upd H a (.dK [])) := ⟨SS.len, SS.nd, fun l b c e1 e2 => (S.cell l b c e1 e2).mono (L2 := ⟨L.rho, a :: L.pi⟩) ⟨List.prefix_refl _, fun b' o eb h1 h2 => ⟨by rw [upd_ne (ne_of_none eb ha)]; exact eb, h1, by
      simp only [List.mem_cons, not_or]; exact ⟨ne_of_none eb ha, h2⟩⟩⟩ (by
      obtain ⟨u, hu⟩ := (S.cell l b c e1 e2).some
      rw [upd_ne (ne_of_none hu ha)]), fun b hb => by
      rcases List.mem_cons.mp hb with rfl | hb
      · exact ⟨f.1, _, upd_same⟩
      · exact SS.pi b hb⟩
  have m0 : Mono L H ⟨L.rho, a :: L.pi⟩ (upd H a (.dK [])) := ⟨List.prefix_refl _, fun b o eb h1 h2 => ⟨by rw [upd_ne (ne_of_none eb ha)]; exact eb, h1, by simp only [List.mem_cons, not_or]; exact ⟨ne_of_none eb ha, h2⟩⟩⟩
  refine h2 σ _ _ ⟨⟨L.rho, a :: L.pi⟩, env, s, S0, e.mono m0, ?_⟩
  unfold eDct at q
  cases em : ms env s with
  | bad => rw [em] at q; exact q.elim
  | exc c s1 =>
    rw [em] at q
    intro L1 H1 k1 S1
    obtain ⟨rho1, pi1⟩ := L1
    have hp : pi1 = a :: L.pi := k1.pi
    subst hp
    refine q ⟨rho1, L.pi⟩ H1 ⟨rfl, k1.rho, fun b o eb hb => ?_⟩ S1.open
    exact k1.keep b o (by rw [upd_ne (ne_of_none eb ha)]; exact eb) hb
  | ok ds s1 =>
    rw [em] at q
    simp only [R.bind_ok] at q
    split at q
    case isFalse => exact q.elim
    rename_i hd
    intro L1 vs H1 k1 S1 r1
    obtain ⟨rho1, pi1⟩ := L1
    have hp : pi1 = a :: L.pi := k1.pi
    subst hp
    have k0 := k1.keep a _ upd_same f.1
    have hlen : ks.length = vs.length := by rw [← r1.length, hd]
    refine ⟨k0.1, (ks.map Sum.inr).zip vs, ?_, ?_, ?_⟩
    · exact zip_kv ks vs
    · rw [List.length_zip, List.length_map]; omega
    · have ez : mergeK [] ((ks.map Sum.inr).zip vs) = (ks.map Sum.inr).zip vs := by
        rw [mergeK_new [] _ (by
          rw [List.nil_append, List.map_fst_zip (by rw [List.length_map]; omega)]
          exact List.Pairwise.map _ (fun x y h e => h (Sum.inr.inj e)) hn)]
        rfl
      rw [ez]
      obtain ⟨S2, m2⟩ := S1.poke List.mem_cons_self (.dK ((ks.map Sum.inr).zip vs))
      refine q ⟨rho1, L.pi⟩ _ _ ⟨rfl, k1.rho, fun b o eb hb => ?_⟩ S2.open ?_
      · have := k1.keep b o (by rw [upd_ne (ne_of_none eb ha)]; exact eb) hb
        exact ⟨by rw [upd_ne (ne_of_none eb ha)]; exact this.1, this.2⟩
      · simp only [RD]
        refine ⟨a, vs, rfl, ⟨k0.2, fun z => f.2 z, upd_same⟩, by rw [List.length_map]; exact hlen, RDs.mono mo_open _ _ (RDs.mono m2 _ _ r1)⟩
/-- d[k] of such a dict -/
def getK (ks : List Key) (xs : List D) (k : Key) : Option D := match ks, xs with
  | g :: ks, x :: xs => if g = k then some x else getK ks xs k
  | _, _ => none
def keyD : D → Option Key
  | .int i => some (.inl i)
  | .str x => some (.inr x)
  | _ => none
theorem keyD_ok {K : PySem.W.Frag} {L : Lv} {H : Hp} {d : D} {k : Key} {v : V} (e : keyD d = some k) (r : RD K L H d v) : v = kV k := by
  unfold keyD at e
  split at e
  · cases e; simp only [RD] at r; exact r
  · cases e; simp only [RD] at r; exact r
  · cases e
theorem getK_ok {K : PySem.W.Frag} {L : Lv} {H : Hp} : ∀ {ks : List Key} {xs : List D} {vs : List V} {k : Key} {d : D}, getK ks xs k = some d → RDs K L H xs vs → ∃ v, valV (ks.zip vs) k = some v ∧ RD K L H d v
  | [], _, _, _, _, e, _ => by simp [getK] at e
  | _ :: _, [], _, _, _, e, _ => by simp [getK] at e
  | g :: ks, x :: xs, vs, k, d, e, r => by
    simp only [RDs] at r
    obtain ⟨w, ws, rfl, r1, r2⟩ := r
    unfold getK at e
    by_cases h : g = k
    · rw [if_pos h] at e
      cases e
      exact ⟨w, by rw [List.zip_cons_cons]; exact valV_pos h, r1⟩
    · rw [if_neg h] at e
      obtain ⟨v, e1, r3⟩ := getK_ok e r2
      exact ⟨v, by rw [List.zip_cons_cons, valV_neg h]; exact e1, r3⟩
def dgetD : D → D → Store → R D := fun x y s => match x, keyD y with
  | .dct ks xs, some k => match getK ks xs k with | some d => .ok d s | none => .bad
  | .ref l, some k => match s[l]? with
    | some (.dK ks xs) => match getK ks xs k with | some d => .ok d s | none => .bad
    | _ => .bad
  | _, _ => .bad
theorem de_dget {a b : Expr} {ma mb : EM} (hu : X.A.units + 1 < cLine) (ha : DE X ca W a ma) (hb : DE X ca W b mb) (hs : NoSl b := by exact fun _ _ => rfl) : DE X ca W (.Subscript a b pos) (e2 dgetD ma mb) :=
  PE.imp (pe_dget hu ha hb hs) fun σ H Q ⟨L, env, s, S, e, q⟩ => ⟨L, env, s, S, e, q.bind.imp fun x H1 ⟨L1, s1, d1, k1, S1, r1, q1⟩ => ⟨L1, env, s1, S1, e.mono k1.mono, q1.bind.imp fun y H2 ⟨L2, s2, d2, k2, S2, r2, q2⟩ => by
    have r1' := RD.mono k2.mono _ _ r1
    unfold dgetD at q2
    split at q2
    · rename_i ks xs k ek _
      have ey := keyD_ok ek r2
      simp only [RD] at r1'
      obtain ⟨a, vs, rfl, f, hl, rs⟩ := r1'
      split at q2
      · rename_i d eg
        obtain ⟨v, ev, rv⟩ := getK_ok eg rs
        exact ⟨a, v, rfl, .inl ⟨_, k, .inl f.2.2, ey, ev.symm⟩, q2 L2 v _ Keep.refl S2 rv⟩
      · exact q2.elim
    · rename_i l k ek _
      have ey := keyD_ok ek r2
      simp only [RD] at r1'
      obtain ⟨a, rfl, ea⟩ := r1'
      split at q2
      · rename_i ks xs ec
        obtain ⟨vs, h1, hl, rs⟩ := S2.cell l a _ ea ec
        split at q2
        · rename_i d eg
          obtain ⟨v, ev, rv⟩ := getK_ok eg rs
          exact ⟨a, v, rfl, .inl ⟨_, k, .inl h1, ey, ev.symm⟩, q2 L2 v _ Keep.refl S2 rv⟩
        · exact q2.elim
      · exact q2.elim
    · exact q2.elim⟩⟩
end
end DE
/-! DEV: how the combinators evaluate -/
namespace DE
open PySem PySem.Spec PyProof.Rows L2
theorem ofS_list (a : String) : (Str.ofString a).cps = (a.toList.map Char.toNat).toArray := by rw [Str.ofString_eq_toList]
theorem ofS_inj (a b : String) : (Str.ofString a = Str.ofString b) ↔ a = b := by
  refine ⟨fun h => ?_, fun h => by rw [h]⟩
  have h1 := congrArg Str.cps h
  rw [ofS_list, ofS_list] at h1
  have h2 : a.toList.map Char.toNat = b.toList.map Char.toNat := by simpa using h1
  have mi : ∀ x y : List Char, x.map Char.toNat = y.map Char.toNat → x = y := by
    intro x
    induction x with
    | nil => intro y h; cases y with | nil => rfl | cons _ _ => cases h
    | cons c r ih => intro y h; cases y with
      | nil => cases h
      | cons d t =>
        simp only [List.map_cons, List.cons.injEq] at h
        rw [Char.toNat_inj.mp h.1, ih t h.2]
  have h3 : a.toList = b.toList := mi _ _ h2
  exact String.toList_inj.mp h3
theorem ofS_ok (a : String) : strOk' (Str.ofString a) = true := by
  unfold strOk'
  rw [ofS_list]
  rw [List.all_toArray, List.all_eq_true]
  intro x hx
  obtain ⟨c, _, rfl⟩ := List.mem_map.mp hx
  have := c.valid
  unfold UInt32.isValidChar Nat.isValidChar at this
  have e : c.toNat = c.val.toNat := rfl
  rw [decide_eq_true_eq, e]
  omega
theorem res_non (s : Store) : res s .non = some .non := by simp [sub]
theorem res_bl (s : Store) (b : Bool) : res s (.bl b) = some (.bl b) := by simp [sub]
theorem res_int (s : Store) (b : Int) : res s (.int b) = some (.int b) := by simp [sub]
theorem res_str (s : Store) (b : Str) : res s (.str b) = some (.str b) := by simp [sub]
theorem eqD_int (neg : Bool) (i j : Int) (s : Store) : eqD neg (.int i) (.int j) s = .ok (.bl (if neg then !decide (i = j) else decide (i = j))) s := by
  unfold eqD
  rw [res_int, res_int]
  simp only [layD, depD, eqv, pyOf, PyData.eqv]
  have e : (i == j) = decide (i = j) := by by_cases h : i = j <;> simp [h]
  rw [e]
  simp
theorem eqD_str (neg : Bool) (a b : Str) (s : Store) (ha : strOk' a = true) (hb : strOk' b = true) : eqD neg (.str a) (.str b) s = .ok (.bl (if neg then !decide (a = b) else decide (a = b))) s := by
  unfold eqD
  rw [res_str, res_str]
  simp only [layD, depD, eqv, pyOf, PyData.eqv, ha, hb]
  have e : (a == b) = decide (a = b) := by by_cases h : a = b <;> simp [h]
  rw [e]
  simp
/-- an own member of words -/
theorem strs_sub (f : Nat → Option D) : ∀ ws : List Str, subs f (ws.map D.str) = some (ws.map D.str)
  | [] => by simp [subs]
  | w :: ws => by simp only [List.map_cons, subs, sub]; rw [strs_sub f ws]
theorem strs_lay : ∀ ws : List Str, (∀ w ∈ ws, strOk' w = true) → layDs (ws.map D.str) = true
  | [], _ => by simp [layDs]
  | w :: ws, h => by
    simp only [List.map_cons, layDs, layD, Bool.and_eq_true]
    exact ⟨h w List.mem_cons_self, strs_lay ws fun x hx => h x (List.mem_cons_of_mem _ hx)⟩
theorem strs_any (a : Str) : ∀ ws : List Str, (ws.map D.str).any (fun y => eqv y (.str a)) = decide (a ∈ ws)
  | [] => by simp
  | w :: ws => by
    have ih := strs_any a ws
    rw [List.map_cons, List.any_cons, ih]
    simp only [eqv, pyOf, PyData.eqv, List.mem_cons]
    have e : (w == a) = decide (a = w) := by
      by_cases h : a = w
      · rw [h]; simp
      · have : ¬ w = a := fun q => h q.symm
        simp [h, this]
    rw [e]
    simp
theorem inD_strs (neg : Bool) (a : Str) (ws : List Str) (s : Store) (ha : strOk' a = true) (hw : ∀ w ∈ ws, strOk' w = true) :
    inD neg (.str a) (.tup (ws.map D.str)) s = .ok (.bl (if neg then !decide (a ∈ ws) else decide (a ∈ ws))) s := by
  have e2 : res s (.tup (ws.map D.str)) = some (.tup (ws.map D.str)) := by
    show sub _ _ = _
    simp only [sub]
    rw [strs_sub]
    rfl
  have e3 : inD neg (.str a) (.tup (ws.map D.str)) s = (match res s (.str a), res s (.tup (ws.map D.str)) with
    | some a, some (.tup ys) => if layD a = true ∧ layDs ys = true ∧ depD a ≤ 190 then .ok (.bl (if neg then !ys.any (fun y => eqv y a) else ys.any (fun y => eqv y a))) s else .bad
    | some a, some (.lst ys) => if layD a = true ∧ layDs ys = true ∧ depD a ≤ 190 then .ok (.bl (if neg then !ys.any (fun y => eqv y a) else ys.any (fun y => eqv y a))) s else .bad
    | _, _ => .bad) := rfl
  rw [e3, e2, res_str]
  simp only [layD, ha, strs_lay ws hw, depD, strs_any]
  simp
theorem inD3 (neg : Bool) (a x y z : Str) (s : Store) (ha : strOk' a = true) (hx : strOk' x = true) (hy : strOk' y = true) (hz : strOk' z = true) :
    inD neg (.str a) (.tup [.str x, .str y, .str z]) s = .ok (.bl (if neg then !decide (a = x ∨ a = y ∨ a = z) else decide (a = x ∨ a = y ∨ a = z))) s := by
  have := inD_strs neg a [x, y, z] s ha (by simp [hx, hy, hz])
  simpa using this
theorem inD2 (neg : Bool) (a x y : Str) (s : Store) (ha : strOk' a = true) (hx : strOk' x = true) (hy : strOk' y = true) :
    inD neg (.str a) (.tup [.str x, .str y]) s = .ok (.bl (if neg then !decide (a = x ∨ a = y) else decide (a = x ∨ a = y))) s := by
  have := inD_strs neg a [x, y] s ha (by simp [hx, hy])
  simpa using this
theorem eqD_ss (neg : Bool) (a b : String) (s : Store) : eqD neg (.str (Str.ofString a)) (.str (Str.ofString b)) s = .ok (.bl (if neg then !decide (a = b) else decide (a = b))) s := by
  rw [eqD_str neg _ _ s (ofS_ok a) (ofS_ok b)]
  simp only [ofS_inj]
theorem inD3_ss (neg : Bool) (a x y z : String) (s : Store) : inD neg (.str (Str.ofString a)) (.tup [.str (Str.ofString x), .str (Str.ofString y), .str (Str.ofString z)]) s = .ok (.bl (if neg then !decide (a = x ∨ a = y ∨ a = z) else decide (a = x ∨ a = y ∨ a = z))) s := by
  rw [inD3 neg _ _ _ _ s (ofS_ok a) (ofS_ok x) (ofS_ok y) (ofS_ok z)]
  simp only [ofS_inj]
theorem inD2_ss (neg : Bool) (a x y : String) (s : Store) : inD neg (.str (Str.ofString a)) (.tup [.str (Str.ofString x), .str (Str.ofString y)]) s = .ok (.bl (if neg then !decide (a = x ∨ a = y) else decide (a = x ∨ a = y))) s := by
  rw [inD2 neg _ _ _ s (ofS_ok a) (ofS_ok x) (ofS_ok y)]
  simp only [ofS_inj]
/-- a comprehension whose items are made one by one, nothing is stored -/
theorem lcD_map {t : Tgt} {tt : TM} {em : EM} {a : List D × Option Nat} {env : Env} {s : Store} (g : okG a s) (f : D → D) : ∀ xs : List D,
    (∀ x ∈ xs, ∃ env1, setT t x env = some env1 ∧ tt env1 s = .ok true s ∧ em env1 s = .ok (f x) s) → lcD t tt em a env xs s = .ok (xs.map f) s
  | [], _ => by unfold lcD; rw [if_pos g]; rfl
  | x :: xs, h => by
    obtain ⟨env1, e1, e2, e3⟩ := h x List.mem_cons_self
    unfold lcD
    rw [if_pos g, e1]
    simp only [e2, R.bind_ok, if_true, e3, lcD_map g f xs fun y hy => h y (List.mem_cons_of_mem _ hy), List.map_cons]
theorem lcD_filter {t : Tgt} {tt : TM} {em : EM} {a : List D × Option Nat} {env : Env} {s : Store} (g : okG a s) (p : D → Bool) (f : D → D) : ∀ xs : List D,
    (∀ x ∈ xs, ∃ env1, setT t x env = some env1 ∧ tt env1 s = .ok (p x) s ∧ em env1 s = .ok (f x) s) → lcD t tt em a env xs s = .ok ((xs.filter p).map f) s
  | [], _ => by unfold lcD; rw [if_pos g]; rfl
  | x :: xs, h => by
    obtain ⟨env1, e1, e2, e3⟩ := h x List.mem_cons_self
    have ih := lcD_filter g p f xs fun y hy => h y (List.mem_cons_of_mem _ hy)
    unfold lcD
    rw [if_pos g, e1]
    simp only [e2, R.bind_ok]
    cases q : p x with
    | true =>
      rw [if_pos rfl, e3, List.filter_cons_of_pos q]
      simp only [R.bind_ok, ih, List.map_cons]
    | false =>
      rw [if_neg Bool.false_ne_true, List.filter_cons_of_neg (by rw [q]; exact Bool.false_ne_true)]
      exact ih
theorem bools_map {α : Type} (f : α → Bool) : ∀ xs : List α, bools (xs.map fun x => D.bl (f x)) = some (xs.map f)
  | [] => rfl
  | x :: xs => by simp only [List.map_cons, bools, bools_map f xs]; rfl
theorem intsD_map {α : Type} (f : α → Int) : ∀ xs : List α, intsD (xs.map fun x => D.int (f x)) = some (xs.map f)
  | [] => rfl
  | x :: xs => by simp only [List.map_cons, intsD, intsD_map f xs]; rfl
theorem strsD_map {α : Type} (f : α → Str) : ∀ xs : List α, strsD (xs.map fun x => D.str (f x)) = some (xs.map f)
  | [] => rfl
  | x :: xs => by simp only [List.map_cons, strsD, strsD_map f xs]; rfl
theorem isD_true (x : Bool) (s : Store) : isD false (.bl x) (.bl true) s = .ok (.bl x) s := by cases x <;> rfl
theorem isnD_true (x : Bool) (s : Store) : isD true (.bl x) (.bl true) s = .ok (.bl (!x)) s := by cases x <;> rfl
theorem isnD_false (x : Bool) (s : Store) : isD true (.bl x) (.bl false) s = .ok (.bl x) s := by cases x <;> rfl
theorem atI_nat {α : Type} (xs : List α) (i : Nat) (h : i < xs.length) : atI xs (i : Int) = xs[i]? := by
  unfold atI ixN
  rw [if_pos (by omega), if_pos (by omega)]
  simp
theorem atI_0 {α : Type} (x : α) (xs : List α) : atI (x :: xs) 0 = some x := atI_nat (x :: xs) 0 (by simp)
theorem atI_1 {α : Type} (x y : α) (xs : List α) : atI (x :: y :: xs) 1 = some y := atI_nat (x :: y :: xs) 1 (by simp)
theorem atI_int {α : Type} (xs : List α) (i : Int) (h0 : 0 ≤ i) (h : i < xs.length) : ∃ x ∈ xs, atI xs i = some x := by
  unfold atI ixN
  rw [if_pos h0, if_pos h]
  have hl : i.toNat < xs.length := by omega
  refine ⟨xs[i.toNat], List.getElem_mem hl, ?_⟩
  show xs[i.toNat]? = _
  exact List.getElem?_eq_getElem hl
theorem sg_len (c : Nat) : Str.length ⟨#[c]⟩ = 1 := rfl
theorem sg_of {z : Str} (h : z.length = 1) : ∃ c, z = ⟨#[c]⟩ := by
  obtain ⟨⟨a⟩⟩ := z
  match a, h with
  | [c], _ => exact ⟨c, rfl⟩
theorem lenD_str {z : Str} {s : Store} (h : z.length ≤ 1000) : lenD [.str z] s = .ok (.int z.length) s := by
  show (if z.length ≤ LINE then (R.ok (D.int z.length) s : R D) else .bad) = _
  rw [if_pos (by unfold LINE; omega)]
theorem lenD_tup {xs : List D} {s : Store} : lenD [.tup xs] s = .ok (.int xs.length) s := rfl
theorem lenD_lst {xs : List D} {s : Store} : lenD [.lst xs] s = .ok (.int xs.length) s := rfl
theorem ixD_t0 {x : D} {xs : List D} {s : Store} : ixD (.tup (x :: xs)) (.int 0) s = .ok x s := by
  simp [ixD, atI_0]
theorem ixD_t1 {x y : D} {xs : List D} {s : Store} : ixD (.tup (x :: y :: xs)) (.int 1) s = .ok y s := by
  simp [ixD, atI_1]
theorem ixD_int {xs : List D} {i : Int} {s : Store} (h0 : 0 ≤ i) (h : i < xs.length) : ∃ x ∈ xs, ixD (.lst xs) (.int i) s = .ok x s := by
  obtain ⟨x, hx, e⟩ := atI_int xs i h0 h
  refine ⟨x, hx, ?_⟩
  simp [ixD, rdS, e]
theorem finL_ok {zs : List D} {s : Store} (h : zs.length ≤ 1000) : finL (.ok zs s) = .ok (.lst zs) s := by
  unfold finL
  simp only
  rw [if_pos (by unfold LINE; omega)]
theorem allD_map {α : Type} (f : α → Bool) (ys : List α) (s : Store) : allD [.lst (ys.map fun y => .bl (f y))] s = .ok (.bl (ys.all f)) s := by
  simp only [allD, rdS, bools_map, List.all_map]
  rfl
theorem anyD_map {α : Type} (f : α → Bool) (ys : List α) (s : Store) : anyD [.lst (ys.map fun y => .bl (f y))] s = .ok (.bl (ys.any f)) s := by
  simp only [anyD, rdS, bools_map, List.any_map]
  rfl
theorem sumD_map {α : Type} (f : α → Int) (ys : List α) (s : Store) : sumD [.lst (ys.map fun y => .int (f y))] s = .ok (.int (ys.map f).sum) s := by
  simp only [sumD, rdS, intsD_map]
theorem mulD_int {i j : Int} {s : Store} (h : 0 ≤ i ∧ i < 1000) : mulD (.int i) (.int j) s = .ok (.int (i * j)) s := by
  unfold mulD
  simp only
  rw [if_pos (.inl (by unfold BIG; omega))]
theorem fdivD_int {i j : Int} {s : Store} (h : 0 < j ∧ j ≤ 1000) : fdivD (.int i) (.int j) s = .ok (.int (i / j)) s := by
  unfold fdivD
  simp only
  rw [if_pos ⟨h.1, by omega⟩]
theorem modD_int {i j : Int} {s : Store} (h : 0 < j) : modD (.int i) (.int j) s = .ok (.int (i % j)) s := by
  unfold modD
  simp only
  rw [if_pos h]
theorem addD_int {i j : Int} {s : Store} : addD (.int i) (.int j) s = .ok (.int (i + j)) s := rfl
theorem subD_int {i j : Int} {s : Store} : subD (.int i) (.int j) s = .ok (.int (i - j)) s := rfl
theorem seq_ret {A B : SM} {env env1 : Env} {s s1 s2 : Store} {d : D} (h1 : A env s = .next env1 s1) (h2 : B env1 s1 = .ret d s2) : sSeq A B env s = .ret d s2 := by
  unfold sSeq
  rw [h1]
  exact h2
theorem body_ret {n : Nat} {m : SM} {ds : List D} {s s2 : Store} {d : D} (h : m (env0 n ds) s = .ret d s2) : bodyF n m ds s = .ok d s2 := by
  unfold bodyF
  rw [h]
theorem eqD_kind (neg : Bool) (a b : String) (s : Store) : eqD neg (.lst [.str (Str.ofString a)]) (.lst [.str (Str.ofString b)]) s = .ok (.bl (if neg then !decide (a = b) else decide (a = b))) s := by
  have e1 : ∀ a : String, res s (.lst [.str (Str.ofString a)]) = some (.lst [.str (Str.ofString a)]) := fun a => by simp [sub, subs]
  unfold eqD
  rw [e1, e1]
  simp only [layD, layDs, ofS_ok, depD, depDs, eqv, pyOf, pyOfs, PyData.eqv, PyData.eqvAll]
  have e : (Str.ofString a == Str.ofString b) = decide (a = b) := by
    by_cases h : a = b
    · rw [h]; simp
    · have : ¬ Str.ofString a = Str.ofString b := fun q => h ((ofS_inj a b).mp q)
      simp [h, this]
  rw [e]
  simp
theorem eqD_non (neg : Bool) (s : Store) : eqD neg .non .non s = .ok (.bl (!neg)) s := by
  unfold eqD
  rw [res_non]
  cases neg <;> simp [layD, depD, eqv, pyOf, PyData.eqv]
theorem joinD_all {z : Str} {zs : List Str} {s : Store} (h : (zs.map (·.length)).sum + zs.length * z.length ≤ 16777216) : joinD z (.lst (zs.map D.str)) s = .ok (.str (Txt.join z zs)) s := by
  have := strsD_map (fun x : Str => x) zs
  simp only [List.map_id'] at this
  simp only [joinD, rdS, this]
  rw [if_pos (show _ ≤ LINE from h)]
/-- a loop that keeps an invariant -/
theorem for_inv {g : GM} {body : SM} {a : List D × Option Nat} {s : Store} (ok : okG a s) (I : Env → Prop) : ∀ (xs : List D) (env : Env), I env →
    (∀ x ∈ xs, ∀ env, I env → ∃ env1 env2, g x env s = .ok env1 s ∧ body env1 s = .next env2 s ∧ I env2) → ∃ env2, forD g body a xs env s = .next env2 s ∧ I env2
  | [], env, h, _ => ⟨env, by unfold forD; rw [if_pos ok], h⟩
  | x :: xs, env, h, hh => by
    obtain ⟨env1, env2, e1, e2, h2⟩ := hh x List.mem_cons_self env h
    obtain ⟨env3, e3, h3⟩ := for_inv ok I xs env2 h2 fun y hy => hh y (List.mem_cons_of_mem _ hy)
    refine ⟨env3, ?_, h3⟩
    unfold forD
    rw [if_pos ok, e1]
    simp only [R.bindS_ok, e2, loopB_next]
    exact e3
/-- .. that hangs on how many turns were made -/
theorem for_ind {g : GM} {body : SM} {a : List D × Option Nat} {s : Store} (ok : okG a s) (I : Nat → Env → Prop) : ∀ (xs : List D) (i : Nat) (env : Env), I i env →
    (∀ j x, xs[j]? = some x → ∀ env, I (i + j) env → ∃ env1 env2, g x env s = .ok env1 s ∧ body env1 s = .next env2 s ∧ I (i + j + 1) env2) → ∃ env2, forD g body a xs env s = .next env2 s ∧ I (i + xs.length) env2
  | [], i, env, h, _ => ⟨env, by unfold forD; rw [if_pos ok], h⟩
  | x :: xs, i, env, h, hh => by
    obtain ⟨env1, env2, e1, e2, h2⟩ := hh 0 x rfl env h
    obtain ⟨env3, e3, h3⟩ := for_ind ok I xs (i + 1) env2 h2 fun j y hy env hi => by
      have e : i + 1 + j = i + (j + 1) := by omega
      rw [e] at hi ⊢
      exact hh (j + 1) y hy env hi
    refine ⟨env3, ?_, by have e : i + (x :: xs).length = i + 1 + xs.length := by simp only [List.length_cons]; omega
                         rw [e]; exact h3⟩
    unfold forD
    rw [if_pos ok, e1]
    simp only [R.bindS_ok, e2, loopB_next]
    exact e3
/-- a comprehension over what is made of ys -/
theorem lcD_by {α : Type} {t : Tgt} {tt : TM} {em : EM} {a : List D × Option Nat} {env : Env} {s : Store} (g : okG a s) (m : α → D) (p : α → Bool) (f : α → D) : ∀ ys : List α,
    (∀ y ∈ ys, ∃ env1, setT t (m y) env = some env1 ∧ tt env1 s = .ok (p y) s ∧ (p y = true → em env1 s = .ok (f y) s)) → lcD t tt em a env (ys.map m) s = .ok ((ys.filter p).map f) s
  | [], _ => by unfold lcD; rw [List.map_nil]; simp only; rw [if_pos g]; rfl
  | y :: ys, h => by
    obtain ⟨env1, e1, e2, e3⟩ := h y List.mem_cons_self
    have ih := lcD_by g m p f ys fun y hy => h y (List.mem_cons_of_mem _ hy)
    rw [List.map_cons]
    unfold lcD
    rw [if_pos g, e1]
    simp only [e2, R.bind_ok]
    cases q : p y with
    | true =>
      rw [if_pos rfl, e3 q, List.filter_cons_of_pos q]
      simp only [R.bind_ok, ih, List.map_cons]
    | false =>
      rw [if_neg Bool.false_ne_true, List.filter_cons_of_neg (by rw [q]; exact Bool.false_ne_true)]
      exact ih
theorem eLc_by {α : Type} {t : Tgt} {vs : List Nat} {tt : TM} {em : EM} {im : IM} {env : Env} {s : Store} (m : α → D) (p : α → Bool) (f : α → D) (ys : List α) (hi : im env s = .ok (ys.map m, none) s) (hl : ys.length ≤ 1000)
    (h : ∀ y ∈ ys, ∃ env1, setT t (m y) (wipeE env vs) = some env1 ∧ tt env1 s = .ok (p y) s ∧ (p y = true → em env1 s = .ok (f y) s)) : eLc im t vs tt em env s = .ok (.lst ((ys.filter p).map f)) s := by
  unfold eLc
  rw [hi]
  simp only [R.bind_ok]
  rw [lcD_by (by simp) m p f ys h, finL_ok (by rw [List.length_map]; exact Nat.le_trans (List.length_filter_le _ _) hl)]
theorem filter_yes {α : Type} (ys : List α) : ys.filter (fun _ => true) = ys := List.filter_eq_self.mpr fun _ _ => rfl
theorem eLc_all {α : Type} {t : Tgt} {vs : List Nat} {em : EM} {im : IM} {env : Env} {s : Store} (m : α → D) (f : α → D) (ys : List α) (hi : im env s = .ok (ys.map m, none) s) (hl : ys.length ≤ 1000)
    (h : ∀ y ∈ ys, ∃ env1, setT t (m y) (wipeE env vs) = some env1 ∧ em env1 s = .ok (f y) s) : eLc im t vs tYesM em env s = .ok (.lst (ys.map f)) s := by
  have := eLc_by (tt := tYesM) m (fun _ => true) f ys hi hl fun y hy => by
    obtain ⟨env1, e1, e2⟩ := h y hy
    exact ⟨env1, e1, rfl, fun _ => e2⟩
  rw [filter_yes] at this
  exact this
end DE
namespace G
open PySem PySem.Spec PyProof.Rows L2 DE
abbrev i_are_letters : Nat := 0
abbrev i_need_letters : Nat := 1
abbrev i_Made___init__ : Nat := 2
abbrev i_Open___init__ : Nat := 3
abbrev i_need : Nat := 4
abbrev i_of_parts : Nat := 5
abbrev i_end_half : Nat := 6
abbrev i_end_branch : Nat := 7
abbrev i_closed : Nat := 8
abbrev i_put : Nat := 9
abbrev i_marked : Nat := 10
abbrev i_plain_atom : Nat := 11
abbrev i_stars_at : Nat := 12
abbrev i_read_all : Nat := 13
abbrev i_read : Nat := 14
abbrev i__law_cell_at : Nat := 15
abbrev i__law_letters : Nat := 16
abbrev i__law_size : Nat := 17
abbrev i__law_of : Nat := 18
abbrev i__law_item : Nat := 19
abbrev i__law_half : Nat := 20
abbrev i__law_either : Nat := 21
abbrev i__law_due : Nat := 22
abbrev i__law_told : Nat := 23
abbrev i__law_grown : Nat := 24
abbrev i__law_edited : Nat := 25
abbrev i__law_odd : Nat := 26
abbrev i_law : Nat := 27
def topS (i : Nat) : Stmt := PySem.Challenge.pw_bothreed_k03_texts_read.main.body.getD i (.Pass ⟨0, 0, 0, 0⟩)
abbrev s_are_letters : Stmt := topS 13
theorem sc_are_letters : FnScope ["thing", "sign"] ["thing"] (defScope s_are_letters) := ⟨rfl, rfl, rfl, by decide +kernel, rfl, by decide +kernel, by decide +kernel⟩
abbrev s_need_letters : Stmt := topS 14
theorem sc_need_letters : FnScope ["letters"] ["letters"] (defScope s_need_letters) := ⟨rfl, rfl, rfl, by decide +kernel, rfl, by decide +kernel, by decide +kernel⟩
abbrev s_Made___init__ : Stmt := inClass (topS 17) 0
theorem sc_Made___init__ : FnScope ["self", "pattern", "many"] ["self", "pattern", "many"] (defScope s_Made___init__) := ⟨rfl, rfl, rfl, by decide +kernel, rfl, by decide +kernel, by decide +kernel⟩
abbrev s_Open___init__ : Stmt := inClass (topS 18) 0
theorem sc_Open___init__ : FnScope ["self"] ["self"] (defScope s_Open___init__) := ⟨rfl, rfl, rfl, by decide +kernel, rfl, by decide +kernel, by decide +kernel⟩
abbrev s_need : Stmt := topS 19
theorem sc_need : FnScope ["good"] ["good"] (defScope s_need) := ⟨rfl, rfl, rfl, by decide +kernel, rfl, by decide +kernel, by decide +kernel⟩
abbrev s_of_parts : Stmt := topS 20
theorem sc_of_parts : FnScope ["word", "parts", "part"] ["word", "parts"] (defScope s_of_parts) := ⟨rfl, rfl, rfl, by decide +kernel, rfl, by decide +kernel, by decide +kernel⟩
abbrev s_end_half : Stmt := topS 21
theorem sc_end_half : FnScope ["bracket"] ["bracket"] (defScope s_end_half) := ⟨rfl, rfl, rfl, by decide +kernel, rfl, by decide +kernel, by decide +kernel⟩
abbrev s_end_branch : Stmt := topS 22
theorem sc_end_branch : FnScope ["bracket"] ["bracket"] (defScope s_end_branch) := ⟨rfl, rfl, rfl, by decide +kernel, rfl, by decide +kernel, by decide +kernel⟩
abbrev s_closed : Stmt := topS 23
theorem sc_closed : FnScope ["bracket"] ["bracket"] (defScope s_closed) := ⟨rfl, rfl, rfl, by decide +kernel, rfl, by decide +kernel, by decide +kernel⟩
abbrev s_put : Stmt := topS 24
theorem sc_put : FnScope ["bracket", "atom", "stars", "turn"] ["bracket", "atom", "stars"] (defScope s_put) := ⟨rfl, rfl, rfl, by decide +kernel, rfl, by decide +kernel, by decide +kernel⟩
abbrev s_marked : Stmt := topS 25
theorem sc_marked : FnScope ["bracket", "sign"] ["bracket", "sign"] (defScope s_marked) := ⟨rfl, rfl, rfl, by decide +kernel, rfl, by decide +kernel, by decide +kernel⟩
abbrev s_plain_atom : Stmt := topS 26
theorem sc_plain_atom : FnScope ["letters", "text", "at", "word", "pattern"] ["letters", "text", "at"] (defScope s_plain_atom) := ⟨rfl, rfl, rfl, by decide +kernel, rfl, by decide +kernel, by decide +kernel⟩
abbrev s_stars_at : Stmt := topS 27
theorem sc_stars_at : FnScope ["text", "at", "found"] ["text", "at"] (defScope s_stars_at) := ⟨rfl, rfl, rfl, by decide +kernel, rfl, by decide +kernel, by decide +kernel⟩
abbrev s_read_all : Stmt := topS 28
theorem sc_read_all : FnScope ["letters", "text", "stack", "at", "stars", "atom"] ["letters", "text"] (defScope s_read_all) := ⟨rfl, rfl, rfl, by decide +kernel, rfl, by decide +kernel, by decide +kernel⟩
abbrev s_read : Stmt := topS 29
theorem sc_read : FnScope ["letters", "text", "found"] ["letters", "text"] (defScope s_read) := ⟨rfl, rfl, rfl, by decide +kernel, rfl, by decide +kernel, by decide +kernel⟩
abbrev s__law_cell_at : Stmt := topS 31
theorem sc__law_cell_at : FnScope ["_law_script", "_law_k"] ["_law_script", "_law_k"] (defScope s__law_cell_at) := ⟨rfl, rfl, rfl, by decide +kernel, rfl, by decide +kernel, by decide +kernel⟩
abbrev s__law_letters : Stmt := topS 32
theorem sc__law_letters : FnScope ["_law_cell", "_law_some", "_law_k"] ["_law_cell"] (defScope s__law_letters) := ⟨rfl, rfl, rfl, by decide +kernel, rfl, by decide +kernel, by decide +kernel⟩
abbrev s__law_size : Stmt := topS 33
theorem sc__law_size : FnScope ["_law_pattern", "_law_part"] ["_law_pattern"] (defScope s__law_size) := ⟨rfl, rfl, rfl, by decide +kernel, rfl, by decide +kernel, by decide +kernel⟩
abbrev s__law_of : Stmt := topS 35
theorem sc__law_of : FnScope ["_law_word", "_law_patterns"] ["_law_word", "_law_patterns"] (defScope s__law_of) := ⟨rfl, rfl, rfl, by decide +kernel, rfl, by decide +kernel, by decide +kernel⟩
abbrev s__law_item : Stmt := topS 36
theorem sc__law_item : FnScope ["_law_letters_here", "_law_text", "_law_at", "_law_inner", "_law_atom", "_law_pattern"] ["_law_letters_here", "_law_text", "_law_at"] (defScope s__law_item) := ⟨rfl, rfl, rfl, by decide +kernel, rfl, by decide +kernel, by decide +kernel⟩
abbrev s__law_half : Stmt := topS 37
theorem sc__law_half : FnScope ["_law_letters_here", "_law_text", "_law_at", "_law_found", "_law_one"] ["_law_letters_here", "_law_text", "_law_at"] (defScope s__law_half) := ⟨rfl, rfl, rfl, by decide +kernel, rfl, by decide +kernel, by decide +kernel⟩
abbrev s__law_either : Stmt := topS 38
theorem sc__law_either : FnScope ["_law_letters_here", "_law_text", "_law_at", "_law_branches", "_law_halves", "_law_one"] ["_law_letters_here", "_law_text", "_law_at"] (defScope s__law_either) := ⟨rfl, rfl, rfl, by decide +kernel, rfl, by decide +kernel, by decide +kernel⟩
abbrev s__law_due : Stmt := topS 39
theorem sc__law_due : FnScope ["_law_letters_here", "_law_text", "_law_whole"] ["_law_letters_here", "_law_text"] (defScope s__law_due) := ⟨rfl, rfl, rfl, by decide +kernel, rfl, by decide +kernel, by decide +kernel⟩
abbrev s__law_told : Stmt := topS 40
theorem sc__law_told : FnScope ["_law_letters_here", "_law_text", "_law_error"] ["_law_letters_here", "_law_text"] (defScope s__law_told) := ⟨rfl, rfl, rfl, by decide +kernel, rfl, by decide +kernel, by decide +kernel⟩
abbrev s__law_grown : Stmt := topS 41
theorem sc__law_grown : FnScope ["_law_letters_here", "_law_texts", "_law_cell", "_law_rest"] ["_law_letters_here", "_law_texts", "_law_cell"] (defScope s__law_grown) := ⟨rfl, rfl, rfl, by decide +kernel, rfl, by decide +kernel, by decide +kernel⟩
abbrev s__law_edited : Stmt := topS 42
theorem sc__law_edited : FnScope ["_law_letters_here", "_law_text", "_law_cell", "_law_number", "_law_others", "_law_other", "_law_some", "_law_sign", "_law_at", "_law_marks", "_law_k"] ["_law_letters_here", "_law_text", "_law_cell"] (defScope s__law_edited) := ⟨rfl, rfl, rfl, by decide +kernel, rfl, by decide +kernel, by decide +kernel⟩
abbrev s__law_odd : Stmt := topS 43
theorem sc__law_odd : FnScope ["_law_letters_here", "_law_cell", "_law_sign", "_law_some", "_law_one"] ["_law_letters_here", "_law_cell"] (defScope s__law_odd) := ⟨rfl, rfl, rfl, by decide +kernel, rfl, by decide +kernel, by decide +kernel⟩
abbrev s_law : Stmt := topS 44
theorem sc_law : FnScope ["_law_script", "_law_letters_here", "_law_cell", "_law_texts", "_law_one", "_law_text", "_law_due_here"] ["_law_script"] (defScope s_law) := ⟨rfl, rfl, rfl, by decide +kernel, rfl, by decide +kernel, by decide +kernel⟩
abbrev s__law_kind : Stmt := topS 34
theorem sc__law_kind : FnScope ["_law_error", "_law_found", "_law_word", "_law_is_one"] ["_law_error"] (defScope s__law_kind) := ⟨rfl, rfl, rfl, by decide +kernel, rfl, by decide +kernel, by decide +kernel⟩
noncomputable def m_are_letters (call : Nat → Fn) : SM :=
  (sSeq (sIf (tOrM (tNotM (tVal (isiD "str" (eVar 0)))) (tNotM (tVal (eChain leD leD (eC (.int 1)) (eCall lenD (aCons (eVar 0) aNil)) (eC (.int 4))))))
  (sRet (eC (.bl false)))
  sPass)
  (sRet (eCall allD (aCons (eLc (itV' (eVar 0)) (.one 1) [1] tYesM (eAnd (e2 (inD false) (eVar 1) (eC (.str "abcdefghijklmnopqrstuvwxyz"))) (e2 (eqD false) (eM1 countD (eVar 0) (eVar 1)) (eC (.int 1))))) aNil))))
noncomputable def b_are_letters (call : Nat → Fn) : Fn := bodyF 2 (m_are_letters call)
noncomputable def m_need_letters (call : Nat → Fn) : SM :=
  (sIf (tNotM (tVal (eCall (ar 1 (call i_are_letters)) (aCons (eVar 0) aNil))))
  (sRaise 1)
  sPass)
noncomputable def b_need_letters (call : Nat → Fn) : Fn := bodyF 1 (m_need_letters call)
noncomputable def m_Made___init__ (call : Nat → Fn) : SM :=
  (sSeq (sFld [6] "pattern" (eVar 0) (eVar 1))
  (sFld [6] "many" (eVar 0) (eVar 2)))
noncomputable def b_Made___init__ (call : Nat → Fn) : Fn := bodyF 3 (m_Made___init__ call)
noncomputable def m_Open___init__ (call : Nat → Fn) : SM :=
  (sSeq (sFld [7] "branches" (eVar 0) (eNew aNil))
  (sSeq (sFld [7] "halves" (eVar 0) (eNew aNil))
  (sSeq (sFld [7] "held" (eVar 0) (eNew aNil))
  (sFld [7] "nots" (eVar 0) (eC (.int 0))))))
noncomputable def b_Open___init__ (call : Nat → Fn) : Fn := bodyF 1 (m_Open___init__ call)
noncomputable def m_need (call : Nat → Fn) : SM :=
  (sIf (tNotM (tVal (eVar 0)))
  (sRaise 4)
  sPass)
noncomputable def b_need (call : Nat → Fn) : Fn := bodyF 1 (m_need call)
noncomputable def m_of_parts (call : Nat → Fn) : SM :=
  (sSeq (sExpr (eCall (ar 1 (call i_need)) (aCons (e2 gtD (eCall lenD (aCons (eVar 1) aNil)) (eC (.int 0))) aNil)))
  (sSeq (sIf (tVal (e2 (eqD false) (eCall lenD (aCons (eVar 1) aNil)) (eC (.int 1))))
  (sRet (e2 ixD (eVar 1) (eC (.int 0))))
  sPass)
  (sRet (eMakeF 6 3 (call i_Made___init__) (aCons (eTup (aCons (eVar 0) (aCons (eCall tupleD (aCons (eLc (itV' (eVar 1)) (.one 2) [2] tYesM (eFld "pattern" (eVar 2))) aNil)) aNil))) (aCons (e2 addD (eC (.int 1)) (eCall sumD (aCons (eLc (itV' (eVar 1)) (.one 2) [2] tYesM (eFld "many" (eVar 2))) aNil))) aNil))))))
noncomputable def b_of_parts (call : Nat → Fn) : Fn := bodyF 3 (m_of_parts call)
noncomputable def m_end_half (call : Nat → Fn) : SM :=
  (sSeq (sExpr (eCall (ar 1 (call i_need)) (aCons (e2 (eqD false) (eFld "nots" (eVar 0)) (eC (.int 0))) aNil)))
  (sSeq (sExpr (eLM apD (eFld "halves" (eVar 0)) (eCall (ar 2 (call i_of_parts)) (aCons (eC (.str "row")) (aCons (eFld "held" (eVar 0)) aNil)))))
  (sFld [7] "held" (eVar 0) (eNew aNil))))
noncomputable def b_end_half (call : Nat → Fn) : Fn := bodyF 1 (m_end_half call)
noncomputable def m_end_branch (call : Nat → Fn) : SM :=
  (sSeq (sExpr (eCall (ar 1 (call i_end_half)) (aCons (eVar 0) aNil)))
  (sSeq (sExpr (eLM apD (eFld "branches" (eVar 0)) (eCall (ar 2 (call i_of_parts)) (aCons (eC (.str "and")) (aCons (eFld "halves" (eVar 0)) aNil)))))
  (sFld [7] "halves" (eVar 0) (eNew aNil))))
noncomputable def b_end_branch (call : Nat → Fn) : Fn := bodyF 1 (m_end_branch call)
noncomputable def m_closed (call : Nat → Fn) : SM :=
  (sSeq (sExpr (eCall (ar 1 (call i_end_branch)) (aCons (eVar 0) aNil)))
  (sRet (eCall (ar 2 (call i_of_parts)) (aCons (eC (.str "or")) (aCons (eFld "branches" (eVar 0)) aNil)))))
noncomputable def b_closed (call : Nat → Fn) : Fn := bodyF 1 (m_closed call)
noncomputable def m_put (call : Nat → Fn) : SM :=
  (sSeq (sFor (itR1 (aCons (eVar 2) aNil)) (gVar 3)
  (sSet 1 (eMakeF 6 3 (call i_Made___init__) (aCons (eTup (aCons (eC (.str "many")) (aCons (eFld "pattern" (eVar 1)) aNil))) (aCons (e2 addD (eFld "many" (eVar 1)) (eC (.int 1))) aNil)))))
  (sSeq (sFor (itR1 (aCons (eFld "nots" (eVar 0)) aNil)) (gVar 3)
  (sSet 1 (eMakeF 6 3 (call i_Made___init__) (aCons (eTup (aCons (eC (.str "not")) (aCons (eFld "pattern" (eVar 1)) aNil))) (aCons (e2 addD (eFld "many" (eVar 1)) (eC (.int 1))) aNil)))))
  (sSeq (sFld [7] "nots" (eVar 0) (eC (.int 0)))
  (sExpr (eLM apD (eFld "held" (eVar 0)) (eVar 1))))))
noncomputable def b_put (call : Nat → Fn) : Fn := bodyF 4 (m_put call)
noncomputable def m_marked (call : Nat → Fn) : SM :=
  (sIf (tVal (e2 (eqD false) (eVar 1) (eC (.str "|"))))
  (sExpr (eCall (ar 1 (call i_end_branch)) (aCons (eVar 0) aNil)))
  (sIf (tVal (e2 (eqD false) (eVar 1) (eC (.str "&"))))
  (sExpr (eCall (ar 1 (call i_end_half)) (aCons (eVar 0) aNil)))
  (sFld [7] "nots" (eVar 0) (e2 addD (eFld "nots" (eVar 0)) (eC (.int 1))))))
noncomputable def b_marked (call : Nat → Fn) : Fn := bodyF 2 (m_marked call)
noncomputable def m_plain_atom (call : Nat → Fn) : SM :=
  (sSeq (sFor (itV' (eTup (aCons (eTup (aCons (eC (.str "()")) (aCons (eC (.tup [.str "empty"])) aNil))) (aCons (eTup (aCons (eC (.str "[]")) (aCons (eC (.tup [.str "none"])) aNil))) aNil)))) (gTupD 2 (gMore (gVar 3) (gMore (gVar 4) gNone)))
  (sIf (tVal (e2 (eqD false) (eCut (eVar 1) (oSome (eVar 2)) (oSome (e2 addD (eVar 2) (eC (.int 2))))) (eVar 3)))
  (sRet (eTup (aCons (eMakeF 6 3 (call i_Made___init__) (aCons (eVar 4) (aCons (eC (.int 1)) aNil))) (aCons (e2 addD (eVar 2) (eC (.int 2))) aNil))))
  sPass))
  (sSeq (sExpr (eCall (ar 1 (call i_need)) (aCons (e2 (inD false) (e2 ixD (eVar 1) (eVar 2)) (eVar 0)) aNil)))
  (sRet (eTup (aCons (eMakeF 6 3 (call i_Made___init__) (aCons (eTup (aCons (eC (.str "sign")) (aCons (e2 ixD (eVar 1) (eVar 2)) aNil))) (aCons (eC (.int 1)) aNil))) (aCons (e2 addD (eVar 2) (eC (.int 1))) aNil))))))
noncomputable def b_plain_atom (call : Nat → Fn) : Fn := bodyF 5 (m_plain_atom call)
noncomputable def m_stars_at (call : Nat → Fn) : SM :=
  (sSeq (sSet 2 (eC (.int 0)))
  (sSeq (sWhile (tVal (e2 (eqD false) (eCut (eVar 0) (oSome (e2 addD (eVar 1) (eVar 2))) (oSome (e2 addD (e2 addD (eVar 1) (eVar 2)) (eC (.int 1))))) (eC (.str "*"))))
  (sSet 2 (e2 addD (eVar 2) (eC (.int 1)))))
  (sRet (eVar 2))))
noncomputable def b_stars_at (call : Nat → Fn) : Fn := bodyF 3 (m_stars_at call)
noncomputable def m_read_all (call : Nat → Fn) : SM :=
  (sSeq (sSet 2 (eNew (aCons (eMakeL 7 1 (call i_Open___init__) aNil) aNil)))
  (sSeq (sSet 3 (eC (.int 0)))
  (sSeq (sWhile (tVal (e2 ltD (eVar 3) (eCall lenD (aCons (eVar 1) aNil))))
  (sIf (tVal (e2 (inD false) (e2 ixD (eVar 1) (eVar 3)) (eC (.str "|&!"))))
  (sSeq (sExpr (eCall (ar 2 (call i_marked)) (aCons (e2 ixD (eVar 2) (eNeg (eC (.int 1)))) (aCons (e2 ixD (eVar 1) (eVar 3)) aNil))))
  (sSet 3 (e2 addD (eVar 3) (eC (.int 1)))))
  (sIf (tAndM (tVal (e2 (eqD false) (e2 ixD (eVar 1) (eVar 3)) (eC (.str "(")))) (tVal (e2 (eqD true) (eCut (eVar 1) (oSome (eVar 3)) (oSome (e2 addD (eVar 3) (eC (.int 2))))) (eC (.str "()")))))
  (sSeq (sExpr (eLM apD (eVar 2) (eMakeL 7 1 (call i_Open___init__) aNil)))
  (sSet 3 (e2 addD (eVar 3) (eC (.int 1)))))
  (sSeq (sIf (tVal (e2 (eqD false) (e2 ixD (eVar 1) (eVar 3)) (eC (.str ")"))))
  (sSeq (sExpr (eCall (ar 1 (call i_need)) (aCons (e2 gtD (eCall lenD (aCons (eVar 2) aNil)) (eC (.int 1))) aNil)))
  (sPar 5 3 (aCons (eCall (ar 1 (call i_closed)) (aCons (eLM0 popD (eVar 2)) aNil)) (aCons (e2 addD (eVar 3) (eC (.int 1))) aNil))))
  (sAsg (eCall (ar 3 (call i_plain_atom)) (aCons (eVar 0) (aCons (eVar 1) (aCons (eVar 3) aNil)))) (gTupD 2 (gMore (gVar 5) (gMore (gVar 3) gNone)))))
  (sSeq (sSet 4 (eCall (ar 2 (call i_stars_at)) (aCons (eVar 1) (aCons (eVar 3) aNil))))
  (sSeq (sExpr (eCall (ar 3 (call i_put)) (aCons (e2 ixD (eVar 2) (eNeg (eC (.int 1)))) (aCons (eVar 5) (aCons (eVar 4) aNil)))))
  (sSet 3 (e2 addD (eVar 3) (eVar 4)))))))))
  (sSeq (sExpr (eCall (ar 1 (call i_need)) (aCons (e2 (eqD false) (eCall lenD (aCons (eVar 2) aNil)) (eC (.int 1))) aNil)))
  (sRet (eCall (ar 1 (call i_closed)) (aCons (e2 ixD (eVar 2) (eC (.int 0))) aNil)))))))
noncomputable def b_read_all (call : Nat → Fn) : Fn := bodyF 6 (m_read_all call)
noncomputable def m_read (call : Nat → Fn) : SM :=
  (sSeq (sExpr (eCall (ar 1 (call i_need_letters)) (aCons (eVar 0) aNil)))
  (sSeq (sIf (tAndM (tVal (isiD "str" (eVar 1))) (tVal (e2 gtD (eCall lenD (aCons (eVar 1) aNil)) (eC (.int 400)))))
  (sRaise 3)
  sPass)
  (sSeq (sExpr (eCall (ar 1 (call i_need)) (aCons (isiD "str" (eVar 1)) aNil)))
  (sSeq (sSet 2 (eCall (ar 2 (call i_read_all)) (aCons (eVar 0) (aCons (eVar 1) aNil))))
  (sSeq (sIf (tVal (e2 gtD (eFld "many" (eVar 2)) (eC (.int 60))))
  (sRaise 3)
  sPass)
  (sRet (eFld "pattern" (eVar 2))))))))
noncomputable def b_read (call : Nat → Fn) : Fn := bodyF 3 (m_read call)
noncomputable def m__law_cell_at (call : Nat → Fn) : SM :=
  (sSeq (sIf (tVal (e2 ltD (eVar 1) (eCall lenD (aCons (eVar 0) aNil))))
  (sRet (e2 ixD (eVar 0) (eVar 1)))
  sPass)
  (sRet (eC (.int 0))))
noncomputable def b__law_cell_at (call : Nat → Fn) : Fn := bodyF 2 (m__law_cell_at call)
noncomputable def m__law_letters (call : Nat → Fn) : SM :=
  (sSeq (sSet 1 (eC (.str "abcdefghijklmnopqrstuvwxyz")))
  (sRet (eM1 joinD (eC (.str "")) (eLc (itR1 (aCons (e2 addD (eC (.int 1)) (e2 modD (eVar 0) (eC (.int 4)))) aNil)) (.one 2) [2] tYesM (e2 ixD (eVar 1) (e2 modD (e2 addD (e2 fdivD (eVar 0) (eC (.int 4))) (e2 mulD (eVar 2) (e2 addD (eC (.int 1)) (e2 modD (e2 fdivD (eVar 0) (eC (.int 104))) (eC (.int 12)))))) (eC (.int 26))))))))
noncomputable def b__law_letters (call : Nat → Fn) : Fn := bodyF 3 (m__law_letters call)
noncomputable def m__law_size (call : Nat → Fn) : SM :=
  (sSeq (sIf (tVal (e2 (inD false) (e2 ixD (eVar 0) (eC (.int 0))) (eTup (aCons (eC (.str "row")) (aCons (eC (.str "or")) (aCons (eC (.str "and")) aNil))))))
  (sRet (e2 addD (eC (.int 1)) (eCall sumD (aCons (eLc (itV' (e2 ixD (eVar 0) (eC (.int 1)))) (.one 1) [1] tYesM (eCall (ar 1 (call i__law_size)) (aCons (eVar 1) aNil))) aNil))))
  sPass)
  (sSeq (sIf (tVal (e2 (inD false) (e2 ixD (eVar 0) (eC (.int 0))) (eTup (aCons (eC (.str "many")) (aCons (eC (.str "not")) aNil)))))
  (sRet (e2 addD (eC (.int 1)) (eCall (ar 1 (call i__law_size)) (aCons (e2 ixD (eVar 0) (eC (.int 1))) aNil))))
  sPass)
  (sRet (eC (.int 1)))))
noncomputable def b__law_size (call : Nat → Fn) : Fn := bodyF 2 (m__law_size call)
noncomputable def m__law_of (call : Nat → Fn) : SM :=
  (sSeq (sIf (tVal (e2 (eqD false) (eCall lenD (aCons (eVar 1) aNil)) (eC (.int 1))))
  (sRet (e2 ixD (eVar 1) (eC (.int 0))))
  sPass)
  (sRet (eTup (aCons (eVar 0) (aCons (eCall tupleD (aCons (eVar 1) aNil)) aNil)))))
noncomputable def b__law_of (call : Nat → Fn) : Fn := bodyF 2 (m__law_of call)
noncomputable def m__law_item (call : Nat → Fn) : SM :=
  (sSeq (sIf (tVal (e2 (eqD false) (eCut (eVar 1) (oSome (eVar 2)) (oSome (e2 addD (eVar 2) (eC (.int 1))))) (eC (.str "!"))))
  (sSeq (sSet 3 (eCall (ar 3 (call i__law_item)) (aCons (eVar 0) (aCons (eVar 1) (aCons (e2 addD (eVar 2) (eC (.int 1))) aNil)))))
  (sRet (eIf (tVal (e2 (isD false) (eVar 3) (eC .non))) (eC .non) (eTup (aCons (eTup (aCons (eC (.str "not")) (aCons (e2 ixD (eVar 3) (eC (.int 0))) aNil))) (aCons (e2 ixD (eVar 3) (eC (.int 1))) aNil))))))
  sPass)
  (sSeq (sIf (tOrM (tVal (e2 (eqD false) (eCut (eVar 1) (oSome (eVar 2)) (oSome (e2 addD (eVar 2) (eC (.int 2))))) (eC (.str "()")))) (tVal (e2 (eqD false) (eCut (eVar 1) (oSome (eVar 2)) (oSome (e2 addD (eVar 2) (eC (.int 2))))) (eC (.str "[]")))))
  (sSet 4 (eTup (aCons (e2 ixD (eLst (aCons (eTup (aCons (eC (.str "empty")) aNil)) (aCons (eTup (aCons (eC (.str "none")) aNil)) aNil))) (eCall intD (aCons (e2 (eqD false) (e2 ixD (eVar 1) (eVar 2)) (eC (.str "["))) aNil))) (aCons (e2 addD (eVar 2) (eC (.int 2))) aNil))))
  (sIf (tVal (e2 (eqD false) (eCut (eVar 1) (oSome (eVar 2)) (oSome (e2 addD (eVar 2) (eC (.int 1))))) (eC (.str "("))))
  (sSeq (sSet 3 (eCall (ar 3 (call i__law_either)) (aCons (eVar 0) (aCons (eVar 1) (aCons (e2 addD (eVar 2) (eC (.int 1))) aNil)))))
  (sSeq (sIf (tOrM (tVal (e2 (isD false) (eVar 3) (eC .non))) (tVal (e2 (eqD true) (eCut (eVar 1) (oSome (e2 ixD (eVar 3) (eC (.int 1)))) (oSome (e2 addD (e2 ixD (eVar 3) (eC (.int 1))) (eC (.int 1))))) (eC (.str ")")))))
  (sRet (eC .non))
  sPass)
  (sSet 4 (eTup (aCons (e2 ixD (eVar 3) (eC (.int 0))) (aCons (e2 addD (e2 ixD (eVar 3) (eC (.int 1))) (eC (.int 1))) aNil))))))
  (sIf (tAndM (tVal (e2 (eqD true) (eCut (eVar 1) (oSome (eVar 2)) (oSome (e2 addD (eVar 2) (eC (.int 1))))) (eC (.str "")))) (tVal (e2 (inD false) (e2 ixD (eVar 1) (eVar 2)) (eVar 0))))
  (sSet 4 (eTup (aCons (eTup (aCons (eC (.str "sign")) (aCons (e2 ixD (eVar 1) (eVar 2)) aNil))) (aCons (e2 addD (eVar 2) (eC (.int 1))) aNil))))
  (sRet (eC .non)))))
  (sSeq (sAsg (eVar 4) (gTupD 2 (gMore (gVar 5) (gMore (gVar 2) gNone))))
  (sSeq (sWhile (tVal (e2 (eqD false) (eCut (eVar 1) (oSome (eVar 2)) (oSome (e2 addD (eVar 2) (eC (.int 1))))) (eC (.str "*"))))
  (sSeq (sSet 5 (eTup (aCons (eC (.str "many")) (aCons (eVar 5) aNil))))
  (sSet 2 (e2 addD (eVar 2) (eC (.int 1))))))
  (sRet (eTup (aCons (eVar 5) (aCons (eVar 2) aNil))))))))
noncomputable def b__law_item (call : Nat → Fn) : Fn := bodyF 6 (m__law_item call)
noncomputable def m__law_half (call : Nat → Fn) : SM :=
  (sSeq (sSet 3 (eNew aNil))
  (sSeq (sWhile (tVal (e2 (inD true) (eCut (eVar 1) (oSome (eVar 2)) (oSome (e2 addD (eVar 2) (eC (.int 1))))) (eLst (aCons (eC (.str "")) (aCons (eC (.str "|")) (aCons (eC (.str "&")) (aCons (eC (.str ")")) aNil)))))))
  (sSeq (sSet 4 (eCall (ar 3 (call i__law_item)) (aCons (eVar 0) (aCons (eVar 1) (aCons (eVar 2) aNil)))))
  (sSeq (sIf (tVal (e2 (isD false) (eVar 4) (eC .non)))
  (sRet (eC .non))
  sPass)
  (sSeq (sExpr (eLM apD (eVar 3) (e2 ixD (eVar 4) (eC (.int 0)))))
  (sSet 2 (e2 ixD (eVar 4) (eC (.int 1))))))))
  (sRet (eIf (tVal (e2 (eqD false) (eVar 3) (eLst aNil))) (eC .non) (eTup (aCons (eCall (ar 2 (call i__law_of)) (aCons (eC (.str "row")) (aCons (eVar 3) aNil))) (aCons (eVar 2) aNil)))))))
noncomputable def b__law_half (call : Nat → Fn) : Fn := bodyF 5 (m__law_half call)
noncomputable def m__law_either (call : Nat → Fn) : SM :=
  (sSeq (sSet 3 (eNew aNil))
  (sSeq (sSet 4 (eNew aNil))
  (sWhile (tVal (eC (.bl true)))
  (sSeq (sSet 5 (eCall (ar 3 (call i__law_half)) (aCons (eVar 0) (aCons (eVar 1) (aCons (eVar 2) aNil)))))
  (sSeq (sIf (tVal (e2 (isD false) (eVar 5) (eC .non)))
  (sRet (eC .non))
  sPass)
  (sSeq (sExpr (eLM apD (eVar 4) (e2 ixD (eVar 5) (eC (.int 0)))))
  (sSeq (sSet 2 (e2 addD (e2 ixD (eVar 5) (eC (.int 1))) (eC (.int 1))))
  (sSeq (sIf (tVal (e2 (eqD true) (eCut (eVar 1) (oSome (e2 ixD (eVar 5) (eC (.int 1)))) (oSome (eVar 2))) (eC (.str "&"))))
  (sSeq (sExpr (eLM apD (eVar 3) (eCall (ar 2 (call i__law_of)) (aCons (eC (.str "and")) (aCons (eVar 4) aNil)))))
  (sSet 4 (eNew aNil)))
  sPass)
  (sIf (tVal (e2 (inD true) (eCut (eVar 1) (oSome (e2 ixD (eVar 5) (eC (.int 1)))) (oSome (eVar 2))) (eLst (aCons (eC (.str "&")) (aCons (eC (.str "|")) aNil)))))
  (sRet (eTup (aCons (eCall (ar 2 (call i__law_of)) (aCons (eC (.str "or")) (aCons (eVar 3) aNil))) (aCons (e2 ixD (eVar 5) (eC (.int 1))) aNil))))
  sPass)))))))))
noncomputable def b__law_either (call : Nat → Fn) : Fn := bodyF 6 (m__law_either call)
noncomputable def m__law_due (call : Nat → Fn) : SM :=
  (sSeq (sSet 2 (eCall (ar 3 (call i__law_either)) (aCons (eVar 0) (aCons (eVar 1) (aCons (eC (.int 0)) aNil)))))
  (sSeq (sIf (tOrM (tVal (e2 (isD false) (eVar 2) (eC .non))) (tVal (e2 ltD (e2 ixD (eVar 2) (eC (.int 1))) (eCall lenD (aCons (eVar 1) aNil)))))
  (sRet (eLst (aCons (eC (.str "text")) aNil)))
  sPass)
  (sSeq (sIf (tVal (e2 gtD (eCall (ar 1 (call i__law_size)) (aCons (e2 ixD (eVar 2) (eC (.int 0))) aNil)) (eC (.int 60))))
  (sRet (eLst (aCons (eC (.str "great")) aNil)))
  sPass)
  (sRet (e2 ixD (eVar 2) (eC (.int 0)))))))
noncomputable def b__law_due (call : Nat → Fn) : Fn := bodyF 3 (m__law_due call)
noncomputable def m__law_told (call : Nat → Fn) : SM :=
  (sTry 2 (sRet (eCall (ar 2 (call i_read)) (aCons (eVar 0) (aCons (eVar 1) aNil)))))
noncomputable def b__law_told (call : Nat → Fn) : Fn := bodyF 3 (m__law_told call)
noncomputable def m__law_grown (call : Nat → Fn) : SM :=
  (sSeq (sSet 3 (e2 fdivD (eVar 2) (eC (.int 9))))
  (sSeq (sIf (tAndM (tVal (e2 (eqD false) (e2 modD (eVar 2) (eC (.int 9))) (eC (.int 4)))) (tVal (e2 gtD (eCall lenD (aCons (eVar 1) aNil)) (eC (.int 1)))))
  (sRet (e2 addD (eCut (eVar 1) oNone (oSome (eNeg (eC (.int 2))))) (eLst (aCons (e2 addD (e2 addD (e2 addD (e2 addD (eC (.str "(")) (e2 ixD (eVar 1) (eNeg (eC (.int 2))))) (e2 ixD (eLst (aCons (eC (.str "")) (aCons (eC (.str "|")) (aCons (eC (.str "&")) aNil)))) (e2 modD (eVar 3) (eC (.int 3))))) (e2 ixD (eVar 1) (eNeg (eC (.int 1))))) (eC (.str ")"))) aNil))))
  sPass)
  (sSeq (sIf (tAndM (tVal (e2 (eqD false) (e2 modD (eVar 2) (eC (.int 9))) (eC (.int 5)))) (tVal (e2 gtD (eCall lenD (aCons (eVar 1) aNil)) (eC (.int 1)))))
  (sRet (e2 addD (eCut (eVar 1) oNone (oSome (eNeg (eC (.int 2))))) (eLst (aCons (e2 addD (e2 addD (e2 addD (e2 addD (e2 addD (eC (.str "(")) (e2 ixD (eVar 1) (eNeg (eC (.int 2))))) (e2 ixD (eLst (aCons (eC (.str "&")) (aCons (eC (.str "|")) aNil))) (e2 modD (eVar 3) (eC (.int 2))))) (e2 ixD (eVar 1) (eNeg (eC (.int 1))))) (eC (.str ")"))) (e2 mulD (eC (.str "*")) (e2 modD (eVar 3) (eC (.int 3))))) aNil))))
  sPass)
  (sSeq (sIf (tAndM (tVal (e2 (eqD false) (e2 modD (eVar 2) (eC (.int 9))) (eC (.int 6)))) (tVal (e2 (eqD true) (eVar 1) (eLst aNil))))
  (sRet (e2 addD (eCut (eVar 1) oNone (oSome (eNeg (eC (.int 1))))) (eLst (aCons (e2 addD (e2 mulD (eC (.str "!")) (e2 addD (eC (.int 1)) (e2 modD (eVar 3) (eC (.int 3))))) (e2 ixD (eVar 1) (eNeg (eC (.int 1))))) aNil))))
  sPass)
  (sSeq (sIf (tAndM (tVal (e2 (eqD false) (e2 modD (eVar 2) (eC (.int 9))) (eC (.int 7)))) (tVal (e2 (eqD true) (eVar 1) (eLst aNil))))
  (sRet (e2 addD (eCut (eVar 1) oNone (oSome (eNeg (eC (.int 1))))) (eLst (aCons (e2 addD (e2 addD (e2 addD (eC (.str "(")) (e2 ixD (eVar 1) (eNeg (eC (.int 1))))) (eC (.str ")"))) (e2 mulD (eC (.str "*")) (e2 modD (eVar 3) (eC (.int 4))))) aNil))))
  sPass)
  (sSeq (sIf (tVal (e2 (eqD false) (e2 modD (eVar 2) (eC (.int 9))) (eC (.int 8))))
  (sRet (e2 addD (eVar 1) (eLst (aCons (e2 ixD (eLst (aCons (eC (.str "()")) (aCons (eC (.str "[]")) (aCons (eC (.str "(())")) (aCons (eC (.str "([])*")) (aCons (eC (.str "()**")) (aCons (eC (.str "!()")) aNil))))))) (e2 modD (eVar 3) (eC (.int 6)))) aNil))))
  sPass)
  (sRet (e2 addD (eVar 1) (eLst (aCons (e2 ixD (eVar 0) (e2 modD (eVar 3) (eCall lenD (aCons (eVar 0) aNil)))) aNil))))))))))
noncomputable def b__law_grown (call : Nat → Fn) : Fn := bodyF 4 (m__law_grown call)
noncomputable def m__law_edited (call : Nat → Fn) : SM :=
  (sSeq (sSet 3 (e2 modD (e2 mulD (eCall absD (aCons (eVar 2) aNil)) (eC (.int 48271))) (eC (.int 1000003))))
  (sSeq (sSet 4 (eLc (itV' (eC (.str "abcdefghijklmnopqrstuvwxyz"))) (.one 7) [7] (tVal (e2 (inD true) (eVar 7) (eVar 0))) (eVar 7)))
  (sSeq (sSet 5 (e2 ixD (eVar 4) (e2 modD (e2 fdivD (eVar 3) (eC (.int 7))) (eCall lenD (aCons (eVar 4) aNil)))))
  (sSeq (sSet 6 (e2 addD (e2 addD (e2 addD (e2 addD (eC (.str "()[]|&!*")) (eVar 0)) (eC (.str " A-"))) (eVar 5)) (eVar 5)))
  (sSeq (sSet 7 (e2 ixD (eVar 6) (e2 modD (e2 fdivD (eVar 3) (eC (.int 15))) (eCall lenD (aCons (eVar 6) aNil)))))
  (sSeq (sSet 8 (e2 modD (e2 fdivD (eVar 3) (eC (.int 300))) (e2 addD (eCall lenD (aCons (eVar 1) aNil)) (eC (.int 1)))))
  (sSeq (sIf (tVal (e2 (eqD false) (e2 modD (eVar 3) (eC (.int 5))) (eC (.int 4))))
  (sSeq (sSet 9 (eLc (itR1 (aCons (e2 addD (eCall lenD (aCons (eVar 1) aNil)) (eC (.int 1))) aNil)) (.one 10) [10] (tVal (e2 (inD false) (eCut (eVar 1) (oSome (eVar 10)) (oSome (e2 addD (eVar 10) (eC (.int 1))))) (eLst (aCons (eC (.str "")) (aCons (eC (.str "|")) (aCons (eC (.str "&")) (aCons (eC (.str ")")) aNil))))))) (eVar 10)))
  (sSeq (sSet 8 (e2 ixD (eVar 9) (e2 modD (e2 fdivD (eVar 3) (eC (.int 5))) (eCall lenD (aCons (eVar 9) aNil)))))
  (sRet (e2 addD (e2 addD (eCut (eVar 1) oNone (oSome (eVar 8))) (eC (.str "!"))) (eCut (eVar 1) (oSome (eVar 8)) oNone)))))
  sPass)
  (sSeq (sIf (tVal (e2 (eqD false) (e2 modD (eVar 3) (eC (.int 3))) (eC (.int 0))))
  (sRet (e2 addD (e2 addD (eCut (eVar 1) oNone (oSome (eVar 8))) (eVar 7)) (eCut (eVar 1) (oSome (eVar 8)) oNone)))
  sPass)
  (sRet (e2 addD (e2 addD (eCut (eVar 1) oNone (oSome (eVar 8))) (e2 mulD (eVar 7) (e2 subD (e2 modD (eVar 3) (eC (.int 3))) (eC (.int 1))))) (eCut (eVar 1) (oSome (e2 addD (eVar 8) (eC (.int 1)))) oNone)))))))))))
noncomputable def b__law_edited (call : Nat → Fn) : Fn := bodyF 11 (m__law_edited call)
noncomputable def m__law_odd (call : Nat → Fn) : SM :=
  (sSeq (sSet 2 (e2 ixD (eVar 0) (e2 modD (e2 fdivD (eVar 1) (eC (.int 11))) (eCall lenD (aCons (eVar 0) aNil)))))
  (sSeq (sSet 3 (eNew (aCons (eTup (aCons (e2 mulD (eVar 2) (eC (.int 401))) (aCons (eLst (aCons (eC (.str "great")) aNil)) aNil))) (aCons (eTup (aCons (e2 mulD (eC (.str "(")) (eC (.int 401))) (aCons (eLst (aCons (eC (.str "great")) aNil)) aNil))) (aCons (eTup (aCons (e2 mulD (eVar 2) (eC (.int 60))) (aCons (eLst (aCons (eC (.str "great")) aNil)) aNil))) (aCons (eTup (aCons (e2 addD (e2 mulD (eC (.str "!")) (eC (.int 60))) (eVar 2)) (aCons (eLst (aCons (eC (.str "great")) aNil)) aNil))) aNil))))))
  (sSeq (sSet 3 (e2 addN (eVar 3) (eLst (aCons (eTup (aCons (e2 addD (eVar 2) (e2 mulD (eC (.str "*")) (eC (.int 60)))) (aCons (eLst (aCons (eC (.str "great")) aNil)) aNil))) (aCons (eTup (aCons (e2 addD (e2 mulD (eC (.str "(")) (eC (.int 150))) (e2 mulD (eC (.str ")")) (eC (.int 150)))) (aCons (eTup (aCons (eC (.str "empty")) aNil)) aNil))) (aCons (eTup (aCons (eC .non) (aCons (eLst (aCons (eC (.str "text")) aNil)) aNil))) aNil))))))
  (sSeq (sSet 3 (e2 addN (eVar 3) (eLst (aCons (eTup (aCons (eC (.int 7)) (aCons (eLst (aCons (eC (.str "text")) aNil)) aNil))) (aCons (eTup (aCons (eLst (aCons (eVar 2) aNil)) (aCons (eLst (aCons (eC (.str "text")) aNil)) aNil))) (aCons (eTup (aCons (e2 mulD (eVar 2) (eC (.int 59))) (aCons (eTup (aCons (eC (.str "row")) (aCons (e2 mulD (eTup (aCons (eTup (aCons (eC (.str "sign")) (aCons (eVar 2) aNil))) aNil)) (eC (.int 59))) aNil))) aNil))) aNil))))))
  (sSeq (sSet 4 (eTup (aCons (eC (.str "sign")) (aCons (eVar 2) aNil))))
  (sSeq (sExpr (eLM apD (eVar 3) (eTup (aCons (e2 addD (e2 addD (e2 addD (e2 mulD (eC (.str "(")) (eC (.int 199))) (eVar 2)) (e2 mulD (eC (.str ")")) (eC (.int 199)))) (eVar 2)) (aCons (eTup (aCons (eC (.str "row")) (aCons (eTup (aCons (eVar 4) (aCons (eVar 4) aNil))) aNil))) aNil)))))
  (sRet (e2 ixD (eVar 3) (e2 modD (eVar 1) (eC (.int 11)))))))))))
noncomputable def b__law_odd (call : Nat → Fn) : Fn := bodyF 5 (m__law_odd call)
noncomputable def m_law (call : Nat → Fn) : SM :=
  (sSeq (sSet 1 (eCall (ar 1 (call i__law_letters)) (aCons (eCall (ar 2 (call i__law_cell_at)) (aCons (eVar 0) (aCons (eC (.int 0)) aNil))) aNil)))
  (sSeq (sSet 2 (eCall (ar 2 (call i__law_cell_at)) (aCons (eVar 0) (aCons (eC (.int 1)) aNil))))
  (sSeq (sIf (tVal (e2 (eqD false) (e2 modD (eVar 2) (eC (.int 9))) (eC (.int 4))))
  (sSeq (sAsg (eCall (ar 2 (call i__law_odd)) (aCons (eVar 1) (aCons (e2 fdivD (eVar 2) (eC (.int 9))) aNil))) (gTupD 2 (gMore (gVar 5) (gMore (gVar 6) gNone))))
  (sRet (eAnd (e2 (eqD false) (eCall (ar 2 (call i__law_told)) (aCons (eVar 1) (aCons (eVar 5) aNil))) (eVar 6)) (e2 (eqD false) (eCall (ar 2 (call i__law_told)) (aCons (eC (.str "")) (aCons (eVar 5) aNil))) (eLst (aCons (eC (.str "letters")) aNil))))))
  sPass)
  (sSeq (sSet 3 (eLst aNil))
  (sSeq (sFor (itV' (eCut (eVar 0) (oSome (eC (.int 3))) (oSome (eC (.int 17))))) (gVar 4)
  (sSet 3 (eCall (ar 3 (call i__law_grown)) (aCons (eVar 1) (aCons (eVar 3) (aCons (eVar 4) aNil))))))
  (sSeq (sSet 5 (e2 addD (e2 addD (eM1 joinD (eC (.str "")) (eCut (eVar 3) oNone (oSome (eC (.int 4))))) (e2 ixD (eLst (aCons (eC (.str "")) (aCons (eC (.str "|")) (aCons (eC (.str "&")) aNil)))) (e2 modD (e2 fdivD (eVar 2) (eC (.int 9))) (eC (.int 3))))) (eM1 joinD (eC (.str "")) (eCut (eVar 3) (oSome (eC (.int 4))) oNone))))
  (sSeq (sIf (tVal (e2 (eqD true) (eCall (ar 2 (call i__law_told)) (aCons (eVar 1) (aCons (eVar 5) aNil))) (eCall (ar 2 (call i__law_due)) (aCons (eVar 1) (aCons (eVar 5) aNil)))))
  (sRet (eC (.bl false)))
  sPass)
  (sSeq (sIf (tVal (e2 gtD (e2 modD (eVar 2) (eC (.int 3))) (eC (.int 0))))
  (sSet 5 (eCall (ar 3 (call i__law_edited)) (aCons (eVar 1) (aCons (eVar 5) (aCons (eCall (ar 2 (call i__law_cell_at)) (aCons (eVar 0) (aCons (eC (.int 2)) aNil))) aNil)))))
  sPass)
  (sRet (eAnd (e2 (eqD false) (eCall (ar 2 (call i__law_told)) (aCons (eVar 1) (aCons (eVar 5) aNil))) (eCall (ar 2 (call i__law_due)) (aCons (eVar 1) (aCons (eVar 5) aNil)))) (e2 (eqD false) (eCall (ar 2 (call i__law_told)) (aCons (eC (.str "Ab")) (aCons (eVar 5) aNil))) (eLst (aCons (eC (.str "letters")) aNil)))))))))))))
noncomputable def b_law (call : Nat → Fn) : Fn := bodyF 7 (m_law call)
noncomputable def fns : Nat → Nat → Fn
  | 0, _ => fun _ _ => .bad
  | k + 1, 0 => b_are_letters (fns k)
  | k + 1, 1 => b_need_letters (fns k)
  | k + 1, 2 => b_Made___init__ (fns k)
  | k + 1, 3 => b_Open___init__ (fns k)
  | k + 1, 4 => b_need (fns k)
  | k + 1, 5 => b_of_parts (fns k)
  | k + 1, 6 => b_end_half (fns k)
  | k + 1, 7 => b_end_branch (fns k)
  | k + 1, 8 => b_closed (fns k)
  | k + 1, 9 => b_put (fns k)
  | k + 1, 10 => b_marked (fns k)
  | k + 1, 11 => b_plain_atom (fns k)
  | k + 1, 12 => b_stars_at (fns k)
  | k + 1, 13 => b_read_all (fns k)
  | k + 1, 14 => b_read (fns k)
  | k + 1, 15 => b__law_cell_at (fns k)
  | k + 1, 16 => b__law_letters (fns k)
  | k + 1, 17 => b__law_size (fns k)
  | k + 1, 18 => b__law_of (fns k)
  | k + 1, 19 => b__law_item (fns k)
  | k + 1, 20 => b__law_half (fns k)
  | k + 1, 21 => b__law_either (fns k)
  | k + 1, 22 => b__law_due (fns k)
  | k + 1, 23 => b__law_told (fns k)
  | k + 1, 24 => b__law_grown (fns k)
  | k + 1, 25 => b__law_edited (fns k)
  | k + 1, 26 => b__law_odd (fns k)
  | k + 1, 27 => b_law (fns k)
  | _ + 1, _ => fun _ _ => .bad
theorem e_are_letters (k : Nat) : fns (k + 1) i_are_letters = bodyF 2 (m_are_letters (fns k)) := rfl
theorem e_need_letters (k : Nat) : fns (k + 1) i_need_letters = bodyF 1 (m_need_letters (fns k)) := rfl
theorem e_Made___init__ (k : Nat) : fns (k + 1) i_Made___init__ = bodyF 3 (m_Made___init__ (fns k)) := rfl
theorem e_Open___init__ (k : Nat) : fns (k + 1) i_Open___init__ = bodyF 1 (m_Open___init__ (fns k)) := rfl
theorem e_need (k : Nat) : fns (k + 1) i_need = bodyF 1 (m_need (fns k)) := rfl
theorem e_of_parts (k : Nat) : fns (k + 1) i_of_parts = bodyF 3 (m_of_parts (fns k)) := rfl
theorem e_end_half (k : Nat) : fns (k + 1) i_end_half = bodyF 1 (m_end_half (fns k)) := rfl
theorem e_end_branch (k : Nat) : fns (k + 1) i_end_branch = bodyF 1 (m_end_branch (fns k)) := rfl
theorem e_closed (k : Nat) : fns (k + 1) i_closed = bodyF 1 (m_closed (fns k)) := rfl
theorem e_put (k : Nat) : fns (k + 1) i_put = bodyF 4 (m_put (fns k)) := rfl
theorem e_marked (k : Nat) : fns (k + 1) i_marked = bodyF 2 (m_marked (fns k)) := rfl
theorem e_plain_atom (k : Nat) : fns (k + 1) i_plain_atom = bodyF 5 (m_plain_atom (fns k)) := rfl
theorem e_stars_at (k : Nat) : fns (k + 1) i_stars_at = bodyF 3 (m_stars_at (fns k)) := rfl
theorem e_read_all (k : Nat) : fns (k + 1) i_read_all = bodyF 6 (m_read_all (fns k)) := rfl
theorem e_read (k : Nat) : fns (k + 1) i_read = bodyF 3 (m_read (fns k)) := rfl
theorem e__law_cell_at (k : Nat) : fns (k + 1) i__law_cell_at = bodyF 2 (m__law_cell_at (fns k)) := rfl
theorem e__law_letters (k : Nat) : fns (k + 1) i__law_letters = bodyF 3 (m__law_letters (fns k)) := rfl
theorem e__law_size (k : Nat) : fns (k + 1) i__law_size = bodyF 2 (m__law_size (fns k)) := rfl
theorem e__law_of (k : Nat) : fns (k + 1) i__law_of = bodyF 2 (m__law_of (fns k)) := rfl
theorem e__law_item (k : Nat) : fns (k + 1) i__law_item = bodyF 6 (m__law_item (fns k)) := rfl
theorem e__law_half (k : Nat) : fns (k + 1) i__law_half = bodyF 5 (m__law_half (fns k)) := rfl
theorem e__law_either (k : Nat) : fns (k + 1) i__law_either = bodyF 6 (m__law_either (fns k)) := rfl
theorem e__law_due (k : Nat) : fns (k + 1) i__law_due = bodyF 3 (m__law_due (fns k)) := rfl
theorem e__law_told (k : Nat) : fns (k + 1) i__law_told = bodyF 3 (m__law_told (fns k)) := rfl
theorem e__law_grown (k : Nat) : fns (k + 1) i__law_grown = bodyF 4 (m__law_grown (fns k)) := rfl
theorem e__law_edited (k : Nat) : fns (k + 1) i__law_edited = bodyF 11 (m__law_edited (fns k)) := rfl
theorem e__law_odd (k : Nat) : fns (k + 1) i__law_odd = bodyF 5 (m__law_odd (fns k)) := rfl
theorem e_law (k : Nat) : fns (k + 1) i_law = bodyF 7 (m_law (fns k)) := rfl
structure Tx (K : PySem.W.Frag) (mg : Str → Option Value) where
  a : Nat → Addr
  fd : Nat → FuncData
  ca : Nat → Addr
  F0 : Fun K "are_letters" "are_letters" s_are_letters (a 0) (fd 0)
  g0 : mg "are_letters" = some (.ref (a 0))
  b0 : Binds K (fd 0) ["thing"] []
  F1 : Fun K "need_letters" "need_letters" s_need_letters (a 1) (fd 1)
  g1 : mg "need_letters" = some (.ref (a 1))
  b1 : Binds K (fd 1) ["letters"] []
  F2 : Fun K "__init__" "Made.__init__" s_Made___init__ (a 2) (fd 2)
  b2 : Binds K (fd 2) ["self", "pattern", "many"] []
  F3 : Fun K "__init__" "Open.__init__" s_Open___init__ (a 3) (fd 3)
  b3 : Binds K (fd 3) ["self"] []
  F4 : Fun K "need" "need" s_need (a 4) (fd 4)
  g4 : mg "need" = some (.ref (a 4))
  b4 : Binds K (fd 4) ["good"] []
  F5 : Fun K "of_parts" "of_parts" s_of_parts (a 5) (fd 5)
  g5 : mg "of_parts" = some (.ref (a 5))
  b5 : Binds K (fd 5) ["word", "parts"] []
  F6 : Fun K "end_half" "end_half" s_end_half (a 6) (fd 6)
  g6 : mg "end_half" = some (.ref (a 6))
  b6 : Binds K (fd 6) ["bracket"] []
  F7 : Fun K "end_branch" "end_branch" s_end_branch (a 7) (fd 7)
  g7 : mg "end_branch" = some (.ref (a 7))
  b7 : Binds K (fd 7) ["bracket"] []
  F8 : Fun K "closed" "closed" s_closed (a 8) (fd 8)
  g8 : mg "closed" = some (.ref (a 8))
  b8 : Binds K (fd 8) ["bracket"] []
  F9 : Fun K "put" "put" s_put (a 9) (fd 9)
  g9 : mg "put" = some (.ref (a 9))
  b9 : Binds K (fd 9) ["bracket", "atom", "stars"] []
  F10 : Fun K "marked" "marked" s_marked (a 10) (fd 10)
  g10 : mg "marked" = some (.ref (a 10))
  b10 : Binds K (fd 10) ["bracket", "sign"] []
  F11 : Fun K "plain_atom" "plain_atom" s_plain_atom (a 11) (fd 11)
  g11 : mg "plain_atom" = some (.ref (a 11))
  b11 : Binds K (fd 11) ["letters", "text", "at"] []
  F12 : Fun K "stars_at" "stars_at" s_stars_at (a 12) (fd 12)
  g12 : mg "stars_at" = some (.ref (a 12))
  b12 : Binds K (fd 12) ["text", "at"] []
  F13 : Fun K "read_all" "read_all" s_read_all (a 13) (fd 13)
  g13 : mg "read_all" = some (.ref (a 13))
  b13 : Binds K (fd 13) ["letters", "text"] []
  F14 : Fun K "read" "read" s_read (a 14) (fd 14)
  g14 : mg "read" = some (.ref (a 14))
  b14 : Binds K (fd 14) ["letters", "text"] []
  F15 : Fun K "_law_cell_at" "_law_cell_at" s__law_cell_at (a 15) (fd 15)
  g15 : mg "_law_cell_at" = some (.ref (a 15))
  b15 : Binds K (fd 15) ["_law_script", "_law_k"] []
  F16 : Fun K "_law_letters" "_law_letters" s__law_letters (a 16) (fd 16)
  g16 : mg "_law_letters" = some (.ref (a 16))
  b16 : Binds K (fd 16) ["_law_cell"] []
  F17 : Fun K "_law_size" "_law_size" s__law_size (a 17) (fd 17)
  g17 : mg "_law_size" = some (.ref (a 17))
  b17 : Binds K (fd 17) ["_law_pattern"] []
  F18 : Fun K "_law_of" "_law_of" s__law_of (a 18) (fd 18)
  g18 : mg "_law_of" = some (.ref (a 18))
  b18 : Binds K (fd 18) ["_law_word", "_law_patterns"] []
  F19 : Fun K "_law_item" "_law_item" s__law_item (a 19) (fd 19)
  g19 : mg "_law_item" = some (.ref (a 19))
  b19 : Binds K (fd 19) ["_law_letters_here", "_law_text", "_law_at"] []
  F20 : Fun K "_law_half" "_law_half" s__law_half (a 20) (fd 20)
  g20 : mg "_law_half" = some (.ref (a 20))
  b20 : Binds K (fd 20) ["_law_letters_here", "_law_text", "_law_at"] []
  F21 : Fun K "_law_either" "_law_either" s__law_either (a 21) (fd 21)
  g21 : mg "_law_either" = some (.ref (a 21))
  b21 : Binds K (fd 21) ["_law_letters_here", "_law_text", "_law_at"] []
  F22 : Fun K "_law_due" "_law_due" s__law_due (a 22) (fd 22)
  g22 : mg "_law_due" = some (.ref (a 22))
  b22 : Binds K (fd 22) ["_law_letters_here", "_law_text"] []
  F23 : Fun K "_law_told" "_law_told" s__law_told (a 23) (fd 23)
  g23 : mg "_law_told" = some (.ref (a 23))
  b23 : Binds K (fd 23) ["_law_letters_here", "_law_text"] []
  F24 : Fun K "_law_grown" "_law_grown" s__law_grown (a 24) (fd 24)
  g24 : mg "_law_grown" = some (.ref (a 24))
  b24 : Binds K (fd 24) ["_law_letters_here", "_law_texts", "_law_cell"] []
  F25 : Fun K "_law_edited" "_law_edited" s__law_edited (a 25) (fd 25)
  g25 : mg "_law_edited" = some (.ref (a 25))
  b25 : Binds K (fd 25) ["_law_letters_here", "_law_text", "_law_cell"] []
  F26 : Fun K "_law_odd" "_law_odd" s__law_odd (a 26) (fd 26)
  g26 : mg "_law_odd" = some (.ref (a 26))
  b26 : Binds K (fd 26) ["_law_letters_here", "_law_cell"] []
  F27 : Fun K "law" "law" s_law (a 27) (fd 27)
  g27 : mg "law" = some (.ref (a 27))
  b27 : Binds K (fd 27) ["_law_script"] []
  n_ValueError : mg "ValueError" = none
  n_abs : mg "abs" = none
  n_all : mg "all" = none
  n_int : mg "int" = none
  n_isinstance : mg "isinstance" = none
  n_len : mg "len" = none
  n_range : mg "range" = none
  n_str : mg "str" = none
  n_sum : mg "sum" = none
  n_tuple : mg "tuple" = none
  k_SMALL : GlobD K mg "SMALL" (.str "abcdefghijklmnopqrstuvwxyz")
  k_MOST_LETTERS : GlobD K mg "MOST_LETTERS" (.int 4)
  k_MOST_NODES : GlobD K mg "MOST_NODES" (.int 60)
  k_MOST_TEXT : GlobD K mg "MOST_TEXT" (.int 400)
  k_NONE : GlobD K mg "NONE" (.tup [.str "none"])
  k_EMPTY : GlobD K mg "EMPTY" (.tup [.str "empty"])
  M_Made : Mk K (ca 6) (a 2)
  C_Made : Cls K (ca 6)
  G_Made : mg "Made" = some (.ref (ca 6))
  na_Made_pattern : NoAttr K (ca 6) "pattern"
  na_Made_many : NoAttr K (ca 6) "many"
  M_Open : Mk K (ca 7) (a 3)
  C_Open : Cls K (ca 7)
  G_Open : mg "Open" = some (.ref (ca 7))
  na_Open_branches : NoAttr K (ca 7) "branches"
  na_Open_halves : NoAttr K (ca 7) "halves"
  na_Open_held : NoAttr K (ca 7) "held"
  na_Open_nots : NoAttr K (ca 7) "nots"
  x0 : ExT K mg "PatternError" (ca 0)
  x1 : ExT K mg "NoLetters" (ca 1)
  x2 : ExT K mg "NoPattern" (ca 2)
  x3 : ExT K mg "TooGreat" (ca 3)
  x4 : ExT K mg "NoText" (ca 4)
  x5 : ExT K mg "NoRoom" (ca 5)
  ak : Addr
  fdk : FuncData
  F_kind : Fun K "_law_kind" "_law_kind" s__law_kind ak fdk
  g_kind : mg "_law_kind" = some (.ref ak)
  b_kind : Binds K fdk ["_law_error"] []
  xk : ExK K ca
structure Ok (P : Program) (w : World) (K : PySem.W.Frag) (mg : Str → Option Value) (base : Heap) (T : Tx K mg) (k : Nat) : Prop where
  o0 : FnOk P w K mg base (L2N.CX P w) (2 * k + 1) (T.a 0) (T.fd 0) ["thing"] (spOf K T.ca 1 (fns k 0))
  o1 : FnOk P w K mg base (L2N.CX P w) (2 * k + 1) (T.a 1) (T.fd 1) ["letters"] (spOf K T.ca 1 (fns k 1))
  o2 : FnOk P w K mg base (L2N.CX P w) (2 * k + 1) (T.a 2) (T.fd 2) ["self", "pattern", "many"] (spOf K T.ca 3 (fns k 2))
  o3 : FnOk P w K mg base (L2N.CX P w) (2 * k + 1) (T.a 3) (T.fd 3) ["self"] (spOf K T.ca 1 (fns k 3))
  o4 : FnOk P w K mg base (L2N.CX P w) (2 * k + 1) (T.a 4) (T.fd 4) ["good"] (spOf K T.ca 1 (fns k 4))
  o5 : FnOk P w K mg base (L2N.CX P w) (2 * k + 1) (T.a 5) (T.fd 5) ["word", "parts"] (spOf K T.ca 2 (fns k 5))
  o6 : FnOk P w K mg base (L2N.CX P w) (2 * k + 1) (T.a 6) (T.fd 6) ["bracket"] (spOf K T.ca 1 (fns k 6))
  o7 : FnOk P w K mg base (L2N.CX P w) (2 * k + 1) (T.a 7) (T.fd 7) ["bracket"] (spOf K T.ca 1 (fns k 7))
  o8 : FnOk P w K mg base (L2N.CX P w) (2 * k + 1) (T.a 8) (T.fd 8) ["bracket"] (spOf K T.ca 1 (fns k 8))
  o9 : FnOk P w K mg base (L2N.CX P w) (2 * k + 1) (T.a 9) (T.fd 9) ["bracket", "atom", "stars"] (spOf K T.ca 3 (fns k 9))
  o10 : FnOk P w K mg base (L2N.CX P w) (2 * k + 1) (T.a 10) (T.fd 10) ["bracket", "sign"] (spOf K T.ca 2 (fns k 10))
  o11 : FnOk P w K mg base (L2N.CX P w) (2 * k + 1) (T.a 11) (T.fd 11) ["letters", "text", "at"] (spOf K T.ca 3 (fns k 11))
  o12 : FnOk P w K mg base (L2N.CX P w) (2 * k + 1) (T.a 12) (T.fd 12) ["text", "at"] (spOf K T.ca 2 (fns k 12))
  o13 : FnOk P w K mg base (L2N.CX P w) (2 * k + 1) (T.a 13) (T.fd 13) ["letters", "text"] (spOf K T.ca 2 (fns k 13))
  o14 : FnOk P w K mg base (L2N.CX P w) (2 * k + 1) (T.a 14) (T.fd 14) ["letters", "text"] (spOf K T.ca 2 (fns k 14))
  o15 : FnOk P w K mg base (L2N.CX P w) (2 * k + 1) (T.a 15) (T.fd 15) ["_law_script", "_law_k"] (spOf K T.ca 2 (fns k 15))
  o16 : FnOk P w K mg base (L2N.CX P w) (2 * k + 1) (T.a 16) (T.fd 16) ["_law_cell"] (spOf K T.ca 1 (fns k 16))
  o17 : FnOk P w K mg base (L2N.CX P w) (2 * k + 1) (T.a 17) (T.fd 17) ["_law_pattern"] (spOf K T.ca 1 (fns k 17))
  o18 : FnOk P w K mg base (L2N.CX P w) (2 * k + 1) (T.a 18) (T.fd 18) ["_law_word", "_law_patterns"] (spOf K T.ca 2 (fns k 18))
  o19 : FnOk P w K mg base (L2N.CX P w) (2 * k + 1) (T.a 19) (T.fd 19) ["_law_letters_here", "_law_text", "_law_at"] (spOf K T.ca 3 (fns k 19))
  o20 : FnOk P w K mg base (L2N.CX P w) (2 * k + 1) (T.a 20) (T.fd 20) ["_law_letters_here", "_law_text", "_law_at"] (spOf K T.ca 3 (fns k 20))
  o21 : FnOk P w K mg base (L2N.CX P w) (2 * k + 1) (T.a 21) (T.fd 21) ["_law_letters_here", "_law_text", "_law_at"] (spOf K T.ca 3 (fns k 21))
  o22 : FnOk P w K mg base (L2N.CX P w) (2 * k + 1) (T.a 22) (T.fd 22) ["_law_letters_here", "_law_text"] (spOf K T.ca 2 (fns k 22))
  o23 : FnOk P w K mg base (L2N.CX P w) (2 * k + 1) (T.a 23) (T.fd 23) ["_law_letters_here", "_law_text"] (spOf K T.ca 2 (fns k 23))
  o24 : FnOk P w K mg base (L2N.CX P w) (2 * k + 1) (T.a 24) (T.fd 24) ["_law_letters_here", "_law_texts", "_law_cell"] (spOf K T.ca 3 (fns k 24))
  o25 : FnOk P w K mg base (L2N.CX P w) (2 * k + 1) (T.a 25) (T.fd 25) ["_law_letters_here", "_law_text", "_law_cell"] (spOf K T.ca 3 (fns k 25))
  o26 : FnOk P w K mg base (L2N.CX P w) (2 * k + 1) (T.a 26) (T.fd 26) ["_law_letters_here", "_law_cell"] (spOf K T.ca 2 (fns k 26))
  o27 : FnOk P w K mg base (L2N.CX P w) (2 * k + 1) (T.a 27) (T.fd 27) ["_law_script"] (spOf K T.ca 1 (fns k 27))
  kd : FnP P w K mg base (L2N.CX P w) 1 T.ak T.fdk ["_law_error"] (spKind K T.ca)
section
variable {P : Program} {w : World} {K : PySem.W.Frag} {mg : Str → Option Value} {base : Heap}
theorem ok_kind (T : Tx K mg) : FnP P w K mg base (L2N.CX P w) 1 T.ak T.fdk ["_law_error"] (spKind K T.ca) :=
  fn_kind (ca := T.ca) (N := ["_law_error", "_law_found", "_law_word", "_law_is_one"]) rfl T.F_kind sc__law_kind (fun X p c ⟨cdv, A, outer, s, H, E, hX⟩ hr hot hpn h1 h5 hz => by
    subst hX
    have nd := sc__law_kind.nd
    have hu := huH hr
    have hf : ∃ vs, p.2.data = .fields vs := by obtain ⟨vs, e, _⟩ := hot.2; exact ⟨vs, e⟩
    have X1 := T.xk.c c h1 h5
    have X2 := T.xk.ko c
    have X3 := T.xk.kv c h1 h5
    show DSs _ T.ca _ _ (m_kind c p.1)
    exact (dss_cons wid_0 (ds_set 1 nd (de_lst (da_cons (de_tup (da_cons de_str (da_cons (de_isE (b := decide (c = 1)) T.x1.g X1 hpn hz hf (X2 1 h1 h5 (by decide) (by decide)) T.n_isinstance (de_var 0)) da_nil))) (da_cons (de_tup (da_cons de_str (da_cons (de_isE (b := decide (c = 2)) T.x2.g X1 hpn hz hf (X2 2 h1 h5 (by decide) (by decide)) T.n_isinstance (de_var 0)) da_nil))) da_nil))))
      (dss_cons wid_0 (ds_set 1 nd (de_bin op_addA imp_add (de_var 1) (de_lst (da_cons (de_tup (da_cons de_str (da_cons (de_isE (b := decide (c = 3)) T.x3.g X1 hpn hz hf (X2 3 h1 h5 (by decide) (by decide)) T.n_isinstance (de_var 0)) da_nil))) (da_cons (de_tup (da_cons de_str (da_cons (de_isE (b := decide (c = 4)) T.x4.g X1 hpn hz hf (X2 4 h1 h5 (by decide) (by decide)) T.n_isinstance (de_var 0)) da_nil))) da_nil)))))
      (dss_cons wid_0 (ds_setLcH (p := p) (t := .two 2 3) (own := [("_law_word", 2), ("_law_is_one", 3)]) 1 hot hpn nd (dih_list (de_bin op_addA imp_add (de_var 1) (de_lst (da_cons (de_tup (da_cons de_str (da_cons (de_isE (b := decide (c = 5)) T.x5.g X1 hpn hz hf (X2 5 h1 h5 (by decide) (by decide)) T.n_isinstance (de_var 0)) da_nil))) da_nil))))
          (blkOk_by (N := ["_law_error", "_law_found", "_law_word", "_law_is_one"]) (sc := defScope s__law_kind) (by decide +kernel)) ⟨List.mem_cons_self, List.mem_cons_of_mem _ List.mem_cons_self⟩ (fun _ _ _ _ _ b => tg_twoH 2 3 hot.1 b nd) (fun _ _ _ _ _ => dts_one (dt_val (de_var 3))) (fun _ _ _ _ _ => de_var 2))
      (dss_one (ds_ret (de_bin op_mulA imp_mul (de_var 1) (de_callTy call_int1 imp_int rfl T.n_int B.int (da_cons (de_and (de_cmp (op_eqP hu) (imp_eqP false) (de_callB call_len imp_len rfl T.n_len PySem.boot_len (da_cons (de_var 1) da_nil)) de_int) (de_one (de_isEV X1 hpn hz hf X3 T.n_isinstance T.n_ValueError (de_var 0)))) da_nil)))))))))
theorem ok_are_letters {k : Nat} (T : Tx K mg) (O : Ok P w K mg base T k) : FnOk P w K mg base (L2N.CX P w) (2 * k + 3) (T.a 0) (T.fd 0) ["thing"] (spOf K T.ca 1 (fns (k + 1) 0)) := by
  show FnOk P w K mg base (L2N.CX P w) (2 * k + 3) (T.a 0) (T.fd 0) ["thing"] (spOf K T.ca 1 (b_are_letters (fns k)))
  exact fn_ok (N := ["thing", "sign"]) 2 1 (m_are_letters (fns k)) rfl rfl T.F0 sc_are_letters (fun X E ⟨cdv, A, outer, s, H, hX⟩ hr => by
    subst hX
    have nd := sc_are_letters.nd
    have hu := hu200 hr
    have hW := wid_fn (E := E)
    have tk := tk_fn (P := P) (w := w) (K := K) (mg := mg) (base := base) (N := ["thing", "sign"]) (qual := "are_letters") (scope := defScope s_are_letters) (f := T.a 0) (cd := cdv) (A := A) (outer := outer) (s := s) (H := H) (E := E)
    have hp := hp_fn (P := P) (w := w) (K := K) (mg := mg) (base := base) (N := ["thing", "sign"]) (qual := "are_letters") (scope := defScope s_are_letters) (f := T.a 0) (cd := cdv) (A := A) (outer := outer) (s := s) (H := H) (E := E)
    show DSs _ T.ca _ _ (m_are_letters (fns k))
    exact (dss_cons hW (ds_if (dt_w (dw_or (dt_not (dt_val (de_isi T.n_isinstance T.n_str B.str (by decide) (de_var 0)))) (dw_or1 (dt_not (dt_chain op_le op_le imp_le imp_le de_int (de_callB call_len imp_len rfl T.n_len PySem.boot_len (da_cons (de_var 0) da_nil)) (de_globD rfl T.k_MOST_LETTERS))))))
  (dss_one (ds_ret de_bl))
  dss_nil)
  (dss_one (ds_ret (de_callB (cr_all rfl) imp_all rfl T.n_all boot_all (da_cons (de_lc rfl nd (t := (.one 1)) (own := [("sign", 1)]) (di_any (de_var 0)) (blkOk_by (N := ["thing", "sign"]) (sc := defScope s_are_letters) (by decide +kernel)) List.mem_cons_self (fun _ _ _ _ _ => tg_one 1 nd) (fun _ _ _ _ _ => dts_nil) (fun _ _ _ _ _ => (de_and (de_cmp (op_inA hu) (imp_in false) (de_var 1) (de_globD rfl T.k_SMALL)) (de_one (de_cmp (op_eqP hu) (imp_eqP false) (de_count (de_var 0) (de_var 1)) de_int))))) da_nil))))))
theorem ok_need_letters {k : Nat} (T : Tx K mg) (O : Ok P w K mg base T k) : FnOk P w K mg base (L2N.CX P w) (2 * k + 3) (T.a 1) (T.fd 1) ["letters"] (spOf K T.ca 1 (fns (k + 1) 1)) := by
  show FnOk P w K mg base (L2N.CX P w) (2 * k + 3) (T.a 1) (T.fd 1) ["letters"] (spOf K T.ca 1 (b_need_letters (fns k)))
  exact fn_ok (N := ["letters"]) 1 1 (m_need_letters (fns k)) rfl rfl T.F1 sc_need_letters (fun X E ⟨cdv, A, outer, s, H, hX⟩ hr => by
    subst hX
    have nd := sc_need_letters.nd
    have hu := hu200 hr
    have hW := wid_fn (E := E)
    have tk := tk_fn (P := P) (w := w) (K := K) (mg := mg) (base := base) (N := ["letters"]) (qual := "need_letters") (scope := defScope s_need_letters) (f := T.a 1) (cd := cdv) (A := A) (outer := outer) (s := s) (H := H) (E := E)
    have hp := hp_fn (P := P) (w := w) (K := K) (mg := mg) (base := base) (N := ["letters"]) (qual := "need_letters") (scope := defScope s_need_letters) (f := T.a 1) (cd := cdv) (A := A) (outer := outer) (s := s) (H := H) (E := E)
    show DSs _ T.ca _ _ (m_need_letters (fns k))
    exact (dss_one (ds_if (dt_not (dt_val (de_call O.o0 (hr.mono (by omega)) tk T.g0 T.F0.kp T.b0 (da_cons (de_var 0) da_nil))))
  (dss_one (ds_raise (c := 1) T.x1 rfl tk))
  dss_nil)))
theorem ok_Made___init__ {k : Nat} (T : Tx K mg) (O : Ok P w K mg base T k) : FnOk P w K mg base (L2N.CX P w) (2 * k + 3) (T.a 2) (T.fd 2) ["self", "pattern", "many"] (spOf K T.ca 3 (fns (k + 1) 2)) := by
  show FnOk P w K mg base (L2N.CX P w) (2 * k + 3) (T.a 2) (T.fd 2) ["self", "pattern", "many"] (spOf K T.ca 3 (b_Made___init__ (fns k)))
  exact fn_ok (N := ["self", "pattern", "many"]) 3 3 (m_Made___init__ (fns k)) rfl rfl T.F2 sc_Made___init__ (fun X E ⟨cdv, A, outer, s, H, hX⟩ hr => by
    subst hX
    have nd := sc_Made___init__.nd
    have hu := hu200 hr
    have hW := wid_fn (E := E)
    have tk := tk_fn (P := P) (w := w) (K := K) (mg := mg) (base := base) (N := ["self", "pattern", "many"]) (qual := "Made.__init__") (scope := defScope s_Made___init__) (f := T.a 2) (cd := cdv) (A := A) (outer := outer) (s := s) (H := H) (E := E)
    have hp := hp_fn (P := P) (w := w) (K := K) (mg := mg) (base := base) (N := ["self", "pattern", "many"]) (qual := "Made.__init__") (scope := defScope s_Made___init__) (f := T.a 2) (cd := cdv) (A := A) (outer := outer) (s := s) (H := H) (E := E)
    show DSs _ T.ca _ _ (m_Made___init__ (fns k))
    exact (dss_cons hW (ds_fld (cs := [6]) (fun c hc => by cases List.mem_singleton.mp hc; exact T.na_Made_pattern) (de_var 0) (de_var 1))
  (dss_one (ds_fld (cs := [6]) (fun c hc => by cases List.mem_singleton.mp hc; exact T.na_Made_many) (de_var 0) (de_var 2)))))
theorem ok_Open___init__ {k : Nat} (T : Tx K mg) (O : Ok P w K mg base T k) : FnOk P w K mg base (L2N.CX P w) (2 * k + 3) (T.a 3) (T.fd 3) ["self"] (spOf K T.ca 1 (fns (k + 1) 3)) := by
  show FnOk P w K mg base (L2N.CX P w) (2 * k + 3) (T.a 3) (T.fd 3) ["self"] (spOf K T.ca 1 (b_Open___init__ (fns k)))
  exact fn_ok (N := ["self"]) 1 1 (m_Open___init__ (fns k)) rfl rfl T.F3 sc_Open___init__ (fun X E ⟨cdv, A, outer, s, H, hX⟩ hr => by
    subst hX
    have nd := sc_Open___init__.nd
    have hu := hu200 hr
    have hW := wid_fn (E := E)
    have tk := tk_fn (P := P) (w := w) (K := K) (mg := mg) (base := base) (N := ["self"]) (qual := "Open.__init__") (scope := defScope s_Open___init__) (f := T.a 3) (cd := cdv) (A := A) (outer := outer) (s := s) (H := H) (E := E)
    have hp := hp_fn (P := P) (w := w) (K := K) (mg := mg) (base := base) (N := ["self"]) (qual := "Open.__init__") (scope := defScope s_Open___init__) (f := T.a 3) (cd := cdv) (A := A) (outer := outer) (s := s) (H := H) (E := E)
    show DSs _ T.ca _ _ (m_Open___init__ (fns k))
    exact (dss_cons hW (ds_fld (cs := [7]) (fun c hc => by cases List.mem_singleton.mp hc; exact T.na_Open_branches) (de_var 0) (de_new da_nil))
  (dss_cons hW (ds_fld (cs := [7]) (fun c hc => by cases List.mem_singleton.mp hc; exact T.na_Open_halves) (de_var 0) (de_new da_nil))
  (dss_cons hW (ds_fld (cs := [7]) (fun c hc => by cases List.mem_singleton.mp hc; exact T.na_Open_held) (de_var 0) (de_new da_nil))
  (dss_one (ds_fld (cs := [7]) (fun c hc => by cases List.mem_singleton.mp hc; exact T.na_Open_nots) (de_var 0) de_int))))))
theorem ok_need {k : Nat} (T : Tx K mg) (O : Ok P w K mg base T k) : FnOk P w K mg base (L2N.CX P w) (2 * k + 3) (T.a 4) (T.fd 4) ["good"] (spOf K T.ca 1 (fns (k + 1) 4)) := by
  show FnOk P w K mg base (L2N.CX P w) (2 * k + 3) (T.a 4) (T.fd 4) ["good"] (spOf K T.ca 1 (b_need (fns k)))
  exact fn_ok (N := ["good"]) 1 1 (m_need (fns k)) rfl rfl T.F4 sc_need (fun X E ⟨cdv, A, outer, s, H, hX⟩ hr => by
    subst hX
    have nd := sc_need.nd
    have hu := hu200 hr
    have hW := wid_fn (E := E)
    have tk := tk_fn (P := P) (w := w) (K := K) (mg := mg) (base := base) (N := ["good"]) (qual := "need") (scope := defScope s_need) (f := T.a 4) (cd := cdv) (A := A) (outer := outer) (s := s) (H := H) (E := E)
    have hp := hp_fn (P := P) (w := w) (K := K) (mg := mg) (base := base) (N := ["good"]) (qual := "need") (scope := defScope s_need) (f := T.a 4) (cd := cdv) (A := A) (outer := outer) (s := s) (H := H) (E := E)
    show DSs _ T.ca _ _ (m_need (fns k))
    exact (dss_one (ds_if (dt_not (dt_val (de_var 0)))
  (dss_one (ds_raise (c := 4) T.x4 rfl tk))
  dss_nil)))
theorem ok_of_parts {k : Nat} (T : Tx K mg) (O : Ok P w K mg base T k) : FnOk P w K mg base (L2N.CX P w) (2 * k + 3) (T.a 5) (T.fd 5) ["word", "parts"] (spOf K T.ca 2 (fns (k + 1) 5)) := by
  show FnOk P w K mg base (L2N.CX P w) (2 * k + 3) (T.a 5) (T.fd 5) ["word", "parts"] (spOf K T.ca 2 (b_of_parts (fns k)))
  exact fn_ok (N := ["word", "parts", "part"]) 3 2 (m_of_parts (fns k)) rfl rfl T.F5 sc_of_parts (fun X E ⟨cdv, A, outer, s, H, hX⟩ hr => by
    subst hX
    have nd := sc_of_parts.nd
    have hu := hu200 hr
    have hW := wid_fn (E := E)
    have tk := tk_fn (P := P) (w := w) (K := K) (mg := mg) (base := base) (N := ["word", "parts", "part"]) (qual := "of_parts") (scope := defScope s_of_parts) (f := T.a 5) (cd := cdv) (A := A) (outer := outer) (s := s) (H := H) (E := E)
    have hp := hp_fn (P := P) (w := w) (K := K) (mg := mg) (base := base) (N := ["word", "parts", "part"]) (qual := "of_parts") (scope := defScope s_of_parts) (f := T.a 5) (cd := cdv) (A := A) (outer := outer) (s := s) (H := H) (E := E)
    show DSs _ T.ca _ _ (m_of_parts (fns k))
    exact (dss_cons hW (ds_expr (de_call O.o4 (hr.mono (by omega)) tk T.g4 T.F4.kp T.b4 (da_cons (de_cmp op_gt imp_gt (de_callB call_len imp_len rfl T.n_len PySem.boot_len (da_cons (de_var 1) da_nil)) de_int) da_nil)))
  (dss_cons hW (ds_if (dt_cmp (op_eqP hu) (imp_eqP false) (de_callB call_len imp_len rfl T.n_len PySem.boot_len (da_cons (de_var 1) da_nil)) de_int)
  (dss_one (ds_ret (de_ix (de_var 1) de_int)))
  dss_nil)
  (dss_one (ds_ret (de_makeF T.M_Made T.C_Made O.o2 hr T.G_Made T.b2 (da_cons (de_tup (da_cons (de_var 0) (da_cons (de_callTy call_tuple_of imp_tuple rfl T.n_tuple B.tuple (da_cons (de_lc rfl nd (t := (.one 2)) (own := [("part", 2)]) (di_any (de_var 1)) (blkOk_by (N := ["word", "parts", "part"]) (sc := defScope s_of_parts) (by decide +kernel)) List.mem_cons_self (fun _ _ _ _ _ => tg_one 2 nd) (fun _ _ _ _ _ => dts_nil) (fun _ _ _ _ _ => (de_fld (de_var 2)))) da_nil)) da_nil))) (da_cons (de_bin op_addA imp_add de_int (de_callB (cr_sum rfl) imp_sum rfl T.n_sum boot_sum (da_cons (de_lc rfl nd (t := (.one 2)) (own := [("part", 2)]) (di_any (de_var 1)) (blkOk_by (N := ["word", "parts", "part"]) (sc := defScope s_of_parts) (by decide +kernel)) List.mem_cons_self (fun _ _ _ _ _ => tg_one 2 nd) (fun _ _ _ _ _ => dts_nil) (fun _ _ _ _ _ => (de_fld (de_var 2)))) da_nil))) da_nil))))))))
theorem ok_end_half {k : Nat} (T : Tx K mg) (O : Ok P w K mg base T k) : FnOk P w K mg base (L2N.CX P w) (2 * k + 3) (T.a 6) (T.fd 6) ["bracket"] (spOf K T.ca 1 (fns (k + 1) 6)) := by
  show FnOk P w K mg base (L2N.CX P w) (2 * k + 3) (T.a 6) (T.fd 6) ["bracket"] (spOf K T.ca 1 (b_end_half (fns k)))
  exact fn_ok (N := ["bracket"]) 1 1 (m_end_half (fns k)) rfl rfl T.F6 sc_end_half (fun X E ⟨cdv, A, outer, s, H, hX⟩ hr => by
    subst hX
    have nd := sc_end_half.nd
    have hu := hu200 hr
    have hW := wid_fn (E := E)
    have tk := tk_fn (P := P) (w := w) (K := K) (mg := mg) (base := base) (N := ["bracket"]) (qual := "end_half") (scope := defScope s_end_half) (f := T.a 6) (cd := cdv) (A := A) (outer := outer) (s := s) (H := H) (E := E)
    have hp := hp_fn (P := P) (w := w) (K := K) (mg := mg) (base := base) (N := ["bracket"]) (qual := "end_half") (scope := defScope s_end_half) (f := T.a 6) (cd := cdv) (A := A) (outer := outer) (s := s) (H := H) (E := E)
    show DSs _ T.ca _ _ (m_end_half (fns k))
    exact (dss_cons hW (ds_expr (de_call O.o4 (hr.mono (by omega)) tk T.g4 T.F4.kp T.b4 (da_cons (de_cmp (op_eqP hu) (imp_eqP false) (de_fld (de_var 0)) de_int) da_nil)))
  (dss_cons hW (ds_expr (de_append (de_fld (de_var 0)) (de_call O.o5 (hr.mono (by omega)) tk T.g5 T.F5.kp T.b5 (da_cons de_str (da_cons (de_fld (de_var 0)) da_nil)))))
  (dss_one (ds_fld (cs := [7]) (fun c hc => by cases List.mem_singleton.mp hc; exact T.na_Open_held) (de_var 0) (de_new da_nil))))))
theorem ok_end_branch {k : Nat} (T : Tx K mg) (O : Ok P w K mg base T k) : FnOk P w K mg base (L2N.CX P w) (2 * k + 3) (T.a 7) (T.fd 7) ["bracket"] (spOf K T.ca 1 (fns (k + 1) 7)) := by
  show FnOk P w K mg base (L2N.CX P w) (2 * k + 3) (T.a 7) (T.fd 7) ["bracket"] (spOf K T.ca 1 (b_end_branch (fns k)))
  exact fn_ok (N := ["bracket"]) 1 1 (m_end_branch (fns k)) rfl rfl T.F7 sc_end_branch (fun X E ⟨cdv, A, outer, s, H, hX⟩ hr => by
    subst hX
    have nd := sc_end_branch.nd
    have hu := hu200 hr
    have hW := wid_fn (E := E)
    have tk := tk_fn (P := P) (w := w) (K := K) (mg := mg) (base := base) (N := ["bracket"]) (qual := "end_branch") (scope := defScope s_end_branch) (f := T.a 7) (cd := cdv) (A := A) (outer := outer) (s := s) (H := H) (E := E)
    have hp := hp_fn (P := P) (w := w) (K := K) (mg := mg) (base := base) (N := ["bracket"]) (qual := "end_branch") (scope := defScope s_end_branch) (f := T.a 7) (cd := cdv) (A := A) (outer := outer) (s := s) (H := H) (E := E)
    show DSs _ T.ca _ _ (m_end_branch (fns k))
    exact (dss_cons hW (ds_expr (de_call O.o6 (hr.mono (by omega)) tk T.g6 T.F6.kp T.b6 (da_cons (de_var 0) da_nil)))
  (dss_cons hW (ds_expr (de_append (de_fld (de_var 0)) (de_call O.o5 (hr.mono (by omega)) tk T.g5 T.F5.kp T.b5 (da_cons de_str (da_cons (de_fld (de_var 0)) da_nil)))))
  (dss_one (ds_fld (cs := [7]) (fun c hc => by cases List.mem_singleton.mp hc; exact T.na_Open_halves) (de_var 0) (de_new da_nil))))))
theorem ok_closed {k : Nat} (T : Tx K mg) (O : Ok P w K mg base T k) : FnOk P w K mg base (L2N.CX P w) (2 * k + 3) (T.a 8) (T.fd 8) ["bracket"] (spOf K T.ca 1 (fns (k + 1) 8)) := by
  show FnOk P w K mg base (L2N.CX P w) (2 * k + 3) (T.a 8) (T.fd 8) ["bracket"] (spOf K T.ca 1 (b_closed (fns k)))
  exact fn_ok (N := ["bracket"]) 1 1 (m_closed (fns k)) rfl rfl T.F8 sc_closed (fun X E ⟨cdv, A, outer, s, H, hX⟩ hr => by
    subst hX
    have nd := sc_closed.nd
    have hu := hu200 hr
    have hW := wid_fn (E := E)
    have tk := tk_fn (P := P) (w := w) (K := K) (mg := mg) (base := base) (N := ["bracket"]) (qual := "closed") (scope := defScope s_closed) (f := T.a 8) (cd := cdv) (A := A) (outer := outer) (s := s) (H := H) (E := E)
    have hp := hp_fn (P := P) (w := w) (K := K) (mg := mg) (base := base) (N := ["bracket"]) (qual := "closed") (scope := defScope s_closed) (f := T.a 8) (cd := cdv) (A := A) (outer := outer) (s := s) (H := H) (E := E)
    show DSs _ T.ca _ _ (m_closed (fns k))
    exact (dss_cons hW (ds_expr (de_call O.o7 (hr.mono (by omega)) tk T.g7 T.F7.kp T.b7 (da_cons (de_var 0) da_nil)))
  (dss_one (ds_ret (de_call O.o5 (hr.mono (by omega)) tk T.g5 T.F5.kp T.b5 (da_cons de_str (da_cons (de_fld (de_var 0)) da_nil)))))))
theorem ok_put {k : Nat} (T : Tx K mg) (O : Ok P w K mg base T k) : FnOk P w K mg base (L2N.CX P w) (2 * k + 3) (T.a 9) (T.fd 9) ["bracket", "atom", "stars"] (spOf K T.ca 3 (fns (k + 1) 9)) := by
  show FnOk P w K mg base (L2N.CX P w) (2 * k + 3) (T.a 9) (T.fd 9) ["bracket", "atom", "stars"] (spOf K T.ca 3 (b_put (fns k)))
  exact fn_ok (N := ["bracket", "atom", "stars", "turn"]) 4 3 (m_put (fns k)) rfl rfl T.F9 sc_put (fun X E ⟨cdv, A, outer, s, H, hX⟩ hr => by
    subst hX
    have nd := sc_put.nd
    have hu := hu200 hr
    have hW := wid_fn (E := E)
    have tk := tk_fn (P := P) (w := w) (K := K) (mg := mg) (base := base) (N := ["bracket", "atom", "stars", "turn"]) (qual := "put") (scope := defScope s_put) (f := T.a 9) (cd := cdv) (A := A) (outer := outer) (s := s) (H := H) (E := E)
    have hp := hp_fn (P := P) (w := w) (K := K) (mg := mg) (base := base) (N := ["bracket", "atom", "stars", "turn"]) (qual := "put") (scope := defScope s_put) (f := T.a 9) (cd := cdv) (A := A) (outer := outer) (s := s) (H := H) (E := E)
    show DSs _ T.ca _ _ (m_put (fns k))
    exact (dss_cons hW (ds_for hW hp rfl (di_range1 T.n_range (da_cons (de_var 2) da_nil)) (dg_name 3 nd)
  (dss_one (ds_set 1 nd (de_makeF T.M_Made T.C_Made O.o2 hr T.G_Made T.b2 (da_cons (de_tup (da_cons de_str (da_cons (de_fld (de_var 1)) da_nil))) (da_cons (de_bin op_addA imp_add (de_fld (de_var 1)) de_int) da_nil))))))
  (dss_cons hW (ds_for hW hp rfl (di_range1 T.n_range (da_cons (de_fld (de_var 0)) da_nil)) (dg_name 3 nd)
  (dss_one (ds_set 1 nd (de_makeF T.M_Made T.C_Made O.o2 hr T.G_Made T.b2 (da_cons (de_tup (da_cons de_str (da_cons (de_fld (de_var 1)) da_nil))) (da_cons (de_bin op_addA imp_add (de_fld (de_var 1)) de_int) da_nil))))))
  (dss_cons hW (ds_fld (cs := [7]) (fun c hc => by cases List.mem_singleton.mp hc; exact T.na_Open_nots) (de_var 0) de_int)
  (dss_one (ds_expr (de_append (de_fld (de_var 0)) (de_var 1))))))))
theorem ok_marked {k : Nat} (T : Tx K mg) (O : Ok P w K mg base T k) : FnOk P w K mg base (L2N.CX P w) (2 * k + 3) (T.a 10) (T.fd 10) ["bracket", "sign"] (spOf K T.ca 2 (fns (k + 1) 10)) := by
  show FnOk P w K mg base (L2N.CX P w) (2 * k + 3) (T.a 10) (T.fd 10) ["bracket", "sign"] (spOf K T.ca 2 (b_marked (fns k)))
  exact fn_ok (N := ["bracket", "sign"]) 2 2 (m_marked (fns k)) rfl rfl T.F10 sc_marked (fun X E ⟨cdv, A, outer, s, H, hX⟩ hr => by
    subst hX
    have nd := sc_marked.nd
    have hu := hu200 hr
    have hW := wid_fn (E := E)
    have tk := tk_fn (P := P) (w := w) (K := K) (mg := mg) (base := base) (N := ["bracket", "sign"]) (qual := "marked") (scope := defScope s_marked) (f := T.a 10) (cd := cdv) (A := A) (outer := outer) (s := s) (H := H) (E := E)
    have hp := hp_fn (P := P) (w := w) (K := K) (mg := mg) (base := base) (N := ["bracket", "sign"]) (qual := "marked") (scope := defScope s_marked) (f := T.a 10) (cd := cdv) (A := A) (outer := outer) (s := s) (H := H) (E := E)
    show DSs _ T.ca _ _ (m_marked (fns k))
    exact (dss_one (ds_if (dt_cmp (op_eqP hu) (imp_eqP false) (de_var 1) de_str)
  (dss_one (ds_expr (de_call O.o7 (hr.mono (by omega)) tk T.g7 T.F7.kp T.b7 (da_cons (de_var 0) da_nil))))
  (dss_one (ds_if (dt_cmp (op_eqP hu) (imp_eqP false) (de_var 1) de_str)
  (dss_one (ds_expr (de_call O.o6 (hr.mono (by omega)) tk T.g6 T.F6.kp T.b6 (da_cons (de_var 0) da_nil))))
  (dss_one (ds_fld (cs := [7]) (fun c hc => by cases List.mem_singleton.mp hc; exact T.na_Open_nots) (de_var 0) (de_bin op_addA imp_add (de_fld (de_var 0)) de_int))))))))
theorem ok_plain_atom {k : Nat} (T : Tx K mg) (O : Ok P w K mg base T k) : FnOk P w K mg base (L2N.CX P w) (2 * k + 3) (T.a 11) (T.fd 11) ["letters", "text", "at"] (spOf K T.ca 3 (fns (k + 1) 11)) := by
  show FnOk P w K mg base (L2N.CX P w) (2 * k + 3) (T.a 11) (T.fd 11) ["letters", "text", "at"] (spOf K T.ca 3 (b_plain_atom (fns k)))
  exact fn_ok (N := ["letters", "text", "at", "word", "pattern"]) 5 3 (m_plain_atom (fns k)) rfl rfl T.F11 sc_plain_atom (fun X E ⟨cdv, A, outer, s, H, hX⟩ hr => by
    subst hX
    have nd := sc_plain_atom.nd
    have hu := hu200 hr
    have hW := wid_fn (E := E)
    have tk := tk_fn (P := P) (w := w) (K := K) (mg := mg) (base := base) (N := ["letters", "text", "at", "word", "pattern"]) (qual := "plain_atom") (scope := defScope s_plain_atom) (f := T.a 11) (cd := cdv) (A := A) (outer := outer) (s := s) (H := H) (E := E)
    have hp := hp_fn (P := P) (w := w) (K := K) (mg := mg) (base := base) (N := ["letters", "text", "at", "word", "pattern"]) (qual := "plain_atom") (scope := defScope s_plain_atom) (f := T.a 11) (cd := cdv) (A := A) (outer := outer) (s := s) (H := H) (E := E)
    show DSs _ T.ca _ _ (m_plain_atom (fns k))
    exact (dss_cons hW (ds_for hW hp rfl (di_any (de_tup (da_cons (de_tup (da_cons de_str (da_cons (de_globD rfl T.k_EMPTY) da_nil))) (da_cons (de_tup (da_cons de_str (da_cons (de_globD rfl T.k_NONE) da_nil))) da_nil)))) (dg_tup (n := 2) rfl (dgs_cons hW (dg_name 3 nd) (dgs_cons hW (dg_name 4 nd) dgs_nil)))
  (dss_one (ds_if (dt_cmp (op_eqP hu) (imp_eqP false) (de_cut (de_var 1) (do_some (de_var 2)) (do_some (de_bin op_addA imp_add (de_var 2) de_int))) (de_var 3))
  (dss_one (ds_ret (de_tup (da_cons (de_makeF T.M_Made T.C_Made O.o2 hr T.G_Made T.b2 (da_cons (de_var 4) (da_cons de_int da_nil))) (da_cons (de_bin op_addA imp_add (de_var 2) de_int) da_nil)))))
  dss_nil)))
  (dss_cons hW (ds_expr (de_call O.o4 (hr.mono (by omega)) tk T.g4 T.F4.kp T.b4 (da_cons (de_cmp (op_inA hu) (imp_in false) (de_ix (de_var 1) (de_var 2)) (de_var 0)) da_nil)))
  (dss_one (ds_ret (de_tup (da_cons (de_makeF T.M_Made T.C_Made O.o2 hr T.G_Made T.b2 (da_cons (de_tup (da_cons de_str (da_cons (de_ix (de_var 1) (de_var 2)) da_nil))) (da_cons de_int da_nil))) (da_cons (de_bin op_addA imp_add (de_var 2) de_int) da_nil))))))))
theorem ok_stars_at {k : Nat} (T : Tx K mg) (O : Ok P w K mg base T k) : FnOk P w K mg base (L2N.CX P w) (2 * k + 3) (T.a 12) (T.fd 12) ["text", "at"] (spOf K T.ca 2 (fns (k + 1) 12)) := by
  show FnOk P w K mg base (L2N.CX P w) (2 * k + 3) (T.a 12) (T.fd 12) ["text", "at"] (spOf K T.ca 2 (b_stars_at (fns k)))
  exact fn_ok (N := ["text", "at", "found"]) 3 2 (m_stars_at (fns k)) rfl rfl T.F12 sc_stars_at (fun X E ⟨cdv, A, outer, s, H, hX⟩ hr => by
    subst hX
    have nd := sc_stars_at.nd
    have hu := hu200 hr
    have hW := wid_fn (E := E)
    have tk := tk_fn (P := P) (w := w) (K := K) (mg := mg) (base := base) (N := ["text", "at", "found"]) (qual := "stars_at") (scope := defScope s_stars_at) (f := T.a 12) (cd := cdv) (A := A) (outer := outer) (s := s) (H := H) (E := E)
    have hp := hp_fn (P := P) (w := w) (K := K) (mg := mg) (base := base) (N := ["text", "at", "found"]) (qual := "stars_at") (scope := defScope s_stars_at) (f := T.a 12) (cd := cdv) (A := A) (outer := outer) (s := s) (H := H) (E := E)
    show DSs _ T.ca _ _ (m_stars_at (fns k))
    exact (dss_cons hW (ds_set 2 nd de_int)
  (dss_cons hW (ds_while hW hp (dt_cmp (op_eqP hu) (imp_eqP false) (de_cut (de_var 0) (do_some (de_bin op_addA imp_add (de_var 1) (de_var 2))) (do_some (de_bin op_addA imp_add (de_bin op_addA imp_add (de_var 1) (de_var 2)) de_int))) de_str)
  (dss_one (ds_set 2 nd (de_bin op_addA imp_add (de_var 2) de_int))))
  (dss_one (ds_ret (de_var 2))))))
theorem ok_read_all {k : Nat} (T : Tx K mg) (O : Ok P w K mg base T k) : FnOk P w K mg base (L2N.CX P w) (2 * k + 3) (T.a 13) (T.fd 13) ["letters", "text"] (spOf K T.ca 2 (fns (k + 1) 13)) := by
  show FnOk P w K mg base (L2N.CX P w) (2 * k + 3) (T.a 13) (T.fd 13) ["letters", "text"] (spOf K T.ca 2 (b_read_all (fns k)))
  exact fn_ok (N := ["letters", "text", "stack", "at", "stars", "atom"]) 6 2 (m_read_all (fns k)) rfl rfl T.F13 sc_read_all (fun X E ⟨cdv, A, outer, s, H, hX⟩ hr => by
    subst hX
    have nd := sc_read_all.nd
    have hu := hu200 hr
    have hW := wid_fn (E := E)
    have tk := tk_fn (P := P) (w := w) (K := K) (mg := mg) (base := base) (N := ["letters", "text", "stack", "at", "stars", "atom"]) (qual := "read_all") (scope := defScope s_read_all) (f := T.a 13) (cd := cdv) (A := A) (outer := outer) (s := s) (H := H) (E := E)
    have hp := hp_fn (P := P) (w := w) (K := K) (mg := mg) (base := base) (N := ["letters", "text", "stack", "at", "stars", "atom"]) (qual := "read_all") (scope := defScope s_read_all) (f := T.a 13) (cd := cdv) (A := A) (outer := outer) (s := s) (H := H) (E := E)
    show DSs _ T.ca _ _ (m_read_all (fns k))
    exact (dss_cons hW (ds_set 2 nd (de_new (da_cons (de_makeL0 T.M_Open T.C_Open O.o3 hr T.G_Open T.b3) da_nil)))
  (dss_cons hW (ds_set 3 nd de_int)
  (dss_cons hW (ds_while hW hp (dt_cmp op_lt imp_lt (de_var 3) (de_callB call_len imp_len rfl T.n_len PySem.boot_len (da_cons (de_var 1) da_nil)))
  (dss_one (ds_if (dt_cmp (op_inA hu) (imp_in false) (de_ix (de_var 1) (de_var 3)) de_str)
  (dss_cons hW (ds_expr (de_call O.o10 (hr.mono (by omega)) tk T.g10 T.F10.kp T.b10 (da_cons (de_ix (de_var 2) (de_neg de_int)) (da_cons (de_ix (de_var 1) (de_var 3)) da_nil))))
  (dss_one (ds_set 3 nd (de_bin op_addA imp_add (de_var 3) de_int))))
  (dss_one (ds_if (dt_w (dw_and (dt_cmp (op_eqP hu) (imp_eqP false) (de_ix (de_var 1) (de_var 3)) de_str) (dw_and1 (dt_cmp (op_neP hu) (imp_eqP true) (de_cut (de_var 1) (do_some (de_var 3)) (do_some (de_bin op_addA imp_add (de_var 3) de_int))) de_str))))
  (dss_cons hW (ds_expr (de_append (de_var 2) (de_makeL0 T.M_Open T.C_Open O.o3 hr T.G_Open T.b3)))
  (dss_one (ds_set 3 nd (de_bin op_addA imp_add (de_var 3) de_int))))
  (dss_cons hW (ds_if (dt_cmp (op_eqP hu) (imp_eqP false) (de_ix (de_var 1) (de_var 3)) de_str)
  (dss_cons hW (ds_expr (de_call O.o4 (hr.mono (by omega)) tk T.g4 T.F4.kp T.b4 (da_cons (de_cmp op_gt imp_gt (de_callB call_len imp_len rfl T.n_len PySem.boot_len (da_cons (de_var 2) da_nil)) de_int) da_nil)))
  (dss_one (ds_par 5 3 rfl nd (da_cons (de_call O.o8 (hr.mono (by omega)) tk T.g8 T.F8.kp T.b8 (da_cons (de_pop (de_var 2)) da_nil)) (da_cons (de_bin op_addA imp_add (de_var 3) de_int) da_nil)))))
  (dss_one (ds_asg (de_call O.o11 (hr.mono (by omega)) tk T.g11 T.F11.kp T.b11 (da_cons (de_var 0) (da_cons (de_var 1) (da_cons (de_var 3) da_nil)))) (dg_tup (n := 2) rfl (dgs_cons hW (dg_name 5 nd) (dgs_cons hW (dg_name 3 nd) dgs_nil))))))
  (dss_cons hW (ds_set 4 nd (de_call O.o12 (hr.mono (by omega)) tk T.g12 T.F12.kp T.b12 (da_cons (de_var 1) (da_cons (de_var 3) da_nil))))
  (dss_cons hW (ds_expr (de_call O.o9 (hr.mono (by omega)) tk T.g9 T.F9.kp T.b9 (da_cons (de_ix (de_var 2) (de_neg de_int)) (da_cons (de_var 5) (da_cons (de_var 4) da_nil)))))
  (dss_one (ds_set 3 nd (de_bin op_addA imp_add (de_var 3) (de_var 4))))))))))))
  (dss_cons hW (ds_expr (de_call O.o4 (hr.mono (by omega)) tk T.g4 T.F4.kp T.b4 (da_cons (de_cmp (op_eqP hu) (imp_eqP false) (de_callB call_len imp_len rfl T.n_len PySem.boot_len (da_cons (de_var 2) da_nil)) de_int) da_nil)))
  (dss_one (ds_ret (de_call O.o8 (hr.mono (by omega)) tk T.g8 T.F8.kp T.b8 (da_cons (de_ix (de_var 2) de_int) da_nil)))))))))
theorem ok_read {k : Nat} (T : Tx K mg) (O : Ok P w K mg base T k) : FnOk P w K mg base (L2N.CX P w) (2 * k + 3) (T.a 14) (T.fd 14) ["letters", "text"] (spOf K T.ca 2 (fns (k + 1) 14)) := by
  show FnOk P w K mg base (L2N.CX P w) (2 * k + 3) (T.a 14) (T.fd 14) ["letters", "text"] (spOf K T.ca 2 (b_read (fns k)))
  exact fn_ok (N := ["letters", "text", "found"]) 3 2 (m_read (fns k)) rfl rfl T.F14 sc_read (fun X E ⟨cdv, A, outer, s, H, hX⟩ hr => by
    subst hX
    have nd := sc_read.nd
    have hu := hu200 hr
    have hW := wid_fn (E := E)
    have tk := tk_fn (P := P) (w := w) (K := K) (mg := mg) (base := base) (N := ["letters", "text", "found"]) (qual := "read") (scope := defScope s_read) (f := T.a 14) (cd := cdv) (A := A) (outer := outer) (s := s) (H := H) (E := E)
    have hp := hp_fn (P := P) (w := w) (K := K) (mg := mg) (base := base) (N := ["letters", "text", "found"]) (qual := "read") (scope := defScope s_read) (f := T.a 14) (cd := cdv) (A := A) (outer := outer) (s := s) (H := H) (E := E)
    show DSs _ T.ca _ _ (m_read (fns k))
    exact (dss_cons hW (ds_expr (de_call O.o1 (hr.mono (by omega)) tk T.g1 T.F1.kp T.b1 (da_cons (de_var 0) da_nil)))
  (dss_cons hW (ds_if (dt_w (dw_and (dt_val (de_isi T.n_isinstance T.n_str B.str (by decide) (de_var 1))) (dw_and1 (dt_cmp op_gt imp_gt (de_callB call_len imp_len rfl T.n_len PySem.boot_len (da_cons (de_var 1) da_nil)) (de_globD rfl T.k_MOST_TEXT)))))
  (dss_one (ds_raise (c := 3) T.x3 rfl tk))
  dss_nil)
  (dss_cons hW (ds_expr (de_call O.o4 (hr.mono (by omega)) tk T.g4 T.F4.kp T.b4 (da_cons (de_isi T.n_isinstance T.n_str B.str (by decide) (de_var 1)) da_nil)))
  (dss_cons hW (ds_set 2 nd (de_call O.o13 (hr.mono (by omega)) tk T.g13 T.F13.kp T.b13 (da_cons (de_var 0) (da_cons (de_var 1) da_nil))))
  (dss_cons hW (ds_if (dt_cmp op_gt imp_gt (de_fld (de_var 2)) (de_globD rfl T.k_MOST_NODES))
  (dss_one (ds_raise (c := 3) T.x3 rfl tk))
  dss_nil)
  (dss_one (ds_ret (de_fld (de_var 2))))))))))
theorem ok__law_cell_at {k : Nat} (T : Tx K mg) (O : Ok P w K mg base T k) : FnOk P w K mg base (L2N.CX P w) (2 * k + 3) (T.a 15) (T.fd 15) ["_law_script", "_law_k"] (spOf K T.ca 2 (fns (k + 1) 15)) := by
  show FnOk P w K mg base (L2N.CX P w) (2 * k + 3) (T.a 15) (T.fd 15) ["_law_script", "_law_k"] (spOf K T.ca 2 (b__law_cell_at (fns k)))
  exact fn_ok (N := ["_law_script", "_law_k"]) 2 2 (m__law_cell_at (fns k)) rfl rfl T.F15 sc__law_cell_at (fun X E ⟨cdv, A, outer, s, H, hX⟩ hr => by
    subst hX
    have nd := sc__law_cell_at.nd
    have hu := hu200 hr
    have hW := wid_fn (E := E)
    have tk := tk_fn (P := P) (w := w) (K := K) (mg := mg) (base := base) (N := ["_law_script", "_law_k"]) (qual := "_law_cell_at") (scope := defScope s__law_cell_at) (f := T.a 15) (cd := cdv) (A := A) (outer := outer) (s := s) (H := H) (E := E)
    have hp := hp_fn (P := P) (w := w) (K := K) (mg := mg) (base := base) (N := ["_law_script", "_law_k"]) (qual := "_law_cell_at") (scope := defScope s__law_cell_at) (f := T.a 15) (cd := cdv) (A := A) (outer := outer) (s := s) (H := H) (E := E)
    show DSs _ T.ca _ _ (m__law_cell_at (fns k))
    exact (dss_cons hW (ds_if (dt_cmp op_lt imp_lt (de_var 1) (de_callB call_len imp_len rfl T.n_len PySem.boot_len (da_cons (de_var 0) da_nil)))
  (dss_one (ds_ret (de_ix (de_var 0) (de_var 1))))
  dss_nil)
  (dss_one (ds_ret de_int))))
theorem ok__law_letters {k : Nat} (T : Tx K mg) (O : Ok P w K mg base T k) : FnOk P w K mg base (L2N.CX P w) (2 * k + 3) (T.a 16) (T.fd 16) ["_law_cell"] (spOf K T.ca 1 (fns (k + 1) 16)) := by
  show FnOk P w K mg base (L2N.CX P w) (2 * k + 3) (T.a 16) (T.fd 16) ["_law_cell"] (spOf K T.ca 1 (b__law_letters (fns k)))
  exact fn_ok (N := ["_law_cell", "_law_some", "_law_k"]) 3 1 (m__law_letters (fns k)) rfl rfl T.F16 sc__law_letters (fun X E ⟨cdv, A, outer, s, H, hX⟩ hr => by
    subst hX
    have nd := sc__law_letters.nd
    have hu := hu200 hr
    have hW := wid_fn (E := E)
    have tk := tk_fn (P := P) (w := w) (K := K) (mg := mg) (base := base) (N := ["_law_cell", "_law_some", "_law_k"]) (qual := "_law_letters") (scope := defScope s__law_letters) (f := T.a 16) (cd := cdv) (A := A) (outer := outer) (s := s) (H := H) (E := E)
    have hp := hp_fn (P := P) (w := w) (K := K) (mg := mg) (base := base) (N := ["_law_cell", "_law_some", "_law_k"]) (qual := "_law_letters") (scope := defScope s__law_letters) (f := T.a 16) (cd := cdv) (A := A) (outer := outer) (s := s) (H := H) (E := E)
    show DSs _ T.ca _ _ (m__law_letters (fns k))
    exact (dss_cons hW (ds_set 1 nd de_str)
  (dss_one (ds_ret (de_join de_str (de_lc rfl nd (t := (.one 2)) (own := [("_law_k", 2)]) (di_range1 T.n_range (da_cons (de_bin op_addA imp_add de_int (de_bin op_mod imp_mod (de_var 0) de_int)) da_nil)) (blkOk_by (N := ["_law_cell", "_law_some", "_law_k"]) (sc := defScope s__law_letters) (by decide +kernel)) List.mem_cons_self (fun _ _ _ _ _ => tg_one 2 nd) (fun _ _ _ _ _ => dts_nil) (fun _ _ _ _ _ => (de_ix (de_var 1) (de_bin op_mod imp_mod (de_bin op_addA imp_add (de_bin op_fdiv imp_fdiv (de_var 0) de_int) (de_bin op_mulA imp_mul (de_var 2) (de_bin op_addA imp_add de_int (de_bin op_mod imp_mod (de_bin op_fdiv imp_fdiv (de_var 0) de_int) de_int)))) de_int)))))))))
theorem ok__law_size {k : Nat} (T : Tx K mg) (O : Ok P w K mg base T k) : FnOk P w K mg base (L2N.CX P w) (2 * k + 3) (T.a 17) (T.fd 17) ["_law_pattern"] (spOf K T.ca 1 (fns (k + 1) 17)) := by
  show FnOk P w K mg base (L2N.CX P w) (2 * k + 3) (T.a 17) (T.fd 17) ["_law_pattern"] (spOf K T.ca 1 (b__law_size (fns k)))
  exact fn_ok (N := ["_law_pattern", "_law_part"]) 2 1 (m__law_size (fns k)) rfl rfl T.F17 sc__law_size (fun X E ⟨cdv, A, outer, s, H, hX⟩ hr => by
    subst hX
    have nd := sc__law_size.nd
    have hu := hu200 hr
    have hW := wid_fn (E := E)
    have tk := tk_fn (P := P) (w := w) (K := K) (mg := mg) (base := base) (N := ["_law_pattern", "_law_part"]) (qual := "_law_size") (scope := defScope s__law_size) (f := T.a 17) (cd := cdv) (A := A) (outer := outer) (s := s) (H := H) (E := E)
    have hp := hp_fn (P := P) (w := w) (K := K) (mg := mg) (base := base) (N := ["_law_pattern", "_law_part"]) (qual := "_law_size") (scope := defScope s__law_size) (f := T.a 17) (cd := cdv) (A := A) (outer := outer) (s := s) (H := H) (E := E)
    show DSs _ T.ca _ _ (m__law_size (fns k))
    exact (dss_cons hW (ds_if (dt_cmp (op_inA hu) (imp_in false) (de_ix (de_var 0) de_int) (de_tup (da_cons de_str (da_cons de_str (da_cons de_str da_nil)))))
  (dss_one (ds_ret (de_bin op_addA imp_add de_int (de_callB (cr_sum rfl) imp_sum rfl T.n_sum boot_sum (da_cons (de_lc rfl nd (t := (.one 1)) (own := [("_law_part", 1)]) (di_any (de_ix (de_var 0) de_int)) (blkOk_by (N := ["_law_pattern", "_law_part"]) (sc := defScope s__law_size) (by decide +kernel)) List.mem_cons_self (fun _ _ _ _ _ => tg_one 1 nd) (fun _ _ _ _ _ => dts_nil) (fun _ _ _ _ _ => (de_call O.o17 (hr.mono (by omega)) takes0N T.g17 T.F17.kp T.b17 (da_cons (de_var 1) da_nil)))) da_nil)))))
  dss_nil)
  (dss_cons hW (ds_if (dt_cmp (op_inA hu) (imp_in false) (de_ix (de_var 0) de_int) (de_tup (da_cons de_str (da_cons de_str da_nil))))
  (dss_one (ds_ret (de_bin op_addA imp_add de_int (de_call O.o17 (hr.mono (by omega)) tk T.g17 T.F17.kp T.b17 (da_cons (de_ix (de_var 0) de_int) da_nil)))))
  dss_nil)
  (dss_one (ds_ret de_int)))))
theorem ok__law_of {k : Nat} (T : Tx K mg) (O : Ok P w K mg base T k) : FnOk P w K mg base (L2N.CX P w) (2 * k + 3) (T.a 18) (T.fd 18) ["_law_word", "_law_patterns"] (spOf K T.ca 2 (fns (k + 1) 18)) := by
  show FnOk P w K mg base (L2N.CX P w) (2 * k + 3) (T.a 18) (T.fd 18) ["_law_word", "_law_patterns"] (spOf K T.ca 2 (b__law_of (fns k)))
  exact fn_ok (N := ["_law_word", "_law_patterns"]) 2 2 (m__law_of (fns k)) rfl rfl T.F18 sc__law_of (fun X E ⟨cdv, A, outer, s, H, hX⟩ hr => by
    subst hX
    have nd := sc__law_of.nd
    have hu := hu200 hr
    have hW := wid_fn (E := E)
    have tk := tk_fn (P := P) (w := w) (K := K) (mg := mg) (base := base) (N := ["_law_word", "_law_patterns"]) (qual := "_law_of") (scope := defScope s__law_of) (f := T.a 18) (cd := cdv) (A := A) (outer := outer) (s := s) (H := H) (E := E)
    have hp := hp_fn (P := P) (w := w) (K := K) (mg := mg) (base := base) (N := ["_law_word", "_law_patterns"]) (qual := "_law_of") (scope := defScope s__law_of) (f := T.a 18) (cd := cdv) (A := A) (outer := outer) (s := s) (H := H) (E := E)
    show DSs _ T.ca _ _ (m__law_of (fns k))
    exact (dss_cons hW (ds_if (dt_cmp (op_eqP hu) (imp_eqP false) (de_callB call_len imp_len rfl T.n_len PySem.boot_len (da_cons (de_var 1) da_nil)) de_int)
  (dss_one (ds_ret (de_ix (de_var 1) de_int)))
  dss_nil)
  (dss_one (ds_ret (de_tup (da_cons (de_var 0) (da_cons (de_callTy call_tuple_of imp_tuple rfl T.n_tuple B.tuple (da_cons (de_var 1) da_nil)) da_nil)))))))
theorem ok__law_item {k : Nat} (T : Tx K mg) (O : Ok P w K mg base T k) : FnOk P w K mg base (L2N.CX P w) (2 * k + 3) (T.a 19) (T.fd 19) ["_law_letters_here", "_law_text", "_law_at"] (spOf K T.ca 3 (fns (k + 1) 19)) := by
  show FnOk P w K mg base (L2N.CX P w) (2 * k + 3) (T.a 19) (T.fd 19) ["_law_letters_here", "_law_text", "_law_at"] (spOf K T.ca 3 (b__law_item (fns k)))
  exact fn_ok (N := ["_law_letters_here", "_law_text", "_law_at", "_law_inner", "_law_atom", "_law_pattern"]) 6 3 (m__law_item (fns k)) rfl rfl T.F19 sc__law_item (fun X E ⟨cdv, A, outer, s, H, hX⟩ hr => by
    subst hX
    have nd := sc__law_item.nd
    have hu := hu200 hr
    have hW := wid_fn (E := E)
    have tk := tk_fn (P := P) (w := w) (K := K) (mg := mg) (base := base) (N := ["_law_letters_here", "_law_text", "_law_at", "_law_inner", "_law_atom", "_law_pattern"]) (qual := "_law_item") (scope := defScope s__law_item) (f := T.a 19) (cd := cdv) (A := A) (outer := outer) (s := s) (H := H) (E := E)
    have hp := hp_fn (P := P) (w := w) (K := K) (mg := mg) (base := base) (N := ["_law_letters_here", "_law_text", "_law_at", "_law_inner", "_law_atom", "_law_pattern"]) (qual := "_law_item") (scope := defScope s__law_item) (f := T.a 19) (cd := cdv) (A := A) (outer := outer) (s := s) (H := H) (E := E)
    show DSs _ T.ca _ _ (m__law_item (fns k))
    exact (dss_cons hW (ds_if (dt_cmp (op_eqP hu) (imp_eqP false) (de_cut (de_var 1) (do_some (de_var 2)) (do_some (de_bin op_addA imp_add (de_var 2) de_int))) de_str)
  (dss_cons hW (ds_set 3 nd (de_call O.o19 (hr.mono (by omega)) tk T.g19 T.F19.kp T.b19 (da_cons (de_var 0) (da_cons (de_var 1) (da_cons (de_bin op_addA imp_add (de_var 2) de_int) da_nil)))))
  (dss_one (ds_ret (de_if (dt_cmp op_isA imp_is (de_var 3) de_non) de_non (de_tup (da_cons (de_tup (da_cons de_str (da_cons (de_ix (de_var 3) de_int) da_nil))) (da_cons (de_ix (de_var 3) de_int) da_nil)))))))
  dss_nil)
  (dss_cons hW (ds_if (dt_w (dw_or (dt_cmp (op_eqP hu) (imp_eqP false) (de_cut (de_var 1) (do_some (de_var 2)) (do_some (de_bin op_addA imp_add (de_var 2) de_int))) de_str) (dw_or1 (dt_cmp (op_eqP hu) (imp_eqP false) (de_cut (de_var 1) (do_some (de_var 2)) (do_some (de_bin op_addA imp_add (de_var 2) de_int))) de_str))))
  (dss_one (ds_set 4 nd (de_tup (da_cons (de_ix (de_lst (da_cons (de_tup (da_cons de_str da_nil)) (da_cons (de_tup (da_cons de_str da_nil)) da_nil))) (de_callTy call_int1 imp_int rfl T.n_int B.int (da_cons (de_cmp (op_eqP hu) (imp_eqP false) (de_ix (de_var 1) (de_var 2)) de_str) da_nil))) (da_cons (de_bin op_addA imp_add (de_var 2) de_int) da_nil)))))
  (dss_one (ds_if (dt_cmp (op_eqP hu) (imp_eqP false) (de_cut (de_var 1) (do_some (de_var 2)) (do_some (de_bin op_addA imp_add (de_var 2) de_int))) de_str)
  (dss_cons hW (ds_set 3 nd (de_call O.o21 (hr.mono (by omega)) tk T.g21 T.F21.kp T.b21 (da_cons (de_var 0) (da_cons (de_var 1) (da_cons (de_bin op_addA imp_add (de_var 2) de_int) da_nil)))))
  (dss_cons hW (ds_if (dt_w (dw_or (dt_cmp op_isA imp_is (de_var 3) de_non) (dw_or1 (dt_cmp (op_neP hu) (imp_eqP true) (de_cut (de_var 1) (do_some (de_ix (de_var 3) de_int)) (do_some (de_bin op_addA imp_add (de_ix (de_var 3) de_int) de_int))) de_str))))
  (dss_one (ds_ret de_non))
  dss_nil)
  (dss_one (ds_set 4 nd (de_tup (da_cons (de_ix (de_var 3) de_int) (da_cons (de_bin op_addA imp_add (de_ix (de_var 3) de_int) de_int) da_nil)))))))
  (dss_one (ds_if (dt_w (dw_and (dt_cmp (op_neP hu) (imp_eqP true) (de_cut (de_var 1) (do_some (de_var 2)) (do_some (de_bin op_addA imp_add (de_var 2) de_int))) de_str) (dw_and1 (dt_cmp (op_inA hu) (imp_in false) (de_ix (de_var 1) (de_var 2)) (de_var 0)))))
  (dss_one (ds_set 4 nd (de_tup (da_cons (de_tup (da_cons de_str (da_cons (de_ix (de_var 1) (de_var 2)) da_nil))) (da_cons (de_bin op_addA imp_add (de_var 2) de_int) da_nil)))))
  (dss_one (ds_ret de_non)))))))
  (dss_cons hW (ds_asg (de_var 4) (dg_tup (n := 2) rfl (dgs_cons hW (dg_name 5 nd) (dgs_cons hW (dg_name 2 nd) dgs_nil))))
  (dss_cons hW (ds_while hW hp (dt_cmp (op_eqP hu) (imp_eqP false) (de_cut (de_var 1) (do_some (de_var 2)) (do_some (de_bin op_addA imp_add (de_var 2) de_int))) de_str)
  (dss_cons hW (ds_set 5 nd (de_tup (da_cons de_str (da_cons (de_var 5) da_nil))))
  (dss_one (ds_set 2 nd (de_bin op_addA imp_add (de_var 2) de_int)))))
  (dss_one (ds_ret (de_tup (da_cons (de_var 5) (da_cons (de_var 2) da_nil))))))))))
theorem ok__law_half {k : Nat} (T : Tx K mg) (O : Ok P w K mg base T k) : FnOk P w K mg base (L2N.CX P w) (2 * k + 3) (T.a 20) (T.fd 20) ["_law_letters_here", "_law_text", "_law_at"] (spOf K T.ca 3 (fns (k + 1) 20)) := by
  show FnOk P w K mg base (L2N.CX P w) (2 * k + 3) (T.a 20) (T.fd 20) ["_law_letters_here", "_law_text", "_law_at"] (spOf K T.ca 3 (b__law_half (fns k)))
  exact fn_ok (N := ["_law_letters_here", "_law_text", "_law_at", "_law_found", "_law_one"]) 5 3 (m__law_half (fns k)) rfl rfl T.F20 sc__law_half (fun X E ⟨cdv, A, outer, s, H, hX⟩ hr => by
    subst hX
    have nd := sc__law_half.nd
    have hu := hu200 hr
    have hW := wid_fn (E := E)
    have tk := tk_fn (P := P) (w := w) (K := K) (mg := mg) (base := base) (N := ["_law_letters_here", "_law_text", "_law_at", "_law_found", "_law_one"]) (qual := "_law_half") (scope := defScope s__law_half) (f := T.a 20) (cd := cdv) (A := A) (outer := outer) (s := s) (H := H) (E := E)
    have hp := hp_fn (P := P) (w := w) (K := K) (mg := mg) (base := base) (N := ["_law_letters_here", "_law_text", "_law_at", "_law_found", "_law_one"]) (qual := "_law_half") (scope := defScope s__law_half) (f := T.a 20) (cd := cdv) (A := A) (outer := outer) (s := s) (H := H) (E := E)
    show DSs _ T.ca _ _ (m__law_half (fns k))
    exact (dss_cons hW (ds_set 3 nd (de_new da_nil))
  (dss_cons hW (ds_while hW hp (dt_cmp (op_notInA hu) (imp_in true) (de_cut (de_var 1) (do_some (de_var 2)) (do_some (de_bin op_addA imp_add (de_var 2) de_int))) (de_lst (da_cons de_str (da_cons de_str (da_cons de_str (da_cons de_str da_nil))))))
  (dss_cons hW (ds_set 4 nd (de_call O.o19 (hr.mono (by omega)) tk T.g19 T.F19.kp T.b19 (da_cons (de_var 0) (da_cons (de_var 1) (da_cons (de_var 2) da_nil)))))
  (dss_cons hW (ds_if (dt_cmp op_isA imp_is (de_var 4) de_non)
  (dss_one (ds_ret de_non))
  dss_nil)
  (dss_cons hW (ds_expr (de_append (de_var 3) (de_ix (de_var 4) de_int)))
  (dss_one (ds_set 2 nd (de_ix (de_var 4) de_int)))))))
  (dss_one (ds_ret (de_if (dt_cmp (op_eqP hu) (imp_eqP false) (de_var 3) (de_lst da_nil)) de_non (de_tup (da_cons (de_call O.o18 (hr.mono (by omega)) tk T.g18 T.F18.kp T.b18 (da_cons de_str (da_cons (de_var 3) da_nil))) (da_cons (de_var 2) da_nil)))))))))
theorem ok__law_either {k : Nat} (T : Tx K mg) (O : Ok P w K mg base T k) : FnOk P w K mg base (L2N.CX P w) (2 * k + 3) (T.a 21) (T.fd 21) ["_law_letters_here", "_law_text", "_law_at"] (spOf K T.ca 3 (fns (k + 1) 21)) := by
  show FnOk P w K mg base (L2N.CX P w) (2 * k + 3) (T.a 21) (T.fd 21) ["_law_letters_here", "_law_text", "_law_at"] (spOf K T.ca 3 (b__law_either (fns k)))
  exact fn_ok (N := ["_law_letters_here", "_law_text", "_law_at", "_law_branches", "_law_halves", "_law_one"]) 6 3 (m__law_either (fns k)) rfl rfl T.F21 sc__law_either (fun X E ⟨cdv, A, outer, s, H, hX⟩ hr => by
    subst hX
    have nd := sc__law_either.nd
    have hu := hu200 hr
    have hW := wid_fn (E := E)
    have tk := tk_fn (P := P) (w := w) (K := K) (mg := mg) (base := base) (N := ["_law_letters_here", "_law_text", "_law_at", "_law_branches", "_law_halves", "_law_one"]) (qual := "_law_either") (scope := defScope s__law_either) (f := T.a 21) (cd := cdv) (A := A) (outer := outer) (s := s) (H := H) (E := E)
    have hp := hp_fn (P := P) (w := w) (K := K) (mg := mg) (base := base) (N := ["_law_letters_here", "_law_text", "_law_at", "_law_branches", "_law_halves", "_law_one"]) (qual := "_law_either") (scope := defScope s__law_either) (f := T.a 21) (cd := cdv) (A := A) (outer := outer) (s := s) (H := H) (E := E)
    show DSs _ T.ca _ _ (m__law_either (fns k))
    exact (dss_cons hW (ds_set 3 nd (de_new da_nil))
  (dss_cons hW (ds_set 4 nd (de_new da_nil))
  (dss_one (ds_while hW hp (dt_val de_bl)
  (dss_cons hW (ds_set 5 nd (de_call O.o20 (hr.mono (by omega)) tk T.g20 T.F20.kp T.b20 (da_cons (de_var 0) (da_cons (de_var 1) (da_cons (de_var 2) da_nil)))))
  (dss_cons hW (ds_if (dt_cmp op_isA imp_is (de_var 5) de_non)
  (dss_one (ds_ret de_non))
  dss_nil)
  (dss_cons hW (ds_expr (de_append (de_var 4) (de_ix (de_var 5) de_int)))
  (dss_cons hW (ds_set 2 nd (de_bin op_addA imp_add (de_ix (de_var 5) de_int) de_int))
  (dss_cons hW (ds_if (dt_cmp (op_neP hu) (imp_eqP true) (de_cut (de_var 1) (do_some (de_ix (de_var 5) de_int)) (do_some (de_var 2))) de_str)
  (dss_cons hW (ds_expr (de_append (de_var 3) (de_call O.o18 (hr.mono (by omega)) tk T.g18 T.F18.kp T.b18 (da_cons de_str (da_cons (de_var 4) da_nil)))))
  (dss_one (ds_set 4 nd (de_new da_nil))))
  dss_nil)
  (dss_one (ds_if (dt_cmp (op_notInA hu) (imp_in true) (de_cut (de_var 1) (do_some (de_ix (de_var 5) de_int)) (do_some (de_var 2))) (de_lst (da_cons de_str (da_cons de_str da_nil))))
  (dss_one (ds_ret (de_tup (da_cons (de_call O.o18 (hr.mono (by omega)) tk T.g18 T.F18.kp T.b18 (da_cons de_str (da_cons (de_var 3) da_nil))) (da_cons (de_ix (de_var 5) de_int) da_nil)))))
  dss_nil))))))))))))
theorem ok__law_due {k : Nat} (T : Tx K mg) (O : Ok P w K mg base T k) : FnOk P w K mg base (L2N.CX P w) (2 * k + 3) (T.a 22) (T.fd 22) ["_law_letters_here", "_law_text"] (spOf K T.ca 2 (fns (k + 1) 22)) := by
  show FnOk P w K mg base (L2N.CX P w) (2 * k + 3) (T.a 22) (T.fd 22) ["_law_letters_here", "_law_text"] (spOf K T.ca 2 (b__law_due (fns k)))
  exact fn_ok (N := ["_law_letters_here", "_law_text", "_law_whole"]) 3 2 (m__law_due (fns k)) rfl rfl T.F22 sc__law_due (fun X E ⟨cdv, A, outer, s, H, hX⟩ hr => by
    subst hX
    have nd := sc__law_due.nd
    have hu := hu200 hr
    have hW := wid_fn (E := E)
    have tk := tk_fn (P := P) (w := w) (K := K) (mg := mg) (base := base) (N := ["_law_letters_here", "_law_text", "_law_whole"]) (qual := "_law_due") (scope := defScope s__law_due) (f := T.a 22) (cd := cdv) (A := A) (outer := outer) (s := s) (H := H) (E := E)
    have hp := hp_fn (P := P) (w := w) (K := K) (mg := mg) (base := base) (N := ["_law_letters_here", "_law_text", "_law_whole"]) (qual := "_law_due") (scope := defScope s__law_due) (f := T.a 22) (cd := cdv) (A := A) (outer := outer) (s := s) (H := H) (E := E)
    show DSs _ T.ca _ _ (m__law_due (fns k))
    exact (dss_cons hW (ds_set 2 nd (de_call O.o21 (hr.mono (by omega)) tk T.g21 T.F21.kp T.b21 (da_cons (de_var 0) (da_cons (de_var 1) (da_cons de_int da_nil)))))
  (dss_cons hW (ds_if (dt_w (dw_or (dt_cmp op_isA imp_is (de_var 2) de_non) (dw_or1 (dt_cmp op_lt imp_lt (de_ix (de_var 2) de_int) (de_callB call_len imp_len rfl T.n_len PySem.boot_len (da_cons (de_var 1) da_nil))))))
  (dss_one (ds_ret (de_lst (da_cons de_str da_nil))))
  dss_nil)
  (dss_cons hW (ds_if (dt_cmp op_gt imp_gt (de_call O.o17 (hr.mono (by omega)) tk T.g17 T.F17.kp T.b17 (da_cons (de_ix (de_var 2) de_int) da_nil)) de_int)
  (dss_one (ds_ret (de_lst (da_cons de_str da_nil))))
  dss_nil)
  (dss_one (ds_ret (de_ix (de_var 2) de_int)))))))
theorem ok__law_told {k : Nat} (T : Tx K mg) (O : Ok P w K mg base T k) : FnOk P w K mg base (L2N.CX P w) (2 * k + 3) (T.a 23) (T.fd 23) ["_law_letters_here", "_law_text"] (spOf K T.ca 2 (fns (k + 1) 23)) := by
  show FnOk P w K mg base (L2N.CX P w) (2 * k + 3) (T.a 23) (T.fd 23) ["_law_letters_here", "_law_text"] (spOf K T.ca 2 (b__law_told (fns k)))
  exact fn_ok (N := ["_law_letters_here", "_law_text", "_law_error"]) 3 2 (m__law_told (fns k)) rfl rfl T.F23 sc__law_told (fun X E ⟨cdv, A, outer, s, H, hX⟩ hr => by
    subst hX
    have nd := sc__law_told.nd
    have hu := hu200 hr
    have hW := wid_fn (E := E)
    have tk := tk_fn (P := P) (w := w) (K := K) (mg := mg) (base := base) (N := ["_law_letters_here", "_law_text", "_law_error"]) (qual := "_law_told") (scope := defScope s__law_told) (f := T.a 23) (cd := cdv) (A := A) (outer := outer) (s := s) (H := H) (E := E)
    have hp := hp_fn (P := P) (w := w) (K := K) (mg := mg) (base := base) (N := ["_law_letters_here", "_law_text", "_law_error"]) (qual := "_law_told") (scope := defScope s__law_told) (f := T.a 23) (cd := cdv) (A := A) (outer := outer) (s := s) (H := H) (E := E)
    show DSs _ T.ca _ _ (m__law_told (fns k))
    exact (dss_one (ds_try 2 nd rfl rfl T.x0.g hW tk T.xk (fun a oe c pn hz hv => suite_kind O.kd hr T.g_kind T.F_kind.kp T.b_kind hz hv) (fun W' pn xe hW tk hp => (dss_one (ds_ret (de_call O.o14 (hr.mono (by omega)) tk T.g14 T.F14.kp T.b14 (da_cons (de_var 0) (da_cons (de_var 1) da_nil)))))))))
theorem ok__law_grown {k : Nat} (T : Tx K mg) (O : Ok P w K mg base T k) : FnOk P w K mg base (L2N.CX P w) (2 * k + 3) (T.a 24) (T.fd 24) ["_law_letters_here", "_law_texts", "_law_cell"] (spOf K T.ca 3 (fns (k + 1) 24)) := by
  show FnOk P w K mg base (L2N.CX P w) (2 * k + 3) (T.a 24) (T.fd 24) ["_law_letters_here", "_law_texts", "_law_cell"] (spOf K T.ca 3 (b__law_grown (fns k)))
  exact fn_ok (N := ["_law_letters_here", "_law_texts", "_law_cell", "_law_rest"]) 4 3 (m__law_grown (fns k)) rfl rfl T.F24 sc__law_grown (fun X E ⟨cdv, A, outer, s, H, hX⟩ hr => by
    subst hX
    have nd := sc__law_grown.nd
    have hu := hu200 hr
    have hW := wid_fn (E := E)
    have tk := tk_fn (P := P) (w := w) (K := K) (mg := mg) (base := base) (N := ["_law_letters_here", "_law_texts", "_law_cell", "_law_rest"]) (qual := "_law_grown") (scope := defScope s__law_grown) (f := T.a 24) (cd := cdv) (A := A) (outer := outer) (s := s) (H := H) (E := E)
    have hp := hp_fn (P := P) (w := w) (K := K) (mg := mg) (base := base) (N := ["_law_letters_here", "_law_texts", "_law_cell", "_law_rest"]) (qual := "_law_grown") (scope := defScope s__law_grown) (f := T.a 24) (cd := cdv) (A := A) (outer := outer) (s := s) (H := H) (E := E)
    show DSs _ T.ca _ _ (m__law_grown (fns k))
    exact (dss_cons hW (ds_set 3 nd (de_bin op_fdiv imp_fdiv (de_var 2) de_int))
  (dss_cons hW (ds_if (dt_w (dw_and (dt_cmp (op_eqP hu) (imp_eqP false) (de_bin op_mod imp_mod (de_var 2) de_int) de_int) (dw_and1 (dt_cmp op_gt imp_gt (de_callB call_len imp_len rfl T.n_len PySem.boot_len (da_cons (de_var 1) da_nil)) de_int))))
  (dss_one (ds_ret (de_bin op_addA imp_add (de_cut (de_var 1) do_none (do_some (de_neg de_int))) (de_lst (da_cons (de_bin op_addA imp_add (de_bin op_addA imp_add (de_bin op_addA imp_add (de_bin op_addA imp_add de_str (de_ix (de_var 1) (de_neg de_int))) (de_ix (de_lst (da_cons de_str (da_cons de_str (da_cons de_str da_nil)))) (de_bin op_mod imp_mod (de_var 3) de_int))) (de_ix (de_var 1) (de_neg de_int))) de_str) da_nil)))))
  dss_nil)
  (dss_cons hW (ds_if (dt_w (dw_and (dt_cmp (op_eqP hu) (imp_eqP false) (de_bin op_mod imp_mod (de_var 2) de_int) de_int) (dw_and1 (dt_cmp op_gt imp_gt (de_callB call_len imp_len rfl T.n_len PySem.boot_len (da_cons (de_var 1) da_nil)) de_int))))
  (dss_one (ds_ret (de_bin op_addA imp_add (de_cut (de_var 1) do_none (do_some (de_neg de_int))) (de_lst (da_cons (de_bin op_addA imp_add (de_bin op_addA imp_add (de_bin op_addA imp_add (de_bin op_addA imp_add (de_bin op_addA imp_add de_str (de_ix (de_var 1) (de_neg de_int))) (de_ix (de_lst (da_cons de_str (da_cons de_str da_nil))) (de_bin op_mod imp_mod (de_var 3) de_int))) (de_ix (de_var 1) (de_neg de_int))) de_str) (de_bin op_mulA imp_mul de_str (de_bin op_mod imp_mod (de_var 3) de_int))) da_nil)))))
  dss_nil)
  (dss_cons hW (ds_if (dt_w (dw_and (dt_cmp (op_eqP hu) (imp_eqP false) (de_bin op_mod imp_mod (de_var 2) de_int) de_int) (dw_and1 (dt_cmp (op_neP hu) (imp_eqP true) (de_var 1) (de_lst da_nil)))))
  (dss_one (ds_ret (de_bin op_addA imp_add (de_cut (de_var 1) do_none (do_some (de_neg de_int))) (de_lst (da_cons (de_bin op_addA imp_add (de_bin op_mulA imp_mul de_str (de_bin op_addA imp_add de_int (de_bin op_mod imp_mod (de_var 3) de_int))) (de_ix (de_var 1) (de_neg de_int))) da_nil)))))
  dss_nil)
  (dss_cons hW (ds_if (dt_w (dw_and (dt_cmp (op_eqP hu) (imp_eqP false) (de_bin op_mod imp_mod (de_var 2) de_int) de_int) (dw_and1 (dt_cmp (op_neP hu) (imp_eqP true) (de_var 1) (de_lst da_nil)))))
  (dss_one (ds_ret (de_bin op_addA imp_add (de_cut (de_var 1) do_none (do_some (de_neg de_int))) (de_lst (da_cons (de_bin op_addA imp_add (de_bin op_addA imp_add (de_bin op_addA imp_add de_str (de_ix (de_var 1) (de_neg de_int))) de_str) (de_bin op_mulA imp_mul de_str (de_bin op_mod imp_mod (de_var 3) de_int))) da_nil)))))
  dss_nil)
  (dss_cons hW (ds_if (dt_cmp (op_eqP hu) (imp_eqP false) (de_bin op_mod imp_mod (de_var 2) de_int) de_int)
  (dss_one (ds_ret (de_bin op_addA imp_add (de_var 1) (de_lst (da_cons (de_ix (de_lst (da_cons de_str (da_cons de_str (da_cons de_str (da_cons de_str (da_cons de_str (da_cons de_str da_nil))))))) (de_bin op_mod imp_mod (de_var 3) de_int)) da_nil)))))
  dss_nil)
  (dss_one (ds_ret (de_bin op_addA imp_add (de_var 1) (de_lst (da_cons (de_ix (de_var 0) (de_bin op_mod imp_mod (de_var 3) (de_callB call_len imp_len rfl T.n_len PySem.boot_len (da_cons (de_var 0) da_nil)))) da_nil))))))))))))
theorem ok__law_edited {k : Nat} (T : Tx K mg) (O : Ok P w K mg base T k) : FnOk P w K mg base (L2N.CX P w) (2 * k + 3) (T.a 25) (T.fd 25) ["_law_letters_here", "_law_text", "_law_cell"] (spOf K T.ca 3 (fns (k + 1) 25)) := by
  show FnOk P w K mg base (L2N.CX P w) (2 * k + 3) (T.a 25) (T.fd 25) ["_law_letters_here", "_law_text", "_law_cell"] (spOf K T.ca 3 (b__law_edited (fns k)))
  exact fn_ok (N := ["_law_letters_here", "_law_text", "_law_cell", "_law_number", "_law_others", "_law_other", "_law_some", "_law_sign", "_law_at", "_law_marks", "_law_k"]) 11 3 (m__law_edited (fns k)) rfl rfl T.F25 sc__law_edited (fun X E ⟨cdv, A, outer, s, H, hX⟩ hr => by
    subst hX
    have nd := sc__law_edited.nd
    have hu := hu200 hr
    have hW := wid_fn (E := E)
    have tk := tk_fn (P := P) (w := w) (K := K) (mg := mg) (base := base) (N := ["_law_letters_here", "_law_text", "_law_cell", "_law_number", "_law_others", "_law_other", "_law_some", "_law_sign", "_law_at", "_law_marks", "_law_k"]) (qual := "_law_edited") (scope := defScope s__law_edited) (f := T.a 25) (cd := cdv) (A := A) (outer := outer) (s := s) (H := H) (E := E)
    have hp := hp_fn (P := P) (w := w) (K := K) (mg := mg) (base := base) (N := ["_law_letters_here", "_law_text", "_law_cell", "_law_number", "_law_others", "_law_other", "_law_some", "_law_sign", "_law_at", "_law_marks", "_law_k"]) (qual := "_law_edited") (scope := defScope s__law_edited) (f := T.a 25) (cd := cdv) (A := A) (outer := outer) (s := s) (H := H) (E := E)
    show DSs _ T.ca _ _ (m__law_edited (fns k))
    exact (dss_cons hW (ds_set 3 nd (de_bin op_mod imp_mod (de_bin op_mulA imp_mul (de_callB call_abs imp_abs rfl T.n_abs B.abs (da_cons (de_var 2) da_nil)) de_int) de_int))
  (dss_cons hW (ds_setLc 4 rfl nd (t := (.one 7)) (own := [("_law_sign", 7)]) (di_any de_str) (blkOk_by (N := ["_law_letters_here", "_law_text", "_law_cell", "_law_number", "_law_others", "_law_other", "_law_some", "_law_sign", "_law_at", "_law_marks", "_law_k"]) (sc := defScope s__law_edited) (by decide +kernel)) List.mem_cons_self (fun _ _ _ _ _ => tg_one 7 nd) (fun _ _ _ _ _ => dts_one (dt_cmp (op_notInA hu) (imp_in true) (de_var 7) (de_var 0))) (fun _ _ _ _ _ => (de_var 7)))
  (dss_cons hW (ds_set 5 nd (de_ix (de_var 4) (de_bin op_mod imp_mod (de_bin op_fdiv imp_fdiv (de_var 3) de_int) (de_callB call_len imp_len rfl T.n_len PySem.boot_len (da_cons (de_var 4) da_nil)))))
  (dss_cons hW (ds_set 6 nd (de_bin op_addA imp_add (de_bin op_addA imp_add (de_bin op_addA imp_add (de_bin op_addA imp_add de_str (de_var 0)) de_str) (de_var 5)) (de_var 5)))
  (dss_cons hW (ds_set 7 nd (de_ix (de_var 6) (de_bin op_mod imp_mod (de_bin op_fdiv imp_fdiv (de_var 3) de_int) (de_callB call_len imp_len rfl T.n_len PySem.boot_len (da_cons (de_var 6) da_nil)))))
  (dss_cons hW (ds_set 8 nd (de_bin op_mod imp_mod (de_bin op_fdiv imp_fdiv (de_var 3) de_int) (de_bin op_addA imp_add (de_callB call_len imp_len rfl T.n_len PySem.boot_len (da_cons (de_var 1) da_nil)) de_int)))
  (dss_cons hW (ds_if (dt_cmp (op_eqP hu) (imp_eqP false) (de_bin op_mod imp_mod (de_var 3) de_int) de_int)
  (dss_cons hW (ds_setLc 9 rfl nd (t := (.one 10)) (own := [("_law_k", 10)]) (di_range1 T.n_range (da_cons (de_bin op_addA imp_add (de_callB call_len imp_len rfl T.n_len PySem.boot_len (da_cons (de_var 1) da_nil)) de_int) da_nil)) (blkOk_by (N := ["_law_letters_here", "_law_text", "_law_cell", "_law_number", "_law_others", "_law_other", "_law_some", "_law_sign", "_law_at", "_law_marks", "_law_k"]) (sc := defScope s__law_edited) (by decide +kernel)) List.mem_cons_self (fun _ _ _ _ _ => tg_one 10 nd) (fun _ _ _ _ _ => dts_one (dt_cmp (op_inA hu) (imp_in false) (de_cut (de_var 1) (do_some (de_var 10)) (do_some (de_bin op_addA imp_add (de_var 10) de_int))) (de_lst (da_cons de_str (da_cons de_str (da_cons de_str (da_cons de_str da_nil))))))) (fun _ _ _ _ _ => (de_var 10)))
  (dss_cons hW (ds_set 8 nd (de_ix (de_var 9) (de_bin op_mod imp_mod (de_bin op_fdiv imp_fdiv (de_var 3) de_int) (de_callB call_len imp_len rfl T.n_len PySem.boot_len (da_cons (de_var 9) da_nil)))))
  (dss_one (ds_ret (de_bin op_addA imp_add (de_bin op_addA imp_add (de_cut (de_var 1) do_none (do_some (de_var 8))) de_str) (de_cut (de_var 1) (do_some (de_var 8)) do_none))))))
  dss_nil)
  (dss_cons hW (ds_if (dt_cmp (op_eqP hu) (imp_eqP false) (de_bin op_mod imp_mod (de_var 3) de_int) de_int)
  (dss_one (ds_ret (de_bin op_addA imp_add (de_bin op_addA imp_add (de_cut (de_var 1) do_none (do_some (de_var 8))) (de_var 7)) (de_cut (de_var 1) (do_some (de_var 8)) do_none))))
  dss_nil)
  (dss_one (ds_ret (de_bin op_addA imp_add (de_bin op_addA imp_add (de_cut (de_var 1) do_none (do_some (de_var 8))) (de_bin op_mulA imp_mul (de_var 7) (de_bin op_sub imp_sub (de_bin op_mod imp_mod (de_var 3) de_int) de_int))) (de_cut (de_var 1) (do_some (de_bin op_addA imp_add (de_var 8) de_int)) do_none)))))))))))))
theorem ok__law_odd {k : Nat} (T : Tx K mg) (O : Ok P w K mg base T k) : FnOk P w K mg base (L2N.CX P w) (2 * k + 3) (T.a 26) (T.fd 26) ["_law_letters_here", "_law_cell"] (spOf K T.ca 2 (fns (k + 1) 26)) := by
  show FnOk P w K mg base (L2N.CX P w) (2 * k + 3) (T.a 26) (T.fd 26) ["_law_letters_here", "_law_cell"] (spOf K T.ca 2 (b__law_odd (fns k)))
  exact fn_ok (N := ["_law_letters_here", "_law_cell", "_law_sign", "_law_some", "_law_one"]) 5 2 (m__law_odd (fns k)) rfl rfl T.F26 sc__law_odd (fun X E ⟨cdv, A, outer, s, H, hX⟩ hr => by
    subst hX
    have nd := sc__law_odd.nd
    have hu := hu200 hr
    have hW := wid_fn (E := E)
    have tk := tk_fn (P := P) (w := w) (K := K) (mg := mg) (base := base) (N := ["_law_letters_here", "_law_cell", "_law_sign", "_law_some", "_law_one"]) (qual := "_law_odd") (scope := defScope s__law_odd) (f := T.a 26) (cd := cdv) (A := A) (outer := outer) (s := s) (H := H) (E := E)
    have hp := hp_fn (P := P) (w := w) (K := K) (mg := mg) (base := base) (N := ["_law_letters_here", "_law_cell", "_law_sign", "_law_some", "_law_one"]) (qual := "_law_odd") (scope := defScope s__law_odd) (f := T.a 26) (cd := cdv) (A := A) (outer := outer) (s := s) (H := H) (E := E)
    show DSs _ T.ca _ _ (m__law_odd (fns k))
    exact (dss_cons hW (ds_set 2 nd (de_ix (de_var 0) (de_bin op_mod imp_mod (de_bin op_fdiv imp_fdiv (de_var 1) de_int) (de_callB call_len imp_len rfl T.n_len PySem.boot_len (da_cons (de_var 0) da_nil)))))
  (dss_cons hW (ds_set 3 nd (de_new (da_cons (de_tup (da_cons (de_bin op_mulA imp_mul (de_var 2) de_int) (da_cons (de_lst (da_cons de_str da_nil)) da_nil))) (da_cons (de_tup (da_cons (de_bin op_mulA imp_mul de_str de_int) (da_cons (de_lst (da_cons de_str da_nil)) da_nil))) (da_cons (de_tup (da_cons (de_bin op_mulA imp_mul (de_var 2) de_int) (da_cons (de_lst (da_cons de_str da_nil)) da_nil))) (da_cons (de_tup (da_cons (de_bin op_addA imp_add (de_bin op_mulA imp_mul de_str de_int) (de_var 2)) (da_cons (de_lst (da_cons de_str da_nil)) da_nil))) da_nil))))))
  (dss_cons hW (ds_set 3 nd (de_bin op_cat imp_addN (de_var 3) (de_lst (da_cons (de_tup (da_cons (de_bin op_addA imp_add (de_var 2) (de_bin op_mulA imp_mul de_str de_int)) (da_cons (de_lst (da_cons de_str da_nil)) da_nil))) (da_cons (de_tup (da_cons (de_bin op_addA imp_add (de_bin op_mulA imp_mul de_str de_int) (de_bin op_mulA imp_mul de_str de_int)) (da_cons (de_tup (da_cons de_str da_nil)) da_nil))) (da_cons (de_tup (da_cons de_non (da_cons (de_lst (da_cons de_str da_nil)) da_nil))) da_nil))))))
  (dss_cons hW (ds_set 3 nd (de_bin op_cat imp_addN (de_var 3) (de_lst (da_cons (de_tup (da_cons de_int (da_cons (de_lst (da_cons de_str da_nil)) da_nil))) (da_cons (de_tup (da_cons (de_lst (da_cons (de_var 2) da_nil)) (da_cons (de_lst (da_cons de_str da_nil)) da_nil))) (da_cons (de_tup (da_cons (de_bin op_mulA imp_mul (de_var 2) de_int) (da_cons (de_tup (da_cons de_str (da_cons (de_bin op_mulA imp_mul (de_tup (da_cons (de_tup (da_cons de_str (da_cons (de_var 2) da_nil))) da_nil)) de_int) da_nil))) da_nil))) da_nil))))))
  (dss_cons hW (ds_set 4 nd (de_tup (da_cons de_str (da_cons (de_var 2) da_nil))))
  (dss_cons hW (ds_expr (de_append (de_var 3) (de_tup (da_cons (de_bin op_addA imp_add (de_bin op_addA imp_add (de_bin op_addA imp_add (de_bin op_mulA imp_mul de_str de_int) (de_var 2)) (de_bin op_mulA imp_mul de_str de_int)) (de_var 2)) (da_cons (de_tup (da_cons de_str (da_cons (de_tup (da_cons (de_var 4) (da_cons (de_var 4) da_nil))) da_nil))) da_nil)))))
  (dss_one (ds_ret (de_ix (de_var 3) (de_bin op_mod imp_mod (de_var 1) de_int)))))))))))
theorem ok_law {k : Nat} (T : Tx K mg) (O : Ok P w K mg base T k) : FnOk P w K mg base (L2N.CX P w) (2 * k + 3) (T.a 27) (T.fd 27) ["_law_script"] (spOf K T.ca 1 (fns (k + 1) 27)) := by
  show FnOk P w K mg base (L2N.CX P w) (2 * k + 3) (T.a 27) (T.fd 27) ["_law_script"] (spOf K T.ca 1 (b_law (fns k)))
  exact fn_ok (N := ["_law_script", "_law_letters_here", "_law_cell", "_law_texts", "_law_one", "_law_text", "_law_due_here"]) 7 1 (m_law (fns k)) rfl rfl T.F27 sc_law (fun X E ⟨cdv, A, outer, s, H, hX⟩ hr => by
    subst hX
    have nd := sc_law.nd
    have hu := hu200 hr
    have hW := wid_fn (E := E)
    have tk := tk_fn (P := P) (w := w) (K := K) (mg := mg) (base := base) (N := ["_law_script", "_law_letters_here", "_law_cell", "_law_texts", "_law_one", "_law_text", "_law_due_here"]) (qual := "law") (scope := defScope s_law) (f := T.a 27) (cd := cdv) (A := A) (outer := outer) (s := s) (H := H) (E := E)
    have hp := hp_fn (P := P) (w := w) (K := K) (mg := mg) (base := base) (N := ["_law_script", "_law_letters_here", "_law_cell", "_law_texts", "_law_one", "_law_text", "_law_due_here"]) (qual := "law") (scope := defScope s_law) (f := T.a 27) (cd := cdv) (A := A) (outer := outer) (s := s) (H := H) (E := E)
    show DSs _ T.ca _ _ (m_law (fns k))
    exact (dss_cons hW (ds_set 1 nd (de_call O.o16 (hr.mono (by omega)) tk T.g16 T.F16.kp T.b16 (da_cons (de_call O.o15 (hr.mono (by omega)) tk T.g15 T.F15.kp T.b15 (da_cons (de_var 0) (da_cons de_int da_nil))) da_nil)))
  (dss_cons hW (ds_set 2 nd (de_call O.o15 (hr.mono (by omega)) tk T.g15 T.F15.kp T.b15 (da_cons (de_var 0) (da_cons de_int da_nil))))
  (dss_cons hW (ds_if (dt_cmp (op_eqP hu) (imp_eqP false) (de_bin op_mod imp_mod (de_var 2) de_int) de_int)
  (dss_cons hW (ds_asg (de_call O.o26 (hr.mono (by omega)) tk T.g26 T.F26.kp T.b26 (da_cons (de_var 1) (da_cons (de_bin op_fdiv imp_fdiv (de_var 2) de_int) da_nil))) (dg_tup (n := 2) rfl (dgs_cons hW (dg_name 5 nd) (dgs_cons hW (dg_name 6 nd) dgs_nil))))
  (dss_one (ds_ret (de_and (de_cmp (op_eqP hu) (imp_eqP false) (de_call O.o23 (hr.mono (by omega)) tk T.g23 T.F23.kp T.b23 (da_cons (de_var 1) (da_cons (de_var 5) da_nil))) (de_var 6)) (de_one (de_cmp (op_eqP hu) (imp_eqP false) (de_call O.o23 (hr.mono (by omega)) tk T.g23 T.F23.kp T.b23 (da_cons de_str (da_cons (de_var 5) da_nil))) (de_lst (da_cons de_str da_nil))))))))
  dss_nil)
  (dss_cons hW (ds_set 3 nd (de_lst da_nil))
  (dss_cons hW (ds_for hW hp rfl (di_any (de_cut (de_var 0) (do_some de_int) (do_some de_int))) (dg_name 4 nd)
  (dss_one (ds_set 3 nd (de_call O.o24 (hr.mono (by omega)) tk T.g24 T.F24.kp T.b24 (da_cons (de_var 1) (da_cons (de_var 3) (da_cons (de_var 4) da_nil)))))))
  (dss_cons hW (ds_set 5 nd (de_bin op_addA imp_add (de_bin op_addA imp_add (de_join de_str (de_cut (de_var 3) do_none (do_some de_int))) (de_ix (de_lst (da_cons de_str (da_cons de_str (da_cons de_str da_nil)))) (de_bin op_mod imp_mod (de_bin op_fdiv imp_fdiv (de_var 2) de_int) de_int))) (de_join de_str (de_cut (de_var 3) (do_some de_int) do_none))))
  (dss_cons hW (ds_if (dt_cmp (op_neP hu) (imp_eqP true) (de_call O.o23 (hr.mono (by omega)) tk T.g23 T.F23.kp T.b23 (da_cons (de_var 1) (da_cons (de_var 5) da_nil))) (de_call O.o22 (hr.mono (by omega)) tk T.g22 T.F22.kp T.b22 (da_cons (de_var 1) (da_cons (de_var 5) da_nil))))
  (dss_one (ds_ret de_bl))
  dss_nil)
  (dss_cons hW (ds_if (dt_cmp op_gt imp_gt (de_bin op_mod imp_mod (de_var 2) de_int) de_int)
  (dss_one (ds_set 5 nd (de_call O.o25 (hr.mono (by omega)) tk T.g25 T.F25.kp T.b25 (da_cons (de_var 1) (da_cons (de_var 5) (da_cons (de_call O.o15 (hr.mono (by omega)) tk T.g15 T.F15.kp T.b15 (da_cons (de_var 0) (da_cons de_int da_nil))) da_nil))))))
  dss_nil)
  (dss_one (ds_ret (de_and (de_cmp (op_eqP hu) (imp_eqP false) (de_call O.o23 (hr.mono (by omega)) tk T.g23 T.F23.kp T.b23 (da_cons (de_var 1) (da_cons (de_var 5) da_nil))) (de_call O.o22 (hr.mono (by omega)) tk T.g22 T.F22.kp T.b22 (da_cons (de_var 1) (da_cons (de_var 5) da_nil)))) (de_one (de_cmp (op_eqP hu) (imp_eqP false) (de_call O.o23 (hr.mono (by omega)) tk T.g23 T.F23.kp T.b23 (da_cons de_str (da_cons (de_var 5) da_nil))) (de_lst (da_cons de_str da_nil))))))))))))))))
theorem ok_all (T : Tx K mg) : ∀ k, Ok P w K mg base T k
  | 0 => ⟨fn_zero, fn_zero, fn_zero, fn_zero, fn_zero, fn_zero, fn_zero, fn_zero, fn_zero, fn_zero, fn_zero, fn_zero, fn_zero, fn_zero, fn_zero, fn_zero, fn_zero, fn_zero, fn_zero, fn_zero, fn_zero, fn_zero, fn_zero, fn_zero, fn_zero, fn_zero, fn_zero, fn_zero, ok_kind T⟩
  | k + 1 => by
    have O := ok_all T k
    exact ⟨ok_are_letters T O, ok_need_letters T O, ok_Made___init__ T O, ok_Open___init__ T O, ok_need T O, ok_of_parts T O, ok_end_half T O, ok_end_branch T O, ok_closed T O, ok_put T O, ok_marked T O, ok_plain_atom T O, ok_stars_at T O, ok_read_all T O, ok_read T O, ok__law_cell_at T O, ok__law_letters T O, ok__law_size T O, ok__law_of T O, ok__law_item T O, ok__law_half T O, ok__law_either T O, ok__law_due T O, ok__law_told T O, ok__law_grown T O, ok__law_edited T O, ok__law_odd T O, ok_law T O, ok_kind T⟩
end
end G
/-! EVA: plain values, letters, patterns as a type of their own -/
namespace G
open PySem PySem.Spec PyProof.Rows L2 DE
mutual
/-- a plain value; its texts are texts -/
def pl : D → Bool
  | .tup xs => decide (xs.length ≤ 1000) && pls xs
  | .lst xs => decide (xs.length ≤ 1000) && pls xs
  | .dct _ _ => true
  | .ref _ => false
  | .scr _ => false
  | .exc _ _ => false
  | .obj _ _ => false
  | .non => true
  | .bl _ => true
  | .int _ => true
  | .str x => strOk' x && decide (x.length ≤ 1000)
def pls : List D → Bool
  | [] => true
  | x :: xs => pl x && pls xs
end
theorem pls_mem : ∀ {xs : List D}, pls xs = true → ∀ x ∈ xs, pl x = true
  | x :: xs, h, y, hy => by
    simp only [pls, Bool.and_eq_true] at h
    rcases List.mem_cons.mp hy with rfl | hy
    · exact h.1
    · exact pls_mem h.2 y hy
theorem depDs_mem : ∀ {xs : List D}, ∀ x ∈ xs, depD x ≤ depDs xs
  | x :: xs, y, hy => by
    simp only [depDs]
    rcases List.mem_cons.mp hy with rfl | hy
    · exact Nat.le_max_left _ _
    · exact Nat.le_trans (depDs_mem y hy) (Nat.le_max_right _ _)
/-! ### patterns as a type of their own -/
inductive W3 where
  | row | or | and
  deriving DecidableEq
inductive U2 where
  | many | not
  deriving DecidableEq
def W3.s : W3 → String
  | .row => "row"
  | .or => "or"
  | .and => "and"
def U2.s : U2 → String
  | .many => "many"
  | .not => "not"
inductive Pt where
  | non | emp | sg (c : Nat) | nary (w : W3) (ps : List Pt) | un (u : U2) (p : Pt)
mutual
def toD : Pt → D
  | .non => .tup [.str "none"]
  | .emp => .tup [.str "empty"]
  | .sg c => .tup [.str "sign", .str ⟨#[c]⟩]
  | .nary w ps => .tup [.str (Str.ofString w.s), .tup (toDs ps)]
  | .un u p => .tup [.str (Str.ofString u.s), toD p]
def toDs : List Pt → List D
  | [] => []
  | p :: ps => toD p :: toDs ps
end
theorem toDs_map : ∀ ps : List Pt, toDs ps = ps.map toD
  | [] => rfl
  | p :: ps => by rw [toDs, toDs_map ps]; rfl
mutual
def okP (l : Str) : Pt → Bool
  | .non => true
  | .emp => true
  | .sg c => decide (c ∈ l.cps.toList)
  | .nary _ ps => decide (2 ≤ ps.length) && decide (ps.length ≤ 1000) && okPs l ps
  | .un _ p => okP l p
def okPs (l : Str) : List Pt → Bool
  | [] => true
  | p :: ps => okP l p && okPs l ps
end
mutual
def siz : Pt → Nat
  | .nary _ ps => 1 + sizs ps
  | .un _ p => 1 + siz p
  | .non => 1
  | .emp => 1
  | .sg _ => 1
def sizs : List Pt → Nat
  | [] => 0
  | p :: ps => siz p + sizs ps
end
theorem sizs_map : ∀ ps : List Pt, sizs ps = (ps.map siz).sum
  | [] => rfl
  | p :: ps => by rw [sizs, sizs_map ps]; rfl
theorem sizs_int : ∀ ps : List Pt, (ps.map fun p => ((siz p : Nat) : Int)).sum = ((sizs ps : Nat) : Int)
  | [] => rfl
  | p :: ps => by
    rw [List.map_cons, List.sum_cons, sizs_int ps]
    simp only [sizs]
    omega
theorem okPs_mem {l : Str} : ∀ {ps : List Pt}, okPs l ps = true ↔ ∀ p ∈ ps, okP l p = true
  | [] => by simp [okPs]
  | p :: ps => by simp [okPs, okPs_mem (ps := ps)]
theorem siz_pos : ∀ p : Pt, 1 ≤ siz p
  | .non => by simp [siz]
  | .emp => by simp [siz]
  | .sg _ => by simp [siz]
  | .nary _ _ => by simp [siz]
  | .un _ _ => by simp [siz]
theorem siz_mem : ∀ {ps : List Pt}, ∀ p ∈ ps, siz p ≤ sizs ps
  | q :: ps, p, h => by
    simp only [sizs]
    rcases List.mem_cons.mp h with rfl | h
    · omega
    · have := siz_mem p h; omega
theorem siz_len : ∀ ps : List Pt, ps.length ≤ sizs ps
  | [] => by simp [sizs]
  | p :: ps => by
    have := siz_pos p
    have := siz_len ps
    simp only [sizs, List.length_cons]
    omega
mutual
/-- how deep its value is -/
theorem dep_siz {l : Str} : ∀ p : Pt, okP l p = true → depD (toD p) ≤ siz p + 1
  | .non, _ => by simp [toD, depD, depDs, siz]
  | .emp, _ => by simp [toD, depD, depDs, siz]
  | .sg c, _ => by simp [toD, depD, depDs, siz]
  | .un u p, h => by
    have := dep_siz p (by simpa [okP] using h)
    simp only [toD, depD, depDs, siz]
    omega
  | .nary w ps, h => by
    simp only [okP, Bool.and_eq_true, decide_eq_true_eq] at h
    have h1 := dep_sizs ps h.2 h.1.1
    simp only [toD, depD, depDs, siz]
    omega
theorem dep_sizs {l : Str} : ∀ ps : List Pt, okPs l ps = true → 2 ≤ ps.length → depDs (toDs ps) + 1 ≤ sizs ps + 1
  | [], _, h => by simp at h
  | [_], _, h => by simp at h
  | [p, q], h, _ => by
    simp only [okPs, Bool.and_eq_true] at h
    have h1 := dep_siz p h.1
    have h2 := dep_siz q h.2.1
    have := siz_pos p
    have := siz_pos q
    simp only [toDs, depDs, sizs]
    omega
  | p :: q :: r :: ps, h, _ => by
    simp only [okPs, Bool.and_eq_true] at h
    have h1 := dep_siz p h.1
    have h2 := dep_sizs (q :: r :: ps) (by simp only [okPs, Bool.and_eq_true]; exact h.2) (by simp)
    have := siz_pos p
    have e : depDs (toDs (p :: q :: r :: ps)) = max (depD (toD p)) (depDs (toDs (q :: r :: ps))) := by simp only [toDs, depDs]
    have f : sizs (p :: q :: r :: ps) = siz p + sizs (q :: r :: ps) := by simp only [sizs]
    have g : 1 ≤ sizs (q :: r :: ps) := by have := siz_pos q; simp only [sizs]; omega
    omega
end
theorem W3.cases (w : W3) : w.s = "row" ∨ w.s = "or" ∨ w.s = "and" := by cases w <;> simp [W3.s]
mutual
theorem pl_toD {l : Str} (hl : strOk' l = true) : ∀ p : Pt, okP l p = true → pl (toD p) = true
  | .non, _ => by simp only [toD, pl, pls]; decide +kernel
  | .emp, _ => by simp only [toD, pl, pls]; decide +kernel
  | .sg c, h => by
    have hc : c < 0x110000 := by
      simp only [okP, decide_eq_true_eq] at h
      unfold strOk' at hl
      rw [← Array.all_toList, List.all_eq_true] at hl
      simpa using hl c h
    have e : (pl (.str "sign")) = true := by simp only [pl]; decide +kernel
    have f : pl (.str ⟨#[c]⟩) = true := by
      simp only [pl, sg_len]
      simp [strOk', hc]
    simp [toD, pl.eq_1, pls, e, f]
  | .un u p, h => by
    have h1 := pl_toD hl p (by simpa [okP] using h)
    have e : (pl (.str (Str.ofString u.s))) = true := by cases u <;> simp only [pl, U2.s] <;> decide +kernel
    simp [toD, pl.eq_1, pls, e, h1]
  | .nary w ps, h => by
    simp only [okP, Bool.and_eq_true, decide_eq_true_eq] at h
    have h1 := pl_toDs hl ps h.2
    have e : (pl (.str (Str.ofString w.s))) = true := by cases w <;> simp only [pl, W3.s] <;> decide +kernel
    have e2 : (toDs ps).length ≤ 1000 := by rw [toDs_map, List.length_map]; exact h.1.2
    simp [toD, pl.eq_1, pls, e, h1, e2]
theorem pl_toDs {l : Str} (hl : strOk' l = true) : ∀ ps : List Pt, okPs l ps = true → pls (toDs ps) = true
  | [], _ => by simp [toDs, pls]
  | p :: ps, h => by
    simp only [okPs, Bool.and_eq_true] at h
    simp only [toDs, pls, Bool.and_eq_true]
    exact ⟨pl_toD hl p h.1, pl_toDs hl ps h.2⟩
end
def kids : Pt → List Pt
  | .nary _ ps => ps
  | .un _ p => [p]
  | _ => []
theorem siz_kids (p : Pt) : siz p = 1 + sizs (kids p) := by cases p <;> simp [siz, kids, sizs]
theorem kids_ok {l : Str} {p : Pt} (h : okP l p = true) : (kids p).length ≤ 1000 ∧ ∀ q ∈ kids p, okP l q = true ∧ depD (toD q) < depD (toD p) := by
  cases p with
  | nary w ps =>
    simp only [okP, Bool.and_eq_true, decide_eq_true_eq] at h
    refine ⟨h.1.2, fun q hq => ⟨okPs_mem.mp h.2 q hq, ?_⟩⟩
    have := depDs_mem (toD q) (by rw [toDs_map]; exact List.mem_map_of_mem hq : toD q ∈ toDs ps)
    simp only [toD, depD, depDs]
    omega
  | un u p =>
    simp only [okP] at h
    refine ⟨by simp [kids], fun q hq => ?_⟩
    have e : q = p := by simpa [kids] using hq
    subst e
    refine ⟨h, ?_⟩
    simp only [toD, depD, depDs]
    omega
  | _ => exact ⟨by simp [kids], fun q hq => by simp [kids] at hq⟩
theorem dep_pos (p : Pt) : 1 ≤ depD (toD p) := by cases p <;> simp [toD, depD]
theorem ev_need_letters (k : Nat) (d : D) (s : Store) (b : Bool) (h : fns (k + 1) i_are_letters [d] s = .ok (.bl b) s) : fns (k + 2) i_need_letters [d] s = if b then .ok .non s else .exc 1 s := by
  rw [e_need_letters]
  cases b <;> simp [m_need_letters, bodyF, env0, sSeq, sSet, sIf, sRet, sRetN, sExpr, sPass, sRaise, sBad, eVar, eC, eTup, eLst, aCons, aNil, eCall, ar, DE.e2, eAnd, eOr, eNot, eIf, eNeg, tVal, tAndM, tOrM, tNotM, tYesM, eChain, isiD, tyOf, isTy, eM1, oNone, oSome, eCut, R.bind_ok, R.bind_exc, R.bindS_ok, R.bindS_exc, RS.bind_next, RS.bind_ret, RS.bind_exc, LINE, ofS_inj, ofS_ok, eqD_int, eqD_ss, inD3_ss, inD2_ss, h]
/-- letters as the program has them -/
def letOk : D → Bool
  | .str z => decide (1 ≤ z.length ∧ z.length ≤ 4) && z.cps.toList.all fun c => decide (c ∈ (Str.ofString "abcdefghijklmnopqrstuvwxyz").cps.toList) && decide (Txt.count z ⟨#[c]⟩ = 1)
  | _ => false
def SMALLS : Str := "abcdefghijklmnopqrstuvwxyz"
theorem ev_are_letters (k : Nat) (d : D) (s : Store) (hd : pl d = true) : fns (k + 1) i_are_letters [d] s = .ok (.bl (letOk d)) s := by
  rw [e_are_letters]
  cases d with
  | str z =>
    simp only [pl, Bool.and_eq_true, decide_eq_true_eq] at hd
    have hl : z.cps.toList.length ≤ 1000 := hd.2
    have e := eLc_all (t := .one 1) (vs := [1]) (em := eAnd (DE.e2 (inD false) (eVar 1) (eC (.str "abcdefghijklmnopqrstuvwxyz"))) (DE.e2 (eqD false) (eM1 countD (eVar 0) (eVar 1)) (eC (.int 1)))) (im := itV' (eVar 0)) (env := [some (.str z), none]) (s := s)
      (fun c => .str ⟨#[c]⟩) (fun c => .bl (decide (c ∈ (Str.ofString "abcdefghijklmnopqrstuvwxyz").cps.toList) && decide (Txt.count z ⟨#[c]⟩ = 1))) z.cps.toList (by simp [itV', bodyF, env0, sSeq, sSet, sIf, sRet, sRetN, sExpr, sPass, sRaise, sBad, eVar, eC, eTup, eLst, aCons, aNil, eCall, ar, DE.e2, eAnd, eOr, eNot, eIf, eNeg, tVal, tAndM, tOrM, tNotM, tYesM, eChain, isiD, tyOf, isTy, eM1, oNone, oSome, eCut, R.bind_ok, R.bind_exc, R.bindS_ok, R.bindS_exc, RS.bind_next, RS.bind_ret, RS.bind_exc, LINE, ofS_inj, ofS_ok, eqD_int, eqD_ss, inD3_ss, inD2_ss, DE.signs]) hl (fun c hc => by
        refine ⟨_, rfl, ?_⟩
        generalize (Str.ofString "abcdefghijklmnopqrstuvwxyz") = S
        by_cases h : c ∈ S.cps
        · simp [bodyF, env0, sSeq, sSet, sIf, sRet, sRetN, sExpr, sPass, sRaise, sBad, eVar, eC, eTup, eLst, aCons, aNil, eCall, ar, DE.e2, eAnd, eOr, eNot, eIf, eNeg, tVal, tAndM, tOrM, tNotM, tYesM, eChain, isiD, tyOf, isTy, eM1, oNone, oSome, eCut, R.bind_ok, R.bind_exc, R.bindS_ok, R.bindS_exc, RS.bind_next, RS.bind_ret, RS.bind_exc, LINE, ofS_inj, ofS_ok, eqD_int, eqD_ss, inD3_ss, inD2_ss, inD, h, countD, wipeE]
        · simp [bodyF, env0, sSeq, sSet, sIf, sRet, sRetN, sExpr, sPass, sRaise, sBad, eVar, eC, eTup, eLst, aCons, aNil, eCall, ar, DE.e2, eAnd, eOr, eNot, eIf, eNeg, tVal, tAndM, tOrM, tNotM, tYesM, eChain, isiD, tyOf, isTy, eM1, oNone, oSome, eCut, R.bind_ok, R.bind_exc, R.bindS_ok, R.bindS_exc, RS.bind_next, RS.bind_ret, RS.bind_exc, LINE, ofS_inj, ofS_ok, eqD_int, eqD_ss, inD3_ss, inD2_ss, inD, h, wipeE])
    have hlen : lenD [.str z] s = .ok (.int z.length) s := lenD_str hd.2
    simp only [letOk]
    by_cases h1 : 1 ≤ z.length
    · have h1' : (1 : Int) ≤ z.length := by omega
      by_cases h4 : z.length ≤ 4
      · have h4' : (z.length : Int) ≤ 4 := by omega
        simp only [decide_eq_true_eq, h1, h4]
        simp [m_are_letters, bodyF, env0, sSeq, sSet, sIf, sRet, sRetN, sExpr, sPass, sRaise, sBad, eVar, eC, eTup, eLst, aCons, aNil, eCall, ar, DE.e2, eAnd, eOr, eNot, eIf, eNeg, tVal, tAndM, tOrM, tNotM, tYesM, eChain, isiD, tyOf, isTy, eM1, oNone, oSome, eCut, R.bind_ok, R.bind_exc, R.bindS_ok, R.bindS_exc, RS.bind_next, RS.bind_ret, RS.bind_exc, LINE, ofS_inj, ofS_ok, eqD_int, eqD_ss, inD3_ss, inD2_ss, hlen, leD, cmpI, h1', h4', e, allD_map]
      · have h4' : ¬ (z.length : Int) ≤ 4 := by omega
        simp [m_are_letters, bodyF, env0, sSeq, sSet, sIf, sRet, sRetN, sExpr, sPass, sRaise, sBad, eVar, eC, eTup, eLst, aCons, aNil, eCall, ar, DE.e2, eAnd, eOr, eNot, eIf, eNeg, tVal, tAndM, tOrM, tNotM, tYesM, eChain, isiD, tyOf, isTy, eM1, oNone, oSome, eCut, R.bind_ok, R.bind_exc, R.bindS_ok, R.bindS_exc, RS.bind_next, RS.bind_ret, RS.bind_exc, LINE, ofS_inj, ofS_ok, eqD_int, eqD_ss, inD3_ss, inD2_ss, hlen, leD, cmpI, h4, h1', h4']
    · have h1' : ¬ (1 : Int) ≤ z.length := by omega
      simp [m_are_letters, bodyF, env0, sSeq, sSet, sIf, sRet, sRetN, sExpr, sPass, sRaise, sBad, eVar, eC, eTup, eLst, aCons, aNil, eCall, ar, DE.e2, eAnd, eOr, eNot, eIf, eNeg, tVal, tAndM, tOrM, tNotM, tYesM, eChain, isiD, tyOf, isTy, eM1, oNone, oSome, eCut, R.bind_ok, R.bind_exc, R.bindS_ok, R.bindS_exc, RS.bind_next, RS.bind_ret, RS.bind_exc, LINE, ofS_inj, ofS_ok, eqD_int, eqD_ss, inD3_ss, inD2_ss, hlen, leD, cmpI, h1, h1']
  | ref l => simp [pl] at hd
  | scr l => simp [pl] at hd
  | exc c l => simp [pl] at hd
  | obj c l => simp [pl] at hd
  | _ => simp [m_are_letters, bodyF, env0, sSeq, sSet, sIf, sRet, sRetN, sExpr, sPass, sRaise, sBad, eVar, eC, eTup, eLst, aCons, aNil, eCall, ar, DE.e2, eAnd, eOr, eNot, eIf, eNeg, tVal, tAndM, tOrM, tNotM, tYesM, eChain, isiD, tyOf, isTy, eM1, oNone, oSome, eCut, R.bind_ok, R.bind_exc, R.bindS_ok, R.bindS_exc, RS.bind_next, RS.bind_ret, RS.bind_exc, LINE, ofS_inj, ofS_ok, eqD_int, eqD_ss, inD3_ss, inD2_ss, letOk]
theorem ev_need_l (k : Nat) (d : D) (s : Store) (hd : pl d = true) : fns (k + 2) i_need_letters [d] s = if letOk d then .ok .non s else .exc 1 s := ev_need_letters k d s _ (ev_are_letters k d s hd)
theorem letOk_str {d : D} (h : letOk d = true) : ∃ z, d = .str z := by
  cases d <;> simp [letOk] at h
  exact ⟨_, rfl⟩
end G
/-! EVL0: the law's letters, all of them -/
namespace G
open PySem PySem.Spec PyProof.Rows L2 DE PySem.StrLaws
/-! ### the law's letters -/
def SM : Str := "abcdefghijklmnopqrstuvwxyz"
def smAt (i : Int) : Nat := (atI SM.cps.toList i).getD 0
theorem SM_len : SM.length = 26 := by decide +kernel
theorem sm_ix {i : Int} {s : Store} (h0 : 0 ≤ i) (h : i < 26) : ixD (.str SM) (.int i) s = .ok (.str ⟨#[smAt i]⟩) s := by
  have hl : SM.cps.toList.length = 26 := SM_len
  obtain ⟨c, hc, e⟩ := atI_int SM.cps.toList i h0 (by rw [hl]; exact h)
  show (if SM.length ≤ LINE then (match atI SM.cps.toList i with | some c => (R.ok (D.str ⟨#[c]⟩) s : R D) | none => .bad) else .bad) = _
  rw [if_pos (by rw [SM_len]; decide)]
  simp only [smAt, e]
  rfl
/-- one to four letters: from the a-th on, each st behind the one ahead -/
def letsF (a n st : Nat) : Str := Str.join ⟨#[]⟩ ((List.range n).map fun k => ⟨#[smAt (((a + k * st) % 26 : Nat) : Int)]⟩)
def smK (c : Int) (k : Nat) : Nat := smAt ((((c / 4 % 26).toNat + k * (1 + c / 104 % 12).toNat) % 26 : Nat) : Int)
def lets (c : Int) : Str := letsF (c / 4 % 26).toNat (1 + c % 4).toNat (1 + c / 104 % 12).toNat
theorem lets_all : ((List.range 26).all fun a => (List.range 12).all fun st => (List.range 4).all fun n => letOk (.str (letsF a (n + 1) (st + 1))) && pl (.str (letsF a (n + 1) (st + 1)))) = true := by decide +kernel
theorem lets_ok (c : Int) : letOk (.str (lets c)) = true ∧ pl (.str (lets c)) = true := by
  have h4 : 0 ≤ c % 4 ∧ c % 4 < 4 := ⟨Int.emod_nonneg _ (by decide), Int.emod_lt_of_pos _ (by decide)⟩
  have h12 : 0 ≤ c / 104 % 12 ∧ c / 104 % 12 < 12 := ⟨Int.emod_nonneg _ (by decide), Int.emod_lt_of_pos _ (by decide)⟩
  have h26 : 0 ≤ c / 4 % 26 ∧ c / 4 % 26 < 26 := ⟨Int.emod_nonneg _ (by decide), Int.emod_lt_of_pos _ (by decide)⟩
  have h := lets_all
  rw [List.all_eq_true] at h
  have h := h (c / 4 % 26).toNat (List.mem_range.mpr (by omega))
  rw [List.all_eq_true] at h
  have h := h (c / 104 % 12).toNat (List.mem_range.mpr (by omega))
  rw [List.all_eq_true] at h
  have h := h (c % 4).toNat (List.mem_range.mpr (by omega))
  rw [Bool.and_eq_true] at h
  have e1 : (c % 4).toNat + 1 = (1 + c % 4).toNat := by omega
  have e2 : (c / 104 % 12).toNat + 1 = (1 + c / 104 % 12).toNat := by omega
  rw [e1, e2] at h
  exact h
end G
/-! EVL: what the law's defs answer: letters, patterns drawn, sizes -/
namespace G
open PySem PySem.Spec PyProof.Rows L2 DE PySem.StrLaws
theorem lets_step {c : Int} {Z : Str} {s : Store} (hZ : ∀ i : Int, 0 ≤ i → i < 26 → ixD (.str Z) (.int i) s = .ok (.str ⟨#[smAt i]⟩) s) (j : Nat) (hj : j < 4) :
    (DE.e2 ixD (eVar 1) (DE.e2 modD (DE.e2 addD (DE.e2 fdivD (eVar 0) (eC (.int 4))) (DE.e2 mulD (eVar 2) (DE.e2 addD (eC (.int 1)) (DE.e2 modD (DE.e2 fdivD (eVar 0) (eC (.int 104))) (eC (.int 12)))))) (eC (.int 26)))) [some (.int c), some (.str Z), some (.int (0 + (j : Nat)))] s = .ok (.str ⟨#[smK c j]⟩) s := by
  have h12 : 0 ≤ c / 104 % 12 ∧ c / 104 % 12 < 12 := ⟨Int.emod_nonneg _ (by decide), Int.emod_lt_of_pos _ (by decide)⟩
  have hb : ∀ x : Int, mulD (.int (j : Nat)) (.int x) s = .ok (.int ((j : Nat) * x)) s := fun x => mulD_int (by omega)
  have he : (c / 4 + (j : Int) * (1 + c / 104 % 12)) % 26 = ((((c / 4 % 26).toNat + j * (1 + c / 104 % 12).toNat) % 26 : Nat) : Int) := by
    have a1 : ((c / 4 % 26).toNat : Int) = c / 4 % 26 := Int.toNat_of_nonneg (Int.emod_nonneg _ (by decide))
    have a2 : ((1 + c / 104 % 12).toNat : Int) = 1 + c / 104 % 12 := Int.toNat_of_nonneg (by omega)
    rw [Int.natCast_emod, Int.natCast_add, Int.natCast_mul, a1, a2]
    generalize (j : Int) * (1 + c / 104 % 12) = x
    show _ = (c / 4 % 26 + x) % 26
    omega
  have hx := hZ ((((c / 4 % 26).toNat + j * (1 + c / 104 % 12).toNat) % 26 : Nat) : Int) (by omega) (by omega)
  have hy : ixD (.str Z) (.int ((c / 4 + (j : Int) * (1 + c / 104 % 12)) % 26)) s = .ok (.str ⟨#[smK c j]⟩) s := by rw [he]; exact hx
  simp [bodyF, env0, sSeq, sSet, sIf, sRet, sRetN, sExpr, sPass, sRaise, sBad, eVar, eC, eTup, eLst, aCons, aNil, eCall, ar, DE.e2, eAnd, eOr, eNot, eIf, eNeg, tVal, tAndM, tOrM, tNotM, tYesM, eChain, isiD, tyOf, isTy, eM1, oNone, oSome, eCut, R.bind_ok, R.bind_exc, R.bindS_ok, R.bindS_exc, RS.bind_next, RS.bind_ret, RS.bind_exc, LINE, ofS_inj, ofS_ok, eqD_int, eqD_ss, inD3_ss, inD2_ss, fdivD_int, modD_int, addD_int, hb, hy]
theorem ev_letters0 {c : Int} {Z : Str} {s : Store} (hZ : ∀ i : Int, 0 ≤ i → i < 26 → ixD (.str Z) (.int i) s = .ok (.str ⟨#[smAt i]⟩) s) :
    eLc (itR1 (aCons (DE.e2 addD (eC (.int 1)) (DE.e2 modD (eVar 0) (eC (.int 4)))) aNil)) (.one 2) [2] tYesM (DE.e2 ixD (eVar 1) (DE.e2 modD (DE.e2 addD (DE.e2 fdivD (eVar 0) (eC (.int 4))) (DE.e2 mulD (eVar 2) (DE.e2 addD (eC (.int 1)) (DE.e2 modD (DE.e2 fdivD (eVar 0) (eC (.int 104))) (eC (.int 12)))))) (eC (.int 26)))) [some (.int c), some (.str Z), none] s =
      .ok (.lst (((List.range (1 + c % 4).toNat).map fun k => (⟨#[smK c k]⟩ : Str)).map D.str)) s := by
  have h4 : 0 ≤ c % 4 ∧ c % 4 < 4 := ⟨Int.emod_nonneg _ (by decide), Int.emod_lt_of_pos _ (by decide)⟩
  rw [List.map_map]
  refine eLc_all (t := .one 2) (vs := [2]) (fun k : Nat => .int (0 + (k : Nat))) _ (List.range (1 + c % 4).toNat) ?_ (by rw [List.length_range]; omega) (fun j hj => ?_)
  · have : -P62 ≤ 1 + c % 4 ∧ 1 + c % 4 < P62 := by unfold P62; omega
    simp [itR1, bodyF, env0, sSeq, sSet, sIf, sRet, sRetN, sExpr, sPass, sRaise, sBad, eVar, eC, eTup, eLst, aCons, aNil, eCall, ar, DE.e2, eAnd, eOr, eNot, eIf, eNeg, tVal, tAndM, tOrM, tNotM, tYesM, eChain, isiD, tyOf, isTy, eM1, oNone, oSome, eCut, R.bind_ok, R.bind_exc, R.bindS_ok, R.bindS_exc, RS.bind_next, RS.bind_ret, RS.bind_exc, LINE, ofS_inj, ofS_ok, eqD_int, eqD_ss, inD3_ss, inD2_ss, addD_int, modD_int, this, rangeL]
  · have hj : j < (1 + c % 4).toNat := List.mem_range.mp hj
    exact ⟨_, rfl, lets_step hZ j (by omega)⟩
theorem one_sum (f : Nat → Nat) : ∀ xs : List Nat, (((xs.map fun k => (⟨#[f k]⟩ : Str)).map (·.length))).sum = xs.length
  | [] => rfl
  | x :: xs => by rw [List.map_cons, List.map_cons, List.sum_cons, one_sum f xs]; show 1 + _ = _; rw [List.length_cons]; omega
theorem empty_str : Str.ofString "" = ⟨#[]⟩ := by decide +kernel
theorem lets_join {c : Int} {s : Store} : joinD (Str.ofString "") (.lst (((List.range (1 + c % 4).toNat).map fun k => (⟨#[smK c k]⟩ : Str)).map D.str)) s = .ok (.str (lets c)) s := by
  have h4 : 0 ≤ c % 4 ∧ c % 4 < 4 := ⟨Int.emod_nonneg _ (by decide), Int.emod_lt_of_pos _ (by decide)⟩
  rw [empty_str, joinD_all (by
    rw [one_sum, List.length_range, List.length_map, List.length_range]
    show _ + _ * 0 ≤ _
    omega)]
  rw [show ∀ zs, Txt.join ⟨#[]⟩ zs = Str.join ⟨#[]⟩ zs from fun zs => glued_eq_join ⟨#[]⟩ zs]
  rfl
theorem ev_letters (k : Nat) (c : Int) (s : Store) : fns (k + 1) i__law_letters [.int c] s = .ok (.str (lets c)) s := by
  rw [e__law_letters]
  have e := ev_letters0 (c := c) (Z := SM) (s := s) fun i h0 h => sm_ix h0 h
  have es : SM = Str.ofString "abcdefghijklmnopqrstuvwxyz" := rfl
  have ej := lets_join (c := c) (s := s)
  simp only [m__law_letters, ← es]
  rw [List.map_map] at e ej
  generalize SM = Z at e ⊢
  generalize Str.ofString "" = Y at ej ⊢
  simp [bodyF, env0, sSeq, sSet, sIf, sRet, sRetN, sExpr, sPass, sRaise, sBad, eVar, eC, eTup, eLst, aCons, aNil, eCall, ar, DE.e2, eAnd, eOr, eNot, eIf, eNeg, tVal, tAndM, tOrM, tNotM, tYesM, eChain, isiD, tyOf, isTy, eM1, oNone, oSome, eCut, R.bind_ok, R.bind_exc, R.bindS_ok, R.bindS_exc, RS.bind_next, RS.bind_ret, RS.bind_exc, LINE, ofS_inj, ofS_ok, eqD_int, eqD_ss, inD3_ss, inD2_ss, e, ej]
end G
/-! EVB: cells, sizes, lists of patterns, the law's letters as facts -/
namespace G
open PySem PySem.Spec PyProof.Rows L2 DE
/-- a cell of the script, 0 behind its end -/
def cellAt (ns : List Int) (k : Nat) : Int := (ns[k]?).getD 0
theorem ev_cell (n : Nat) (ns : List Int) (k : Nat) (s : Store) : fns (n + 1) i__law_cell_at [.scr ns, .int (k : Nat)] s = .ok (.int (cellAt ns k)) s := by
  rw [e__law_cell_at]
  have hl : lenD [.scr ns] s = .ok (.int ns.length) s := by
    show (match rdS s (.scr ns) with | some xs => (R.ok (D.int xs.length) s : R D) | none => .bad) = _
    simp [rdS]
  by_cases h : k < ns.length
  · have h' : (k : Int) < ns.length := by omega
    have hx : ixD (.scr ns) (.int (k : Nat)) s = .ok (.int (cellAt ns k)) s := by
      have e : atI (ns.map D.int) (k : Int) = some (.int (cellAt ns k)) := by
        rw [atI_nat _ _ (by rw [List.length_map]; exact h), List.getElem?_map]
        simp [cellAt, h]
      simp [ixD, rdS, e]
    simp [m__law_cell_at, bodyF, env0, sSeq, sSet, sIf, sRet, sRetN, sExpr, sPass, sRaise, sBad, eVar, eC, eTup, eLst, aCons, aNil, eCall, ar, DE.e2, eAnd, eOr, eNot, eIf, eNeg, tVal, tAndM, tOrM, tNotM, tYesM, eChain, isiD, tyOf, isTy, eM1, oNone, oSome, eCut, R.bind_ok, R.bind_exc, R.bindS_ok, R.bindS_exc, RS.bind_next, RS.bind_ret, RS.bind_exc, LINE, ofS_inj, ofS_ok, eqD_int, eqD_ss, inD3_ss, inD2_ss, hl, ltD, cmpI, h', hx]
  · have h' : ¬ (k : Int) < ns.length := by omega
    have hc : cellAt ns k = 0 := by simp [cellAt, List.getElem?_eq_none (Nat.le_of_not_lt h)]
    simp [m__law_cell_at, bodyF, env0, sSeq, sSet, sIf, sRet, sRetN, sExpr, sPass, sRaise, sBad, eVar, eC, eTup, eLst, aCons, aNil, eCall, ar, DE.e2, eAnd, eOr, eNot, eIf, eNeg, tVal, tAndM, tOrM, tNotM, tYesM, eChain, isiD, tyOf, isTy, eM1, oNone, oSome, eCut, R.bind_ok, R.bind_exc, R.bindS_ok, R.bindS_exc, RS.bind_next, RS.bind_ret, RS.bind_exc, LINE, ofS_inj, ofS_ok, eqD_int, eqD_ss, inD3_ss, inD2_ss, hl, ltD, cmpI, h', hc]
theorem ev_size {l : Str} : ∀ (k : Nat) (p : Pt) (s : Store), okP l p = true → depD (toD p) ≤ k → fns k i__law_size [toD p] s = .ok (.int (siz p)) s := by
  intro k
  induction k with
  | zero => intro p s _ h; have := dep_pos p; omega
  | succ k ih =>
    intro p s h hk
    have ⟨h1, h2⟩ := kids_ok h
    rw [e__law_size]
    cases p with
    | nary w ps =>
      have e := eLc_all (t := .one 1) (vs := [1]) (em := eCall (ar 1 (fns k i__law_size)) (aCons (eVar 1) aNil)) (im := itV' (DE.e2 ixD (eVar 0) (eC (.int 1)))) (env := [some (toD (.nary w ps)), none]) (s := s) toD (fun p => .int (siz p)) ps (by simp [itV', bodyF, env0, sSeq, sSet, sIf, sRet, sRetN, sExpr, sPass, sRaise, sBad, eVar, eC, eTup, eLst, aCons, aNil, eCall, ar, DE.e2, eAnd, eOr, eNot, eIf, eNeg, tVal, tAndM, tOrM, tNotM, tYesM, eChain, isiD, tyOf, isTy, eM1, oNone, oSome, eCut, R.bind_ok, R.bind_exc, R.bindS_ok, R.bindS_exc, RS.bind_next, RS.bind_ret, RS.bind_exc, LINE, ofS_inj, ofS_ok, eqD_int, eqD_ss, inD3_ss, inD2_ss, toD, ixD_t1, toDs_map]) h1 (fun q hq => by
        have := ih q s (h2 q hq).1 (by have := (h2 q hq).2; omega)
        exact ⟨_, rfl, by simp [wipeE, bodyF, env0, sSeq, sSet, sIf, sRet, sRetN, sExpr, sPass, sRaise, sBad, eVar, eC, eTup, eLst, aCons, aNil, eCall, ar, DE.e2, eAnd, eOr, eNot, eIf, eNeg, tVal, tAndM, tOrM, tNotM, tYesM, eChain, isiD, tyOf, isTy, eM1, oNone, oSome, eCut, R.bind_ok, R.bind_exc, R.bindS_ok, R.bindS_exc, RS.bind_next, RS.bind_ret, RS.bind_exc, LINE, ofS_inj, ofS_ok, eqD_int, eqD_ss, inD3_ss, inD2_ss, this]⟩)
      have t0 : ixD (toD (.nary w ps)) (.int 0) s = .ok (.str (Str.ofString w.s)) s := by simp only [toD, ixD_t0]
      cases w <;> simp only [W3.s] at t0 <;> simp [m__law_size, bodyF, env0, sSeq, sSet, sIf, sRet, sRetN, sExpr, sPass, sRaise, sBad, eVar, eC, eTup, eLst, aCons, aNil, eCall, ar, DE.e2, eAnd, eOr, eNot, eIf, eNeg, tVal, tAndM, tOrM, tNotM, tYesM, eChain, isiD, tyOf, isTy, eM1, oNone, oSome, eCut, R.bind_ok, R.bind_exc, R.bindS_ok, R.bindS_exc, RS.bind_next, RS.bind_ret, RS.bind_exc, LINE, ofS_inj, ofS_ok, eqD_int, eqD_ss, inD3_ss, inD2_ss, t0, e, sumD_map, addD_int, siz, sizs_int]
    | un u q =>
      have := ih q s (h2 q (by simp [kids])).1 (by have := (h2 q (by simp [kids])).2; omega)
      have t0 : ixD (toD (.un u q)) (.int 0) s = .ok (.str (Str.ofString u.s)) s := by simp only [toD, ixD_t0]
      have t1 : ixD (toD (.un u q)) (.int 1) s = .ok (toD q) s := by simp only [toD, ixD_t1]
      cases u <;> simp only [U2.s] at t0 <;> simp [m__law_size, bodyF, env0, sSeq, sSet, sIf, sRet, sRetN, sExpr, sPass, sRaise, sBad, eVar, eC, eTup, eLst, aCons, aNil, eCall, ar, DE.e2, eAnd, eOr, eNot, eIf, eNeg, tVal, tAndM, tOrM, tNotM, tYesM, eChain, isiD, tyOf, isTy, eM1, oNone, oSome, eCut, R.bind_ok, R.bind_exc, R.bindS_ok, R.bindS_exc, RS.bind_next, RS.bind_ret, RS.bind_exc, LINE, ofS_inj, ofS_ok, eqD_int, eqD_ss, inD3_ss, inD2_ss, t0, t1, this, addD_int, siz]
    | non => simp [m__law_size, bodyF, env0, sSeq, sSet, sIf, sRet, sRetN, sExpr, sPass, sRaise, sBad, eVar, eC, eTup, eLst, aCons, aNil, eCall, ar, DE.e2, eAnd, eOr, eNot, eIf, eNeg, tVal, tAndM, tOrM, tNotM, tYesM, eChain, isiD, tyOf, isTy, eM1, oNone, oSome, eCut, R.bind_ok, R.bind_exc, R.bindS_ok, R.bindS_exc, RS.bind_next, RS.bind_ret, RS.bind_exc, LINE, ofS_inj, ofS_ok, eqD_int, eqD_ss, inD3_ss, inD2_ss, toD, ixD_t0, siz]
    | emp => simp [m__law_size, bodyF, env0, sSeq, sSet, sIf, sRet, sRetN, sExpr, sPass, sRaise, sBad, eVar, eC, eTup, eLst, aCons, aNil, eCall, ar, DE.e2, eAnd, eOr, eNot, eIf, eNeg, tVal, tAndM, tOrM, tNotM, tYesM, eChain, isiD, tyOf, isTy, eM1, oNone, oSome, eCut, R.bind_ok, R.bind_exc, R.bindS_ok, R.bindS_exc, RS.bind_next, RS.bind_ret, RS.bind_exc, LINE, ofS_inj, ofS_ok, eqD_int, eqD_ss, inD3_ss, inD2_ss, toD, ixD_t0, siz]
    | sg c => simp [m__law_size, bodyF, env0, sSeq, sSet, sIf, sRet, sRetN, sExpr, sPass, sRaise, sBad, eVar, eC, eTup, eLst, aCons, aNil, eCall, ar, DE.e2, eAnd, eOr, eNot, eIf, eNeg, tVal, tAndM, tOrM, tNotM, tYesM, eChain, isiD, tyOf, isTy, eM1, oNone, oSome, eCut, R.bind_ok, R.bind_exc, R.bindS_ok, R.bindS_exc, RS.bind_next, RS.bind_ret, RS.bind_exc, LINE, ofS_inj, ofS_ok, eqD_int, eqD_ss, inD3_ss, inD2_ss, toD, ixD_t0, siz]
theorem toDs_len (ps : List Pt) : (toDs ps).length = ps.length := by rw [toDs_map, List.length_map]
theorem toDs_app (ps qs : List Pt) : toDs (ps ++ qs) = toDs ps ++ toDs qs := by rw [toDs_map, toDs_map, toDs_map, List.map_append]
theorem toDs_take (n : Nat) (ps : List Pt) : (toDs ps).take n = toDs (ps.take n) := by rw [toDs_map, toDs_map, List.map_take]
theorem toDs_drop (n : Nat) (ps : List Pt) : (toDs ps).drop n = toDs (ps.drop n) := by rw [toDs_map, toDs_map, List.map_drop]
theorem sizs_app : ∀ ps qs : List Pt, sizs (ps ++ qs) = sizs ps + sizs qs
  | [], qs => by simp [sizs]
  | p :: ps, qs => by simp only [List.cons_append, sizs, sizs_app ps qs]; omega
theorem sizs_cut (n : Nat) (ps : List Pt) : sizs (ps.take n) + sizs (ps.drop n) = sizs ps := by
  rw [← sizs_app, List.take_append_drop]
theorem okPs_app {l : Str} {ps qs : List Pt} : okPs l (ps ++ qs) = true ↔ okPs l ps = true ∧ okPs l qs = true := by
  rw [okPs_mem, okPs_mem, okPs_mem]
  constructor
  · intro h
    exact ⟨fun p hp => h p (List.mem_append_left _ hp), fun p hp => h p (List.mem_append_right _ hp)⟩
  · rintro ⟨h1, h2⟩ p hp
    rcases List.mem_append.mp hp with hp | hp
    · exact h1 p hp
    · exact h2 p hp
theorem addD_lst {xs ys : List D} {s : Store} (h : xs.length + ys.length ≤ 1000) : addD (.lst xs) (.lst ys) s = .ok (.lst (xs ++ ys)) s := by
  show (if xs.length + ys.length ≤ sizeLine then (R.ok (D.lst (xs ++ ys)) s : R D) else .bad) = _
  rw [if_pos (Nat.le_trans h (by decide))]
theorem cut_to (xs : List D) (j : Int) (s : Store) (h0 : 0 ≤ j) (h : j ≤ xs.length) : cutD (.lst xs) none (some j) s = .ok (.lst (xs.take j.toNat)) s := by
  have e : HT.sIx xs.length xs.length (some j) = j.toNat := by
    show (if j < 0 then _ else min j.toNat xs.length) = _
    rw [if_neg (by omega)]
    omega
  show R.ok (D.lst (cutL xs none (some j))) s = _
  unfold cutL
  rw [e, show HT.sIx xs.length 0 none = 0 from rfl, List.drop_zero, Nat.sub_zero]
theorem cut_from (xs : List D) (j : Int) (s : Store) (h0 : 0 ≤ j) (h : j ≤ xs.length) : cutD (.lst xs) (some j) none s = .ok (.lst (xs.drop j.toNat)) s := by
  have e : HT.sIx xs.length 0 (some j) = j.toNat := by
    show (if j < 0 then _ else min j.toNat xs.length) = _
    rw [if_neg (by omega)]
    omega
  show R.ok (D.lst (cutL xs (some j) none)) s = _
  unfold cutL
  rw [e, show HT.sIx xs.length xs.length none = xs.length from rfl, List.take_of_length_le (by rw [List.length_drop]; omega)]
theorem cut_but1 (xs : List D) (s : Store) : cutD (.lst xs) none (some (-1)) s = .ok (.lst (xs.take (xs.length - 1))) s := by
  have e : HT.sIx xs.length xs.length (some (-1)) = xs.length - 1 := by
    show (if (-1 : Int) < 0 then ((-1 : Int) + (xs.length : Int)).toNat else min (-1 : Int).toNat xs.length) = _
    rw [if_pos (by decide)]
    omega
  show R.ok (D.lst (cutL xs none (some (-1)))) s = _
  unfold cutL
  rw [e, show HT.sIx xs.length 0 none = 0 from rfl, List.drop_zero, Nat.sub_zero]
theorem last_ix {xs : List D} (h : xs ≠ []) (s : Store) : ixD (.lst xs) (.int (-1)) s = .ok (xs.getLast h) s := by
  have hl : 0 < xs.length := List.length_pos_iff.mpr h
  have e : atI xs (-1) = some (xs.getLast h) := by
    unfold atI ixN
    rw [if_neg (by decide), if_pos (by omega)]
    show xs[(-1 + (xs.length : Int)).toNat]? = _
    have e1 : (-1 + (xs.length : Int)).toNat = xs.length - 1 := by omega
    rw [e1, ← List.getLast?_eq_getElem?, List.getLast?_eq_some_getLast h]
  simp [ixD, rdS, e]
theorem ne_nil_lst {xs : List D} {s : Store} (h : pls xs = true) (hy : layDs xs = true) (hr : subs (fr s 0 3) xs = some xs) (hd : depDs xs + 1 ≤ 190) (neg : Bool) : eqD neg (.lst xs) (.lst []) s = .ok (.bl (if neg then !xs.isEmpty else xs.isEmpty)) s := by
  have e1 : res s (.lst xs) = some (.lst xs) := by show sub _ _ = _; simp only [sub]; rw [hr]; rfl
  have e2 : res s (.lst []) = some (.lst []) := by simp [sub, subs]
  have e3 : eqv (.lst xs) (.lst []) = xs.isEmpty := by
    cases xs with
    | nil => simp [eqv, pyOf, pyOfs, PyData.eqv, PyData.eqvAll]
    | cons x xs => simp [eqv, pyOf, pyOfs, PyData.eqv, PyData.eqvAll]
  unfold eqD
  rw [e1, e2]
  simp only [layD, hy, layDs, depD, e3]
  rw [if_pos ⟨trivial, trivial, hd⟩]
mutual
theorem lay_toD {l : Str} (hl : strOk' l = true) : ∀ p : Pt, okP l p = true → layD (toD p) = true ∧ pureD (toD p) = true
  | .non, _ => by simp [toD, layD, layDs, ofS_ok, pureD, pureDs]
  | .emp, _ => by simp [toD, layD, layDs, ofS_ok, pureD, pureDs]
  | .sg c, h => by
    have h1 := pl_toD hl (.sg c) h
    have h2 : strOk' ⟨#[c]⟩ = true := by
      simp only [toD, pl, pls, Bool.and_eq_true] at h1
      exact h1.2.2.1.1
    simp [toD, layD, layDs, ofS_ok, pureD, pureDs, h2]
  | .un u p, h => by
    have h1 := lay_toD hl p (by simpa [okP] using h)
    simp [toD, layD, layDs, ofS_ok, pureD, pureDs, h1.1, h1.2]
  | .nary w ps, h => by
    simp only [okP, Bool.and_eq_true, decide_eq_true_eq] at h
    have h1 := lay_toDs hl ps h.2
    simp [toD, layD, layDs, ofS_ok, pureD, pureDs, h1.1, h1.2]
theorem lay_toDs {l : Str} (hl : strOk' l = true) : ∀ ps : List Pt, okPs l ps = true → layDs (toDs ps) = true ∧ pureDs (toDs ps) = true
  | [], _ => by simp [toDs, layDs, pureDs]
  | p :: ps, h => by
    simp only [okPs, Bool.and_eq_true] at h
    have h1 := lay_toD hl p h.1
    have h2 := lay_toDs hl ps h.2
    simp [toDs, layDs, pureDs, h1.1, h1.2, h2.1, h2.2]
end
theorem depDs_le {ps : List D} {n : Nat} (h : ∀ p ∈ ps, depD p ≤ n) : depDs ps ≤ n := by
  induction ps with
  | nil => simp [depDs]
  | cons p ps ih =>
    simp only [depDs]
    have := h p List.mem_cons_self
    have := ih fun q hq => h q (List.mem_cons_of_mem _ hq)
    omega
theorem stack_eq {l : Str} (hl : strOk' l = true) {st : List Pt} (h : okPs l st = true) (hs : sizs st ≤ 150) (s : Store) (neg : Bool) : eqD neg (.lst (toDs st)) (.lst []) s = .ok (.bl (if neg then !st.isEmpty else st.isEmpty)) s := by
  have h1 := lay_toDs hl st h
  have hd : depDs (toDs st) ≤ 151 := depDs_le fun d hd => by
    rw [toDs_map] at hd
    obtain ⟨p, hp, rfl⟩ := List.mem_map.mp hd
    have := dep_siz p (okPs_mem.mp h p hp)
    have := siz_mem p hp
    omega
  rw [ne_nil_lst (pl_toDs hl st h) h1.1 (subs_pure _ _ h1.2) (by omega)]
  have : (toDs st).isEmpty = st.isEmpty := by cases st <;> rfl
  rw [this]
/-- letters as the law has them -/
structure LetF (l : Str) : Prop where
  ok : letOk (.str l) = true
  pl : pl (.str l) = true
theorem LetF.sok {l : Str} (h : LetF l) : strOk' l = true := by
  have := h.pl
  simp only [G.pl, Bool.and_eq_true] at this
  exact this.1
theorem LetF.len {l : Str} (h : LetF l) : 1 ≤ l.length ∧ l.length ≤ 4 := by
  have := h.ok
  simp only [letOk, Bool.and_eq_true, decide_eq_true_eq] at this
  exact this.1
theorem lets_F (c : Int) : LetF (lets c) := ⟨(lets_ok c).1, (lets_ok c).2⟩
theorem let_ix {l : Str} (h : LetF l) {i : Int} (s : Store) (h0 : 0 ≤ i) (hi : i < l.length) : ∃ c ∈ l.cps.toList, ixD (.str l) (.int i) s = .ok (.str ⟨#[c]⟩) s := by
  obtain ⟨c, hc, e⟩ := atI_int l.cps.toList i h0 hi
  refine ⟨c, hc, ?_⟩
  show (if l.length ≤ LINE then (match atI l.cps.toList i with | some c => (R.ok (D.str ⟨#[c]⟩) s : R D) | none => .bad) else .bad) = _
  rw [if_pos (by have := h.len.2; unfold LINE; omega), e]
theorem ix3 (x y z : D) (i : Int) (s : Store) (h0 : 0 ≤ i) (h : i < 3) : ixD (.lst [x, y, z]) (.int i) s = .ok (if i = 0 then x else if i = 1 then y else z) s := by
  have : i = 0 ∨ i = 1 ∨ i = 2 := by omega
  rcases this with rfl | rfl | rfl <;> simp [ixD, rdS, atI, ixN]
theorem ix2 (x y : D) (i : Int) (s : Store) (h0 : 0 ≤ i) (h : i < 2) : ixD (.lst [x, y]) (.int i) s = .ok (if i = 0 then x else y) s := by
  have : i = 0 ∨ i = 1 := by omega
  rcases this with rfl | rfl <;> simp [ixD, rdS, atI, ixN]
theorem w3_ix (i : Int) (s : Store) (h0 : 0 ≤ i) (h : i < 3) : ∃ w : W3, ixD (.lst [.str (Str.ofString "row"), .str (Str.ofString "or"), .str (Str.ofString "and")]) (.int i) s = .ok (.str (Str.ofString w.s)) s := by
  rw [ix3 _ _ _ _ _ h0 h]
  by_cases h1 : i = 0
  · exact ⟨.row, by rw [if_pos h1]; rfl⟩
  by_cases h2 : i = 1
  · exact ⟨.or, by rw [if_neg h1, if_pos h2]; rfl⟩
  · exact ⟨.and, by rw [if_neg h1, if_neg h2]; rfl⟩
theorem sizs_one (p : Pt) : sizs [p] = siz p := by simp [sizs]
end G
/-! K2A: the text of a pattern -/
namespace G
open PySem PySem.Spec PyProof.Rows L2 DE PySem.StrLaws
/-- a text of signs -/
def S' (t : List Nat) : Str := ⟨t.toArray⟩
theorem S'_len (t : List Nat) : (S' t).length = t.length := rfl
theorem S'_app (a b : List Nat) : S' a ++ S' b = S' (a ++ b) := by
  show (⟨_⟩ : Str) = ⟨_⟩
  simp [S']
theorem S'_cps (t : List Nat) : (S' t).cps.toList = t := by simp [S']
theorem S'_of (z : Str) : S' z.cps.toList = z := by simp [S']
theorem S'_inj {a b : List Nat} : S' a = S' b ↔ a = b := by
  constructor
  · intro h
    have := congrArg (fun z : Str => z.cps.toList) h
    simpa [S'_cps] using this
  · intro h; rw [h]
inductive Ki where
  | at | ro | oo | an | mn | no
  deriving DecidableEq
def kiW : W3 → Ki
  | .row => .ro
  | .or => .oo
  | .and => .an
def kiU : U2 → Ki
  | .many => .mn
  | .not => .no
def ki : Pt → Ki
  | .nary w _ => kiW w
  | .un u _ => kiU u
  | _ => .at
def sepL : W3 → List Nat
  | .row => []
  | .or => [124]
  | .and => [38]
/-- which parts stand in brackets -/
def brW : W3 → Ki → Bool
  | .row, k => k == .ro || k == .oo || k == .an
  | .or, k => k == .oo
  | .and, k => k == .oo || k == .an
def brU : U2 → Ki → Bool
  | .many, k => k == .ro || k == .oo || k == .an || k == .no
  | .not, k => k == .ro || k == .oo || k == .an
def inBr (b : Bool) (t : List Nat) : List Nat := if b then 40 :: (t ++ [41]) else t
def joinT (sep : List Nat) : List (List Nat) → List Nat
  | [] => []
  | [t] => t
  | t :: u :: ts => t ++ sep ++ joinT sep (u :: ts)
mutual
def tx : Pt → List Nat
  | .non => [91, 93]
  | .emp => [40, 41]
  | .sg c => [c]
  | .nary w ps => joinT (sepL w) (txs w ps)
  | .un .many p => inBr (brU .many (ki p)) (tx p) ++ [42]
  | .un .not p => 33 :: inBr (brU .not (ki p)) (tx p)
def txs (w : W3) : List Pt → List (List Nat)
  | [] => []
  | p :: ps => inBr (brW w (ki p)) (tx p) :: txs w ps
end
theorem txs_map (w : W3) : ∀ ps : List Pt, txs w ps = ps.map fun p => inBr (brW w (ki p)) (tx p)
  | [] => rfl
  | p :: ps => by rw [txs, txs_map w ps]; rfl
theorem joinT_len (sep : List Nat) (hs : sep.length ≤ 1) : ∀ ts : List (List Nat), (joinT sep ts).length ≤ (ts.map (·.length)).sum + (ts.length - 1)
  | [] => by simp [joinT]
  | [t] => by simp [joinT]
  | t :: u :: ts => by
    have := joinT_len sep hs (u :: ts)
    simp only [joinT, List.length_append, List.map_cons, List.sum_cons, List.length_cons] at this ⊢
    omega
theorem inBr_len (b : Bool) (t : List Nat) : (inBr b t).length ≤ t.length + 2 := by
  unfold inBr
  split
  · simp
  · omega
mutual
theorem tx_len : ∀ p : Pt, (tx p).length + 3 ≤ 5 * siz p
  | .non => by simp [tx, siz]
  | .emp => by simp [tx, siz]
  | .sg c => by simp [tx, siz]
  | .un .many p => by
    have := tx_len p
    have := inBr_len (brU .many (ki p)) (tx p)
    simp only [tx, siz, List.length_append, List.length_cons, List.length_nil]
    omega
  | .un .not p => by
    have := tx_len p
    have := inBr_len (brU .not (ki p)) (tx p)
    simp only [tx, siz, List.length_cons]
    omega
  | .nary w ps => by
    have h1 := txs_len w ps
    have h2 := joinT_len (sepL w) (by cases w <;> simp [sepL]) (txs w ps)
    have h3 : (txs w ps).length = ps.length := by rw [txs_map, List.length_map]
    simp only [tx, siz]
    omega
theorem txs_len (w : W3) : ∀ ps : List Pt, ((txs w ps).map (·.length)).sum + ps.length ≤ 5 * sizs ps
  | [] => by simp [txs, sizs]
  | p :: ps => by
    have := tx_len p
    have := txs_len w ps
    have := inBr_len (brW w (ki p)) (tx p)
    simp only [txs, sizs, List.map_cons, List.sum_cons, List.length_cons]
    omega
end
theorem strjoin (sep : List Nat) : ∀ ts : List (List Nat), Str.join (S' sep) (ts.map S') = S' (joinT sep ts)
  | [] => rfl
  | [t] => rfl
  | t :: u :: ts => by
    have := strjoin sep (u :: ts)
    simp only [List.map_cons] at this ⊢
    show S' t ++ S' sep ++ Str.join (S' sep) (S' u :: ts.map S') = _
    rw [this, S'_app, S'_app]
    rfl
theorem txtjoin (sep : List Nat) (ts : List (List Nat)) : Txt.join (S' sep) (ts.map S') = S' (joinT sep ts) := by
  rw [← strjoin]
  exact glued_eq_join _ _
end G
/-! K2L: literals, words -/
namespace G
open PySem PySem.Spec PyProof.Rows L2 DE PySem.StrLaws
theorem add_S {a b : List Nat} {s : Store} (h : a.length + b.length ≤ 1000) : addD (.str (S' a)) (.str (S' b)) s = .ok (.str (S' (a ++ b))) s := by
  show (if (S' a).length + (S' b).length ≤ sizeLine then (R.ok (D.str (S' a ++ S' b)) s : R D) else .bad) = _
  have h2 : (S' a).length + (S' b).length ≤ sizeLine := Nat.le_trans h (by decide)
  rw [if_pos h2, S'_app]
theorem join_S {sep : List Nat} {ts : List (List Nat)} {s : Store} (h : (ts.map (·.length)).sum + ts.length * sep.length ≤ 10000) : joinD (S' sep) (.lst (ts.map fun t => D.str (S' t))) s = .ok (.str (S' (joinT sep ts))) s := by
  have := joinD_all (z := S' sep) (zs := ts.map S') (s := s) (by
    rw [List.map_map, List.length_map]
    show (ts.map (·.length)).sum + ts.length * sep.length ≤ _
    omega)
  rw [List.map_map, txtjoin] at this
  exact this
theorem lit_lp : Str.ofString "(" = S' [40] := by decide +kernel
theorem lit_rp : Str.ofString ")" = S' [41] := by decide +kernel
theorem lit_none : Str.ofString "[]" = S' [91, 93] := by decide +kernel
theorem lit_emp : Str.ofString "()" = S' [40, 41] := by decide +kernel
theorem lit_star : Str.ofString "*" = S' [42] := by decide +kernel
theorem lit_bang : Str.ofString "!" = S' [33] := by decide +kernel
theorem lit_bar : Str.ofString "|" = S' [124] := by decide +kernel
theorem lit_amp : Str.ofString "&" = S' [38] := by decide +kernel
theorem lit_nil : Str.ofString "" = S' [] := by decide +kernel
/-- the word of a pattern -/
def wd : Pt → String
  | .non => "none"
  | .emp => "empty"
  | .sg _ => "sign"
  | .nary w _ => w.s
  | .un u _ => u.s
theorem toD_0 (p : Pt) (s : Store) : ixD (toD p) (.int 0) s = .ok (.str (Str.ofString (wd p))) s := by
  cases p <;> simp [toD, ixD_t0, wd]
theorem inL (neg : Bool) (a : String) (ws : List String) (s : Store) : inD neg (.str (Str.ofString a)) (.lst (ws.map fun w => .str (Str.ofString w))) s = .ok (.bl (if neg then !decide (a ∈ ws) else decide (a ∈ ws))) s := by
  have e2 : res s (.lst (ws.map fun w => .str (Str.ofString w))) = some (.lst (ws.map fun w => .str (Str.ofString w))) := by
    show sub _ _ = _
    simp only [sub]
    have := strs_sub (fr s 0 3) (ws.map Str.ofString)
    rw [List.map_map] at this
    have e : (D.str ∘ Str.ofString) = fun w => D.str (Str.ofString w) := rfl
    rw [e] at this
    rw [this]
    rfl
  have e3 : inD neg (.str (Str.ofString a)) (.lst (ws.map fun w => .str (Str.ofString w))) s = (match res s (.str (Str.ofString a)), res s (.lst (ws.map fun w => .str (Str.ofString w))) with
    | some a, some (.tup ys) => if layD a = true ∧ layDs ys = true ∧ depD a ≤ 190 then .ok (.bl (if neg then !ys.any (fun y => eqv y a) else ys.any (fun y => eqv y a))) s else .bad
    | some a, some (.lst ys) => if layD a = true ∧ layDs ys = true ∧ depD a ≤ 190 then .ok (.bl (if neg then !ys.any (fun y => eqv y a) else ys.any (fun y => eqv y a))) s else .bad
    | _, _ => .bad) := rfl
  have e4 : (ws.map fun w => D.str (Str.ofString w)) = (ws.map Str.ofString).map D.str := by rw [List.map_map]; rfl
  rw [e3, e2, res_str]
  simp only [layD, ofS_ok]
  rw [e4, strs_lay _ (by intro w hw; obtain ⟨x, _, rfl⟩ := List.mem_map.mp hw; exact ofS_ok x), strs_any]
  have e5 : decide (Str.ofString a ∈ ws.map Str.ofString) = decide (a ∈ ws) := by
    by_cases h : a ∈ ws
    · have : Str.ofString a ∈ ws.map Str.ofString := List.mem_map_of_mem h
      simp [h, this]
    · have : ¬ Str.ofString a ∈ ws.map Str.ofString := fun q => by
        obtain ⟨x, hx, e⟩ := List.mem_map.mp q
        rw [ofS_inj] at e
        exact h (e ▸ hx)
      simp only [h, this]
  rw [e5]
  simp [depD]
theorem br_row (p : Pt) : decide (wd p ∈ ["row", "or", "and"]) = brW .row (ki p) := by cases p with | nary w _ => cases w <;> simp [wd, W3.s, U2.s, brW, brU, ki, kiW, kiU] | un u _ => cases u <;> simp [wd, W3.s, U2.s, brW, brU, ki, kiW, kiU] | _ => simp [wd, W3.s, U2.s, brW, brU, ki, kiW, kiU]
theorem br_or (p : Pt) : decide (wd p ∈ ["or"]) = brW .or (ki p) := by cases p with | nary w _ => cases w <;> simp [wd, W3.s, U2.s, brW, brU, ki, kiW, kiU] | un u _ => cases u <;> simp [wd, W3.s, U2.s, brW, brU, ki, kiW, kiU] | _ => simp [wd, W3.s, U2.s, brW, brU, ki, kiW, kiU]
theorem br_and (p : Pt) : decide (wd p ∈ ["or", "and"]) = brW .and (ki p) := by cases p with | nary w _ => cases w <;> simp [wd, W3.s, U2.s, brW, brU, ki, kiW, kiU] | un u _ => cases u <;> simp [wd, W3.s, U2.s, brW, brU, ki, kiW, kiU] | _ => simp [wd, W3.s, U2.s, brW, brU, ki, kiW, kiU]
theorem br_many (p : Pt) : decide (wd p ∈ ["row", "or", "and", "not"]) = brU .many (ki p) := by cases p with | nary w _ => cases w <;> simp [wd, W3.s, U2.s, brW, brU, ki, kiW, kiU] | un u _ => cases u <;> simp [wd, W3.s, U2.s, brW, brU, ki, kiW, kiU] | _ => simp [wd, W3.s, U2.s, brW, brU, ki, kiW, kiU]
theorem br_not (p : Pt) : decide (wd p ∈ ["row", "or", "and"]) = brU .not (ki p) := by cases p with | nary w _ => cases w <;> simp [wd, W3.s, U2.s, brW, brU, ki, kiW, kiU] | un u _ => cases u <;> simp [wd, W3.s, U2.s, brW, brU, ki, kiW, kiU] | _ => simp [wd, W3.s, U2.s, brW, brU, ki, kiW, kiU]
def wsW : W3 → List String
  | .row => ["row", "or", "and"]
  | .or => ["or"]
  | .and => ["or", "and"]
theorem br_W (w : W3) (p : Pt) : decide (wd p ∈ wsW w) = brW w (ki p) := by
  cases w
  · exact br_row p
  · exact br_or p
  · exact br_and p
end G
/-! K2C: the parser's brackets in plain terms; its defs on cells -/
namespace G
open PySem PySem.Spec PyProof.Rows L2 DE PySem.StrLaws
mutual
theorem pure_toD : ∀ p : Pt, pureD (toD p) = true
  | .non => by simp [toD, pureD, pureDs]
  | .emp => by simp [toD, pureD, pureDs]
  | .sg c => by simp [toD, pureD, pureDs]
  | .un u p => by simp [toD, pureD, pureDs, pure_toD p]
  | .nary w ps => by simp [toD, pureD, pureDs, pure_toDs ps]
theorem pure_toDs : ∀ ps : List Pt, pureDs (toDs ps) = true
  | [] => by simp [toDs, pureDs]
  | p :: ps => by simp [toDs, pureDs, pure_toD p, pure_toDs ps]
end
/-! ### in plain terms -/
abbrev Md := Pt × Nat
def kPat : Str := Str.ofString "pattern"
def kMany : Str := Str.ofString "many"
def mD (m : Md) : D := .obj [kPat, kMany] [toD m.1, .int m.2]
structure Br where
  bs : List Md
  hs : List Md
  cs : List Md
  n : Nat
def br0 : Br := ⟨[], [], [], 0⟩
def ofParts (w : W3) : List Md → Option Md
  | [] => none
  | [m] => some m
  | m :: n :: ms => some (.nary w ((m :: n :: ms).map (·.1)), 1 + ((m :: n :: ms).map (·.2)).sum)
def endHalf (b : Br) : Option Br := if b.n = 0 then (ofParts .row b.cs).map fun m => ⟨b.bs, b.hs ++ [m], [], b.n⟩ else none
def endBranch (b : Br) : Option Br := (endHalf b).bind fun b => (ofParts .and b.hs).map fun m => ⟨b.bs ++ [m], [], b.cs, b.n⟩
def closeB (b : Br) : Option Md := (endBranch b).bind fun b => ofParts .or b.bs
def towN (u : U2) : Nat → Pt → Pt
  | 0, p => p
  | n + 1, p => .un u (towN u n p)
def putB (b : Br) (m : Md) (k : Nat) : Br := ⟨b.bs, b.hs, b.cs ++ [(towN .not b.n (towN .many k m.1), m.2 + k + b.n)], 0⟩
def Br.cnt (b : Br) : Nat := b.bs.length + b.hs.length + b.cs.length + b.n
/-! ### on cells -/
theorem seq_to {A B : DE.SM} {env env1 : DE.Env} {s s1 : Store} (h : A env s = .next env1 s1) : sSeq A B env s = B env1 s1 := by unfold sSeq; rw [h]; rfl
theorem body_next {n : Nat} {m : DE.SM} {ds : List D} {env : DE.Env} {s s2 : Store} (h : m (env0 n ds) s = .next env s2) : bodyF n m ds s = .ok .non s2 := by unfold bodyF; rw [h]
theorem body_exc {n : Nat} {m : DE.SM} {ds : List D} {s s2 : Store} {c : Nat} (h : m (env0 n ds) s = .exc c s2) : bodyF n m ds s = .exc c s2 := by unfold bodyF; rw [h]
theorem app_get (s t : Store) (c : Cell) : (s ++ c :: t)[s.length]? = some c := by simp
theorem app_set (s t : Store) (c d : Cell) : (s ++ c :: t).set s.length d = s ++ d :: t := by simp
theorem ne_pm : ¬ (Str.ofString "pattern" = Str.ofString "many") := by rw [ofS_inj]; decide
theorem ev_made_init (k : Nat) (p d : D) (s : Store) : fns (k + 1) i_Made___init__ [.ref s.length, p, d] (s ++ [.ins 6 [] []]) = .ok .non (s ++ [.ins 6 [kPat, kMany] [p, d]]) := by
  rw [e_Made___init__]
  simp [m_Made___init__, bodyF, env0, sSeq, sSet, sIf, sRet, sRetN, sExpr, sPass, sRaise, sBad, eVar, eC, eTup, eLst, aCons, aNil, eCall, ar, DE.e2, eAnd, eOr, eNot, eIf, eNeg, tVal, tAndM, tOrM, tNotM, tYesM, eChain, isiD, tyOf, isTy, eM1, oNone, oSome, eCut, R.bind_ok, R.bind_exc, R.bindS_ok, R.bindS_exc, RS.bind_next, RS.bind_ret, RS.bind_exc, LINE, ofS_inj, ofS_ok, eqD_int, eqD_ss, inD3_ss, inD2_ss, DE.sFld, setFD, app_get, app_set, setF, kPat, kMany]
theorem ev_made {k : Nat} {ms : AM} {env : DE.Env} {s s1 : Store} {p : Pt} {n : Int} (h : ms env s = .ok [toD p, .int n] s1) : eMakeF 6 3 (fns (k + 1) i_Made___init__) ms env s = .ok (.obj [kPat, kMany] [toD p, .int n]) s1 := by
  unfold eMakeF
  rw [h]
  simp only [R.bind_ok]
  rw [if_pos (by simp), ev_made_init]
  have e : frz (s1 ++ [Cell.ins 6 [kPat, kMany] [toD p, .int n]]) s1.length (.ref s1.length) = some (.obj [kPat, kMany] [toD p, .int n]) := by
    simp only [frz, sub, fr]
    rw [if_neg (Nat.lt_irrefl _), app_get]
    simp only [subs, sub_pure _ _ (pure_toD p), sub, Option.map_some]
  simp only [e]
  rw [if_pos (by simp)]
theorem fld_pat (m : Md) (s : Store) : fldD "pattern" (mD m) s = .ok (toD m.1) s := by simp [fldD, mD, getF, kPat]
theorem fld_many (m : Md) (s : Store) : fldD "many" (mD m) s = .ok (.int m.2) s := by simp [fldD, mD, getF, kPat, kMany, ofS_inj]
def FS : List Str := [Str.ofString "branches", Str.ofString "halves", Str.ofString "held", Str.ofString "nots"]
structure Ad where
  q : Nat
  x : Nat
  y : Nat
  z : Nat
def Ad.ids (a : Ad) : List Nat := [a.q, a.x, a.y, a.z]
abbrev insB (a : Ad) (n : Nat) : Cell := .ins 7 FS [.ref a.x, .ref a.y, .ref a.z, .int n]
abbrev lstM (ms : List Md) : Cell := .lst (ms.map mD)
structure BrAt (s : Store) (a : Ad) (b : Br) : Prop where
  q : s[a.q]? = some (insB a b.n)
  x : s[a.x]? = some (lstM b.bs)
  y : s[a.y]? = some (lstM b.hs)
  z : s[a.z]? = some (lstM b.cs)
structure Upd (s : Store) (a : Ad) (s' : Store) (a' : Ad) (b' : Br) : Prop where
  here : BrAt s' a' b'
  q : a'.q = a.q
  nd : a'.ids.Nodup
  fr : ∀ i ∈ a'.ids, i ∈ a.ids ∨ s.length ≤ i
  keep : ∀ i, i < s.length → i ∉ a.ids → s'[i]? = s[i]?
  len : s.length ≤ s'.length
theorem Upd.trans {s s1 s2 : Store} {a a1 a2 : Ad} {b1 b2 : Br} (h : Upd s a s1 a1 b1) (h2 : Upd s1 a1 s2 a2 b2) : Upd s a s2 a2 b2 where
  here := h2.here
  q := h2.q.trans h.q
  nd := h2.nd
  fr i hi := by
    rcases h2.fr i hi with q | q
    · exact h.fr i q
    · exact .inr (Nat.le_trans h.len q)
  keep i hi hn := by
    rw [h2.keep i (Nat.lt_of_lt_of_le hi h.len) (fun q => by
      rcases h.fr i q with q | q
      · exact hn q
      · omega), h.keep i hi hn]
  len := Nat.le_trans h.len h2.len
theorem lt_of_get {s : Store} {i : Nat} {c : Cell} (h : s[i]? = some c) : i < s.length := (List.getElem?_eq_some_iff.mp h).1
theorem BrAt.lt {s : Store} {a : Ad} {b : Br} (h : BrAt s a b) : ∀ i ∈ a.ids, i < s.length := by
  intro i hi
  simp only [Ad.ids, List.mem_cons, List.not_mem_nil, or_false] at hi
  rcases hi with rfl | rfl | rfl | rfl
  · exact lt_of_get h.q
  · exact lt_of_get h.x
  · exact lt_of_get h.y
  · exact lt_of_get h.z
theorem Ad.nd {a : Ad} (h : a.ids.Nodup) : a.q ≠ a.x ∧ a.q ≠ a.y ∧ a.q ≠ a.z ∧ a.x ≠ a.y ∧ a.x ≠ a.z ∧ a.y ≠ a.z := by
  simp only [Ad.ids, List.nodup_cons, List.mem_cons, List.not_mem_nil, or_false, not_or] at h
  exact ⟨h.1.1, h.1.2.1, h.1.2.2, h.2.1.1, h.2.1.2, h.2.2.1⟩
/-- what a result of a def of the parser is: some x: a value; none: no text -/
def Out {α : Type} (r : R D) (o : Option α) (P : α → D → Store → Prop) : Prop := match o with
  | some x => ∃ d s', r = .ok d s' ∧ P x d s'
  | none => ∃ s', r = .exc 4 s'
theorem ev_need (k : Nat) (b : Bool) (s : Store) : fns (k + 1) i_need [.bl b] s = if b then .ok .non s else .exc 4 s := by
  rw [e_need]
  cases b <;> simp [m_need, bodyF, env0, sSeq, sSet, sIf, sRet, sRetN, sExpr, sPass, sRaise, sBad, eVar, eC, eTup, eLst, aCons, aNil, eCall, ar, DE.e2, eAnd, eOr, eNot, eIf, eNeg, tVal, tAndM, tOrM, tNotM, tYesM, eChain, isiD, tyOf, isTy, eM1, oNone, oSome, eCut, R.bind_ok, R.bind_exc, R.bindS_ok, R.bindS_exc, RS.bind_next, RS.bind_ret, RS.bind_exc, LINE, ofS_inj, ofS_ok, eqD_int, eqD_ss, inD3_ss, inD2_ss]
theorem lenD_ref {l : Nat} {xs : List D} {s : Store} (h : s[l]? = some (.lst xs)) : lenD [.ref l] s = .ok (.int xs.length) s := by
  simp [lenD, rdS, h]
theorem eLc_at {α : Type} {t : Tgt} {vs : List Nat} {em : EM} {im : IM} {env : DE.Env} {s : Store} {l : Nat} (m : α → D) (f : α → D) (ys : List α) (hi : im env s = .ok (ys.map m, some l) s) (hl : ys.length ≤ 1000) (hg : s[l]? = some (.lst (ys.map m)))
    (h : ∀ y ∈ ys, ∃ env1, setT t (m y) (wipeE env vs) = some env1 ∧ em env1 s = .ok (f y) s) : eLc im t vs tYesM em env s = .ok (.lst (ys.map f)) s := by
  unfold eLc
  rw [hi]
  simp only [R.bind_ok]
  have := lcD_by (t := t) (tt := tYesM) (em := em) (a := (ys.map m, some l)) (env := wipeE env vs) (s := s) (by simpa using hg) m (fun _ => true) f ys fun y hy => by
    obtain ⟨env1, e1, e2⟩ := h y hy
    exact ⟨env1, e1, rfl, fun _ => e2⟩
  rw [this, filter_yes, finL_ok (by rw [List.length_map]; exact hl)]
theorem sum_cast : ∀ ms : List Md, (ms.map fun m => ((m.2 : Nat) : Int)).sum = (((ms.map (·.2)).sum : Nat) : Int)
  | [] => rfl
  | m :: ms => by
    simp only [List.map_cons, List.sum_cons, sum_cast ms]
    omega
theorem ev_of_parts (k : Nat) (w : W3) (ms : List Md) (l : Nat) (s : Store) (h : s[l]? = some (lstM ms)) (hl : ms.length ≤ 1000) :
    Out (fns (k + 2) i_of_parts [.str (Str.ofString w.s), .ref l] s) (ofParts w ms) fun m d s' => d = mD m ∧ s' = s := by
  rw [e_of_parts]
  have h1 := lenD_ref h
  rw [List.length_map] at h1
  have n1 := ev_need k true s
  have n2 := ev_need k false s
  simp only [if_true, if_false] at n1 n2
  have e1 := eLc_at (t := .one 2) (vs := [2]) (em := eFld "pattern" (eVar 2)) (im := itV' (eVar 1)) (env := [some (.str (Str.ofString w.s)), some (.ref l), none]) (s := s) mD (fun m => toD m.1) ms (by simp [itV', bodyF, env0, sSeq, sSet, sIf, sRet, sRetN, sExpr, sPass, sRaise, sBad, eVar, eC, eTup, eLst, aCons, aNil, eCall, ar, DE.e2, eAnd, eOr, eNot, eIf, eNeg, tVal, tAndM, tOrM, tNotM, tYesM, eChain, isiD, tyOf, isTy, eM1, oNone, oSome, eCut, R.bind_ok, R.bind_exc, R.bindS_ok, R.bindS_exc, RS.bind_next, RS.bind_ret, RS.bind_exc, LINE, ofS_inj, ofS_ok, eqD_int, eqD_ss, inD3_ss, inD2_ss, h]) hl h (fun m _ => ⟨_, rfl, by simp [wipeE, bodyF, env0, sSeq, sSet, sIf, sRet, sRetN, sExpr, sPass, sRaise, sBad, eVar, eC, eTup, eLst, aCons, aNil, eCall, ar, DE.e2, eAnd, eOr, eNot, eIf, eNeg, tVal, tAndM, tOrM, tNotM, tYesM, eChain, isiD, tyOf, isTy, eM1, oNone, oSome, eCut, R.bind_ok, R.bind_exc, R.bindS_ok, R.bindS_exc, RS.bind_next, RS.bind_ret, RS.bind_exc, LINE, ofS_inj, ofS_ok, eqD_int, eqD_ss, inD3_ss, inD2_ss, eFld, fld_pat]⟩)
  have e2 := eLc_at (t := .one 2) (vs := [2]) (em := eFld "many" (eVar 2)) (im := itV' (eVar 1)) (env := [some (.str (Str.ofString w.s)), some (.ref l), none]) (s := s) mD (fun m => .int m.2) ms (by simp [itV', bodyF, env0, sSeq, sSet, sIf, sRet, sRetN, sExpr, sPass, sRaise, sBad, eVar, eC, eTup, eLst, aCons, aNil, eCall, ar, DE.e2, eAnd, eOr, eNot, eIf, eNeg, tVal, tAndM, tOrM, tNotM, tYesM, eChain, isiD, tyOf, isTy, eM1, oNone, oSome, eCut, R.bind_ok, R.bind_exc, R.bindS_ok, R.bindS_exc, RS.bind_next, RS.bind_ret, RS.bind_exc, LINE, ofS_inj, ofS_ok, eqD_int, eqD_ss, inD3_ss, inD2_ss, h]) hl h (fun m _ => ⟨_, rfl, by simp [wipeE, bodyF, env0, sSeq, sSet, sIf, sRet, sRetN, sExpr, sPass, sRaise, sBad, eVar, eC, eTup, eLst, aCons, aNil, eCall, ar, DE.e2, eAnd, eOr, eNot, eIf, eNeg, tVal, tAndM, tOrM, tNotM, tYesM, eChain, isiD, tyOf, isTy, eM1, oNone, oSome, eCut, R.bind_ok, R.bind_exc, R.bindS_ok, R.bindS_exc, RS.bind_next, RS.bind_ret, RS.bind_exc, LINE, ofS_inj, ofS_ok, eqD_int, eqD_ss, inD3_ss, inD2_ss, eFld, fld_many]⟩)
  match ms, h, hl, h1, e1, e2 with
  | [], h, hl, h1, e1, e2 =>
    refine ⟨s, ?_⟩
    simp [m_of_parts, bodyF, env0, sSeq, sSet, sIf, sRet, sRetN, sExpr, sPass, sRaise, sBad, eVar, eC, eTup, eLst, aCons, aNil, eCall, ar, DE.e2, eAnd, eOr, eNot, eIf, eNeg, tVal, tAndM, tOrM, tNotM, tYesM, eChain, isiD, tyOf, isTy, eM1, oNone, oSome, eCut, R.bind_ok, R.bind_exc, R.bindS_ok, R.bindS_exc, RS.bind_next, RS.bind_ret, RS.bind_exc, LINE, ofS_inj, ofS_ok, eqD_int, eqD_ss, inD3_ss, inD2_ss, h1, gtD, cmpI, n2]
  | [m], h, hl, h1, e1, e2 =>
    refine ⟨mD m, s, ?_, rfl, rfl⟩
    have hx : ixD (.ref l) (.int 0) s = .ok (mD m) s := by
      simp [ixD, rdS, h, atI_0]
    simp [m_of_parts, bodyF, env0, sSeq, sSet, sIf, sRet, sRetN, sExpr, sPass, sRaise, sBad, eVar, eC, eTup, eLst, aCons, aNil, eCall, ar, DE.e2, eAnd, eOr, eNot, eIf, eNeg, tVal, tAndM, tOrM, tNotM, tYesM, eChain, isiD, tyOf, isTy, eM1, oNone, oSome, eCut, R.bind_ok, R.bind_exc, R.bindS_ok, R.bindS_exc, RS.bind_next, RS.bind_ret, RS.bind_exc, LINE, ofS_inj, ofS_ok, eqD_int, eqD_ss, inD3_ss, inD2_ss, h1, gtD, cmpI, n1, hx]
  | m :: n :: ms, h, hl, h1, e1, e2 =>
    refine ⟨mD (.nary w ((m :: n :: ms).map (·.1)), 1 + ((m :: n :: ms).map (·.2)).sum), s, ?_, rfl, rfl⟩
    generalize hm : m :: n :: ms = ns at *
    have hn : 2 ≤ ns.length := by rw [← hm]; simp
    have g1 : (0 : Int) < ns.length := by omega
    have g0 : 0 < ns.length := by omega
    have g3 : ¬ ns.length = 1 := by omega
    have g2 : ¬ (ns.length : Int) = 1 := by omega
    have et : tupleD [.lst (ns.map fun m => toD m.1)] s = .ok (.tup (ns.map fun m => toD m.1)) s := rfl
    have es : sumD [.lst (ns.map fun m => D.int ((m.2 : Nat) : Int))] s = .ok (.int (((ns.map (·.2)).sum : Nat) : Int)) s := by
      rw [sumD_map, sum_cast]
    have em := ev_made (k := k) (ms := (aCons (eTup (aCons (eVar 0) (aCons (eCall tupleD (aCons (eLc (itV' (eVar 1)) (.one 2) [2] tYesM (eFld "pattern" (eVar 2))) aNil)) aNil))) (aCons (DE.e2 addD (eC (.int 1)) (eCall sumD (aCons (eLc (itV' (eVar 1)) (.one 2) [2] tYesM (eFld "many" (eVar 2))) aNil))) aNil)))
      (env := [some (.str (Str.ofString w.s)), some (.ref l), none]) (s := s) (s1 := s) (p := .nary w (ns.map (·.1))) (n := 1 + (((ns.map (·.2)).sum : Nat) : Int)) (by
        simp [bodyF, env0, sSeq, sSet, sIf, sRet, sRetN, sExpr, sPass, sRaise, sBad, eVar, eC, eTup, eLst, aCons, aNil, eCall, ar, DE.e2, eAnd, eOr, eNot, eIf, eNeg, tVal, tAndM, tOrM, tNotM, tYesM, eChain, isiD, tyOf, isTy, eM1, oNone, oSome, eCut, R.bind_ok, R.bind_exc, R.bindS_ok, R.bindS_exc, RS.bind_next, RS.bind_ret, RS.bind_exc, LINE, ofS_inj, ofS_ok, eqD_int, eqD_ss, inD3_ss, inD2_ss, e1, e2, et, es, addD_int, toD, toDs_map, List.map_map]
        try rfl)
    simp only [m_of_parts]
    refine body_ret (seq_ret (env1 := [some (.str (Str.ofString w.s)), some (.ref l), none]) (s1 := s) (by simp [bodyF, env0, sSeq, sSet, sIf, sRet, sRetN, sExpr, sPass, sRaise, sBad, eVar, eC, eTup, eLst, aCons, aNil, eCall, ar, DE.e2, eAnd, eOr, eNot, eIf, eNeg, tVal, tAndM, tOrM, tNotM, tYesM, eChain, isiD, tyOf, isTy, eM1, oNone, oSome, eCut, R.bind_ok, R.bind_exc, R.bindS_ok, R.bindS_exc, RS.bind_next, RS.bind_ret, RS.bind_exc, LINE, ofS_inj, ofS_ok, eqD_int, eqD_ss, inD3_ss, inD2_ss, h1, gtD, cmpI, g1, g0, n1]) (seq_ret (env1 := [some (.str (Str.ofString w.s)), some (.ref l), none]) (s1 := s) (by simp [bodyF, env0, sSeq, sSet, sIf, sRet, sRetN, sExpr, sPass, sRaise, sBad, eVar, eC, eTup, eLst, aCons, aNil, eCall, ar, DE.e2, eAnd, eOr, eNot, eIf, eNeg, tVal, tAndM, tOrM, tNotM, tYesM, eChain, isiD, tyOf, isTy, eM1, oNone, oSome, eCut, R.bind_ok, R.bind_exc, R.bindS_ok, R.bindS_exc, RS.bind_next, RS.bind_ret, RS.bind_exc, LINE, ofS_inj, ofS_ok, eqD_int, eqD_ss, inD3_ss, inD2_ss, h1, g2, g3]) ?_))
    unfold sRet
    rw [em]
    simp only [R.bindS_ok, mD]
    congr 3
    
end G
/-! K2D: brackets: halves, branches, towers on cells -/
namespace G
open PySem PySem.Spec PyProof.Rows L2 DE PySem.StrLaws
theorem get_set_ne {s : Store} {i j : Nat} {c : Cell} (h : i ≠ j) : (s.set j c)[i]? = s[i]? := List.getElem?_set_ne (Ne.symm h)
theorem get_set_eq {s : Store} {i : Nat} {c : Cell} (h : i < s.length) : (s.set i c)[i]? = some c := by simp [h]
theorem get_app {s : Store} {i : Nat} {t : Store} (h : i < s.length) : (s ++ t)[i]? = s[i]? := List.getElem?_append_left h
theorem get_app_eq {s : Store} {c : Cell} : (s ++ [c])[s.length]? = some c := by simp
theorem upd_x {s : Store} {a : Ad} {b : Br} (h : BrAt s a b) (nd : a.ids.Nodup) (ms : List Md) : Upd s a (s.set a.x (lstM ms)) a ⟨ms, b.hs, b.cs, b.n⟩ where
  here := ⟨by rw [get_set_ne (Ad.nd nd).1]; exact h.q, get_set_eq (lt_of_get h.x), by rw [get_set_ne (Ad.nd nd).2.2.2.1.symm]; exact h.y, by rw [get_set_ne (Ad.nd nd).2.2.2.2.1.symm]; exact h.z⟩
  q := rfl
  nd := nd
  fr i hi := .inl hi
  keep i hi hn := get_set_ne fun e => hn (by simp [Ad.ids, e])
  len := by simp
theorem upd_y {s : Store} {a : Ad} {b : Br} (h : BrAt s a b) (nd : a.ids.Nodup) (ms : List Md) : Upd s a (s.set a.y (lstM ms)) a ⟨b.bs, ms, b.cs, b.n⟩ where
  here := ⟨by rw [get_set_ne (Ad.nd nd).2.1]; exact h.q, by rw [get_set_ne (Ad.nd nd).2.2.2.1]; exact h.x, get_set_eq (lt_of_get h.y), by rw [get_set_ne (Ad.nd nd).2.2.2.2.2.symm]; exact h.z⟩
  q := rfl
  nd := nd
  fr i hi := .inl hi
  keep i hi hn := get_set_ne fun e => hn (by simp [Ad.ids, e])
  len := by simp
theorem upd_z {s : Store} {a : Ad} {b : Br} (h : BrAt s a b) (nd : a.ids.Nodup) (ms : List Md) : Upd s a (s.set a.z (lstM ms)) a ⟨b.bs, b.hs, ms, b.n⟩ where
  here := ⟨by rw [get_set_ne (Ad.nd nd).2.2.1]; exact h.q, by rw [get_set_ne (Ad.nd nd).2.2.2.2.1]; exact h.x, by rw [get_set_ne (Ad.nd nd).2.2.2.2.2]; exact h.y, get_set_eq (lt_of_get h.z)⟩
  q := rfl
  nd := nd
  fr i hi := .inl hi
  keep i hi hn := get_set_ne fun e => hn (by simp [Ad.ids, e])
  len := by simp
theorem upd_n {s : Store} {a : Ad} {b : Br} (h : BrAt s a b) (nd : a.ids.Nodup) (n : Nat) : Upd s a (s.set a.q (insB a n)) a ⟨b.bs, b.hs, b.cs, n⟩ where
  here := ⟨get_set_eq (lt_of_get h.q), by rw [get_set_ne (Ad.nd nd).1.symm]; exact h.x, by rw [get_set_ne (Ad.nd nd).2.1.symm]; exact h.y, by rw [get_set_ne (Ad.nd nd).2.2.1.symm]; exact h.z⟩
  q := rfl
  nd := nd
  fr i hi := .inl hi
  keep i hi hn := get_set_ne fun e => hn (by simp [Ad.ids, e])
  len := by simp
theorem upd_newY {s : Store} {a : Ad} {b : Br} (h : BrAt s a b) (nd : a.ids.Nodup) : Upd s a ((s ++ [lstM []]).set a.q (insB ⟨a.q, a.x, s.length, a.z⟩ b.n)) ⟨a.q, a.x, s.length, a.z⟩ ⟨b.bs, [], b.cs, b.n⟩ := by
  have d := Ad.nd nd
  have hq := lt_of_get h.q
  have hx := lt_of_get h.x
  have hz := lt_of_get h.z
  refine ⟨⟨get_set_eq (by simp; omega), ?_, ?_, ?_⟩, rfl, ?_, ?_, ?_, by simp⟩
  · rw [get_set_ne d.1.symm, get_app hx]; exact h.x
  · show ((s ++ [lstM []]).set a.q _)[s.length]? = _
    rw [get_set_ne (by omega), get_app_eq]
  · rw [get_set_ne d.2.2.1.symm, get_app hz]; exact h.z
  · simp only [Ad.ids, List.nodup_cons, List.mem_cons, List.not_mem_nil, or_false, not_or]
    exact ⟨⟨d.1, by omega, d.2.2.1⟩, ⟨by omega, d.2.2.2.2.1⟩, by omega, by simp, by simp⟩
  · intro i hi
    simp only [Ad.ids, List.mem_cons, List.not_mem_nil, or_false] at hi ⊢
    rcases hi with rfl | rfl | rfl | rfl <;> simp
  · intro i hi hn
    rw [get_set_ne (fun e => hn (by simp [Ad.ids, e])), get_app hi]
theorem upd_newZ {s : Store} {a : Ad} {b : Br} (h : BrAt s a b) (nd : a.ids.Nodup) : Upd s a ((s ++ [lstM []]).set a.q (insB ⟨a.q, a.x, a.y, s.length⟩ b.n)) ⟨a.q, a.x, a.y, s.length⟩ ⟨b.bs, b.hs, [], b.n⟩ := by
  have d := Ad.nd nd
  have hq := lt_of_get h.q
  have hx := lt_of_get h.x
  have hz := lt_of_get h.y
  refine ⟨⟨get_set_eq (by simp; omega), ?_, ?_, ?_⟩, rfl, ?_, ?_, ?_, by simp⟩
  · rw [get_set_ne d.1.symm, get_app hx]; exact h.x
  · rw [get_set_ne d.2.1.symm, get_app hz]; exact h.y
  · show ((s ++ [lstM []]).set a.q _)[s.length]? = _
    rw [get_set_ne (by omega), get_app_eq]
  · simp only [Ad.ids, List.nodup_cons, List.mem_cons, List.not_mem_nil, or_false, not_or]
    exact ⟨⟨d.1, d.2.1, by omega⟩, ⟨d.2.2.2.1, by omega⟩, by omega, by simp, by simp⟩
  · intro i hi
    simp only [Ad.ids, List.mem_cons, List.not_mem_nil, or_false] at hi ⊢
    rcases hi with rfl | rfl | rfl | rfl <;> simp
  · intro i hi hn
    rw [get_set_ne (fun e => hn (by simp [Ad.ids, e])), get_app hi]
theorem fld_n {s : Store} {a : Ad} {n : Nat} (h : s[a.q]? = some (insB a n)) : fldD "nots" (.ref a.q) s = .ok (.int n) s := by simp [fldD, h, getF, FS, ofS_inj]
theorem fld_x {s : Store} {a : Ad} {n : Nat} (h : s[a.q]? = some (insB a n)) : fldD "branches" (.ref a.q) s = .ok (.ref a.x) s := by simp [fldD, h, getF, FS, ofS_inj]
theorem fld_y {s : Store} {a : Ad} {n : Nat} (h : s[a.q]? = some (insB a n)) : fldD "halves" (.ref a.q) s = .ok (.ref a.y) s := by simp [fldD, h, getF, FS, ofS_inj]
theorem fld_z {s : Store} {a : Ad} {n : Nat} (h : s[a.q]? = some (insB a n)) : fldD "held" (.ref a.q) s = .ok (.ref a.z) s := by simp [fldD, h, getF, FS, ofS_inj]
theorem set_n {s : Store} {a : Ad} {n : Nat} (h : s[a.q]? = some (insB a n)) (m : Nat) : setFD [7] "nots" (.ref a.q) (.int m) s = some (s.set a.q (insB a m)) := by simp [setFD, h, setF, FS, ofS_inj]; rfl
theorem set_y {s : Store} {a : Ad} {n : Nat} (h : s[a.q]? = some (insB a n)) (l : Nat) : setFD [7] "halves" (.ref a.q) (.ref l) s = some (s.set a.q (insB ⟨a.q, a.x, l, a.z⟩ n)) := by simp [setFD, h, setF, FS, ofS_inj]; rfl
theorem set_z {s : Store} {a : Ad} {n : Nat} (h : s[a.q]? = some (insB a n)) (l : Nat) : setFD [7] "held" (.ref a.q) (.ref l) s = some (s.set a.q (insB ⟨a.q, a.x, a.y, l⟩ n)) := by simp [setFD, h, setF, FS, ofS_inj]; rfl
theorem ap_ok {s : Store} {l : Nat} {ms : List Md} (h : s[l]? = some (lstM ms)) (hl : ms.length ≤ 1000) (m : Md) : apD (.ref l) (mD m) s = .ok .non (s.set l (lstM (ms ++ [m]))) := by
  simp only [apD, h, List.length_map]
  rw [if_pos (Nat.lt_of_le_of_lt hl (by decide))]
  simp [lstM]
theorem isLst_ok' {s : Store} {l : Nat} {ms : List Md} (h : s[l]? = some (lstM ms)) : isLst s (.ref l) = true := by simp [isLst, h]
/-- statement: o.f = [] -/
theorem sfld_new {cs : List Nat} {f : Str} {env : DE.Env} {s s2 : Store} {o : D} (h0 : env[0]? = some (some o)) (h : setFD cs f o (.ref s.length) (s ++ [lstM []]) = some s2) : DE.sFld cs f (eVar 0) (eNew aNil) env s = .next env s2 := by
  have e : eNew aNil env s = .ok (.ref s.length) (s ++ [lstM []]) := by simp [eNew, aNil, LINE, lstM]
  unfold DE.sFld
  rw [e]
  simp only [R.bindS_ok, eVar, h0, h]
theorem ev_end_half (k : Nat) (s : Store) (a : Ad) (b : Br) (h : BrAt s a b) (nd : a.ids.Nodup) (hc : b.cnt ≤ 900) :
    Out (fns (k + 3) i_end_half [.ref a.q] s) (endHalf b) fun b' d s' => d = .non ∧ ∃ a', Upd s a s' a' b' := by
  unfold Br.cnt at hc
  rw [e_end_half]
  have fn := fld_n h.q
  have fy := fld_y h.q
  have fz := fld_z h.q
  have iy := isLst_ok' h.y
  by_cases hn : b.n = 0
  · have n1 := ev_need (k + 1) true s
    simp only [if_true] at n1
    have e1 : sExpr (eCall (ar 1 (fns (k + 2) i_need)) (aCons (DE.e2 (eqD false) (eFld "nots" (eVar 0)) (eC (.int 0))) aNil)) [some (.ref a.q)] s = .next [some (.ref a.q)] s := by
      simp [bodyF, env0, sSeq, sSet, sIf, sRet, sRetN, sExpr, sPass, sRaise, sBad, eVar, eC, eTup, eLst, aCons, aNil, eCall, ar, DE.e2, eAnd, eOr, eNot, eIf, eNeg, tVal, tAndM, tOrM, tNotM, tYesM, eChain, isiD, tyOf, isTy, eM1, oNone, oSome, eCut, R.bind_ok, R.bind_exc, R.bindS_ok, R.bindS_exc, RS.bind_next, RS.bind_ret, RS.bind_exc, LINE, ofS_inj, ofS_ok, eqD_int, eqD_ss, inD3_ss, inD2_ss, eFld, fn, hn, n1]
    have hp := ev_of_parts k .row b.cs a.z s h.z (by omega)
    simp only [W3.s] at hp
    unfold endHalf
    rw [if_pos hn]
    cases ho : ofParts .row b.cs with
    | none =>
      rw [ho] at hp
      obtain ⟨s', e⟩ := hp
      refine ⟨s', ?_⟩
      simp only [m_end_half]
      simp [bodyF, env0, sSeq, sSet, sIf, sRet, sRetN, sExpr, sPass, sRaise, sBad, eVar, eC, eTup, eLst, aCons, aNil, eCall, ar, DE.e2, eAnd, eOr, eNot, eIf, eNeg, tVal, tAndM, tOrM, tNotM, tYesM, eChain, isiD, tyOf, isTy, eM1, oNone, oSome, eCut, R.bind_ok, R.bind_exc, R.bindS_ok, R.bindS_exc, RS.bind_next, RS.bind_ret, RS.bind_exc, LINE, ofS_inj, ofS_ok, eqD_int, eqD_ss, inD3_ss, inD2_ss, eFld, fn, hn, n1, fy, eLM, iy, fz, e]
    | some m =>
      rw [ho] at hp
      obtain ⟨d, s', e, rfl, rfl⟩ := hp
      have u1 := upd_y h nd (b.hs ++ [m])
      have u2 := upd_newZ u1.here nd
      have ap := ap_ok h.y (by omega) m
      have e2 : sExpr (eLM apD (eFld "halves" (eVar 0)) (eCall (ar 2 (fns (k + 2) i_of_parts)) (aCons (eC (.str "row")) (aCons (eFld "held" (eVar 0)) aNil)))) [some (.ref a.q)] s' = .next [some (.ref a.q)] (s'.set a.y (lstM (b.hs ++ [m]))) := by
        simp [bodyF, env0, sSeq, sSet, sIf, sRet, sRetN, sExpr, sPass, sRaise, sBad, eVar, eC, eTup, eLst, aCons, aNil, eCall, ar, DE.e2, eAnd, eOr, eNot, eIf, eNeg, tVal, tAndM, tOrM, tNotM, tYesM, eChain, isiD, tyOf, isTy, eM1, oNone, oSome, eCut, R.bind_ok, R.bind_exc, R.bindS_ok, R.bindS_exc, RS.bind_next, RS.bind_ret, RS.bind_exc, LINE, ofS_inj, ofS_ok, eqD_int, eqD_ss, inD3_ss, inD2_ss, eFld, fy, eLM, iy, fz, e, ap]
      have hg := (upd_y h nd (b.hs ++ [m])).here.q
      have e3 := sfld_new (cs := [7]) (f := "held") (env := [some (.ref a.q)]) (s := s'.set a.y (lstM (b.hs ++ [m]))) (o := .ref a.q) rfl (set_z (by rw [get_app (lt_of_get hg)]; exact hg) _)
      exact ⟨.non, _, body_next ((seq_to e1).trans ((seq_to e2).trans e3)), rfl, _, u1.trans u2⟩
  · have n2 := ev_need (k + 1) false s
    unfold endHalf
    rw [if_neg hn]
    refine ⟨s, ?_⟩
    simp only [m_end_half]
    simp [bodyF, env0, sSeq, sSet, sIf, sRet, sRetN, sExpr, sPass, sRaise, sBad, eVar, eC, eTup, eLst, aCons, aNil, eCall, ar, DE.e2, eAnd, eOr, eNot, eIf, eNeg, tVal, tAndM, tOrM, tNotM, tYesM, eChain, isiD, tyOf, isTy, eM1, oNone, oSome, eCut, R.bind_ok, R.bind_exc, R.bindS_ok, R.bindS_exc, RS.bind_next, RS.bind_ret, RS.bind_exc, LINE, ofS_inj, ofS_ok, eqD_int, eqD_ss, inD3_ss, inD2_ss, eFld, fn, hn, n2]
theorem end_half_cnt {b b' : Br} (h : endHalf b = some b') : b'.cnt ≤ b.cnt ∧ b'.n = 0 ∧ b'.hs.length ≤ b.cnt := by
  unfold endHalf at h
  split at h
  · rename_i hn
    cases ho : ofParts .row b.cs with
    | none => rw [ho] at h; cases h
    | some m =>
      rw [ho] at h
      simp only [Option.map_some, Option.some.injEq] at h
      subst h
      have : 1 ≤ b.cs.length := by
        cases hb : b.cs with
        | nil => rw [hb] at ho; cases ho
        | cons _ _ => simp
      have e : (b.hs ++ [m]).length = b.hs.length + 1 := by simp
      refine ⟨?_, hn, ?_⟩
      · show b.bs.length + (b.hs ++ [m]).length + 0 + b.n ≤ b.bs.length + b.hs.length + b.cs.length + b.n
        omega
      · show (b.hs ++ [m]).length ≤ b.bs.length + b.hs.length + b.cs.length + b.n
        omega
  · cases h
theorem ev_end_branch (k : Nat) (s : Store) (a : Ad) (b : Br) (h : BrAt s a b) (nd : a.ids.Nodup) (hc : b.cnt ≤ 900) :
    Out (fns (k + 4) i_end_branch [.ref a.q] s) (endBranch b) fun b' d s' => d = .non ∧ ∃ a', Upd s a s' a' b' := by
  rw [e_end_branch]
  have hh := ev_end_half k s a b h nd hc
  unfold endBranch
  cases hb : endHalf b with
  | none =>
    rw [hb] at hh
    obtain ⟨s', e⟩ := hh
    refine ⟨s', ?_⟩
    simp only [m_end_branch]
    simp [bodyF, env0, sSeq, sSet, sIf, sRet, sRetN, sExpr, sPass, sRaise, sBad, eVar, eC, eTup, eLst, aCons, aNil, eCall, ar, DE.e2, eAnd, eOr, eNot, eIf, eNeg, tVal, tAndM, tOrM, tNotM, tYesM, eChain, isiD, tyOf, isTy, eM1, oNone, oSome, eCut, R.bind_ok, R.bind_exc, R.bindS_ok, R.bindS_exc, RS.bind_next, RS.bind_ret, RS.bind_exc, LINE, ofS_inj, ofS_ok, eqD_int, eqD_ss, inD3_ss, inD2_ss, e]
  | some b1 =>
    rw [hb] at hh
    obtain ⟨d, s1, e, rfl, a1, u0⟩ := hh
    have hc1 := end_half_cnt hb
    unfold Br.cnt at hc hc1
    simp only [Option.bind_some]
    have e1 : sExpr (eCall (ar 1 (fns (k + 3) i_end_half)) (aCons (eVar 0) aNil)) [some (.ref a.q)] s = .next [some (.ref a.q)] s1 := by
      simp [bodyF, env0, sSeq, sSet, sIf, sRet, sRetN, sExpr, sPass, sRaise, sBad, eVar, eC, eTup, eLst, aCons, aNil, eCall, ar, DE.e2, eAnd, eOr, eNot, eIf, eNeg, tVal, tAndM, tOrM, tNotM, tYesM, eChain, isiD, tyOf, isTy, eM1, oNone, oSome, eCut, R.bind_ok, R.bind_exc, R.bindS_ok, R.bindS_exc, RS.bind_next, RS.bind_ret, RS.bind_exc, LINE, ofS_inj, ofS_ok, eqD_int, eqD_ss, inD3_ss, inD2_ss, e]
    have h1 := u0.here
    have fx := fld_x h1.q
    have fy := fld_y h1.q
    have ix := isLst_ok' h1.x
    rw [← u0.q] at e1
    have hp := ev_of_parts (k + 1) .and b1.hs a1.y s1 h1.y (by omega)
    simp only [W3.s] at hp
    rw [← u0.q]
    cases ho : ofParts .and b1.hs with
    | none =>
      rw [ho] at hp
      obtain ⟨s', e'⟩ := hp
      refine ⟨s', ?_⟩
      refine body_exc ((seq_to e1).trans ?_)
      simp [bodyF, env0, sSeq, sSet, sIf, sRet, sRetN, sExpr, sPass, sRaise, sBad, eVar, eC, eTup, eLst, aCons, aNil, eCall, ar, DE.e2, eAnd, eOr, eNot, eIf, eNeg, tVal, tAndM, tOrM, tNotM, tYesM, eChain, isiD, tyOf, isTy, eM1, oNone, oSome, eCut, R.bind_ok, R.bind_exc, R.bindS_ok, R.bindS_exc, RS.bind_next, RS.bind_ret, RS.bind_exc, LINE, ofS_inj, ofS_ok, eqD_int, eqD_ss, inD3_ss, inD2_ss, eFld, fx, fy, eLM, ix, e']
    | some m =>
      rw [ho] at hp
      obtain ⟨d, s', e', rfl, rfl⟩ := hp
      have u1 := upd_x h1 u0.nd (b1.bs ++ [m])
      have u2 := upd_newY u1.here u1.nd
      have ap := ap_ok h1.x (by omega) m
      have e2 : sExpr (eLM apD (eFld "branches" (eVar 0)) (eCall (ar 2 (fns (k + 3) i_of_parts)) (aCons (eC (.str "and")) (aCons (eFld "halves" (eVar 0)) aNil)))) [some (.ref a1.q)] s' = .next [some (.ref a1.q)] (s'.set a1.x (lstM (b1.bs ++ [m]))) := by
        simp [bodyF, env0, sSeq, sSet, sIf, sRet, sRetN, sExpr, sPass, sRaise, sBad, eVar, eC, eTup, eLst, aCons, aNil, eCall, ar, DE.e2, eAnd, eOr, eNot, eIf, eNeg, tVal, tAndM, tOrM, tNotM, tYesM, eChain, isiD, tyOf, isTy, eM1, oNone, oSome, eCut, R.bind_ok, R.bind_exc, R.bindS_ok, R.bindS_exc, RS.bind_next, RS.bind_ret, RS.bind_exc, LINE, ofS_inj, ofS_ok, eqD_int, eqD_ss, inD3_ss, inD2_ss, eFld, fx, eLM, ix, fy, e', ap]
      have hg := u1.here.q
      have e3 := sfld_new (cs := [7]) (f := "halves") (env := [some (.ref a1.q)]) (s := s'.set a1.x (lstM (b1.bs ++ [m]))) (o := .ref a1.q) rfl (set_y (by rw [get_app (lt_of_get hg)]; exact hg) _)
      exact ⟨.non, _, body_next ((seq_to e1).trans ((seq_to e2).trans e3)), rfl, _, (u0.trans u1).trans u2⟩
theorem end_branch_cnt {b b' : Br} (h : endBranch b = some b') : b'.cnt ≤ b.cnt ∧ b'.n = 0 := by
  unfold endBranch at h
  cases hb : endHalf b with
  | none => rw [hb] at h; cases h
  | some b1 =>
    rw [hb] at h
    simp only [Option.bind_some] at h
    have this' := end_half_cnt hb
    cases ho : ofParts .and b1.hs with
    | none => rw [ho] at h; cases h
    | some m =>
      rw [ho] at h
      simp only [Option.map_some, Option.some.injEq] at h
      subst h
      have : 1 ≤ b1.hs.length := by
        cases hb : b1.hs with
        | nil => rw [hb] at ho; cases ho
        | cons _ _ => simp
      have e : (b1.bs ++ [m]).length = b1.bs.length + 1 := by simp
      refine ⟨?_, this'.2.1⟩
      have h3 : b1.bs.length + b1.hs.length + b1.cs.length + b1.n ≤ b.cnt := this'.1
      show (b1.bs ++ [m]).length + 0 + b1.cs.length + b1.n ≤ b.cnt
      omega
theorem ev_closed (k : Nat) (s : Store) (a : Ad) (b : Br) (h : BrAt s a b) (nd : a.ids.Nodup) (hc : b.cnt ≤ 900) :
    Out (fns (k + 5) i_closed [.ref a.q] s) (closeB b) fun m d s' => d = mD m ∧ ∃ a' b', Upd s a s' a' b' := by
  rw [e_closed]
  have hh := ev_end_branch k s a b h nd hc
  unfold closeB
  cases hb : endBranch b with
  | none =>
    rw [hb] at hh
    obtain ⟨s', e⟩ := hh
    refine ⟨s', ?_⟩
    simp only [m_closed]
    simp [bodyF, env0, sSeq, sSet, sIf, sRet, sRetN, sExpr, sPass, sRaise, sBad, eVar, eC, eTup, eLst, aCons, aNil, eCall, ar, DE.e2, eAnd, eOr, eNot, eIf, eNeg, tVal, tAndM, tOrM, tNotM, tYesM, eChain, isiD, tyOf, isTy, eM1, oNone, oSome, eCut, R.bind_ok, R.bind_exc, R.bindS_ok, R.bindS_exc, RS.bind_next, RS.bind_ret, RS.bind_exc, LINE, ofS_inj, ofS_ok, eqD_int, eqD_ss, inD3_ss, inD2_ss, e]
  | some b1 =>
    rw [hb] at hh
    obtain ⟨d, s1, e, rfl, a1, u0⟩ := hh
    have hc1 := end_branch_cnt hb
    unfold Br.cnt at hc hc1
    simp only [Option.bind_some]
    have h1 := u0.here
    have fx := fld_x h1.q
    have hp := ev_of_parts (k + 2) .or b1.bs a1.x s1 h1.x (by omega)
    simp only [W3.s] at hp
    rw [u0.q] at fx
    cases ho : ofParts .or b1.bs with
    | none =>
      rw [ho] at hp
      obtain ⟨s', e'⟩ := hp
      refine ⟨s', ?_⟩
      simp only [m_closed]
      simp [bodyF, env0, sSeq, sSet, sIf, sRet, sRetN, sExpr, sPass, sRaise, sBad, eVar, eC, eTup, eLst, aCons, aNil, eCall, ar, DE.e2, eAnd, eOr, eNot, eIf, eNeg, tVal, tAndM, tOrM, tNotM, tYesM, eChain, isiD, tyOf, isTy, eM1, oNone, oSome, eCut, R.bind_ok, R.bind_exc, R.bindS_ok, R.bindS_exc, RS.bind_next, RS.bind_ret, RS.bind_exc, LINE, ofS_inj, ofS_ok, eqD_int, eqD_ss, inD3_ss, inD2_ss, e, eFld, fx, e']
    | some m =>
      rw [ho] at hp
      obtain ⟨d, s', e', rfl, rfl⟩ := hp
      refine ⟨mD m, _, ?_, rfl, a1, b1, u0⟩
      simp only [m_closed]
      simp [bodyF, env0, sSeq, sSet, sIf, sRet, sRetN, sExpr, sPass, sRaise, sBad, eVar, eC, eTup, eLst, aCons, aNil, eCall, ar, DE.e2, eAnd, eOr, eNot, eIf, eNeg, tVal, tAndM, tOrM, tNotM, tYesM, eChain, isiD, tyOf, isTy, eM1, oNone, oSome, eCut, R.bind_ok, R.bind_exc, R.bindS_ok, R.bindS_exc, RS.bind_next, RS.bind_ret, RS.bind_exc, LINE, ofS_inj, ofS_ok, eqD_int, eqD_ss, inD3_ss, inD2_ss, e, eFld, fx, e']
theorem range_len (n : Nat) : (rangeL 0 (n : Int)).length = n := by simp [rangeL]
theorem itR1_ok {ms : AM} {env : DE.Env} {s : Store} {n : Nat} (h : ms env s = .ok [.int n] s) (hn : n ≤ 1000) : itR1 ms env s = .ok (rangeL 0 (n : Int), none) s := by
  unfold itR1
  rw [h]
  simp only [R.bind_ok]
  rw [if_pos (by unfold P62; omega)]
theorem ev_tower (k : Nat) (u : U2) (n : Nat) (m : Md) (s : Store) (im : DE.IM) (r d : D) (x : Option D) (hi : im [some r, some (mD m), some d, x] s = .ok (rangeL 0 (n : Int), none) s) :
    ∃ x', sFor im (gVar 3) (sSet 1 (eMakeF 6 3 (fns (k + 1) i_Made___init__) (aCons (eTup (aCons (eC (.str (Str.ofString u.s))) (aCons (eFld "pattern" (eVar 1)) aNil))) (aCons (DE.e2 addD (eFld "many" (eVar 1)) (eC (.int 1))) aNil)))) [some r, some (mD m), some d, x] s
      = .next [some r, some (mD (towN u n m.1, m.2 + n)), some d, x'] s := by
  unfold sFor
  rw [hi]
  simp only [R.bindS_ok]
  obtain ⟨env2, e, x', hx⟩ := for_ind (g := gVar 3) (body := sSet 1 (eMakeF 6 3 (fns (k + 1) i_Made___init__) (aCons (eTup (aCons (eC (.str (Str.ofString u.s))) (aCons (eFld "pattern" (eVar 1)) aNil))) (aCons (DE.e2 addD (eFld "many" (eVar 1)) (eC (.int 1))) aNil)))) (a := (rangeL 0 (n : Int), none)) (s := s) (by simp)
    (fun i env => ∃ x', env = [some r, some (mD (towN u i m.1, m.2 + i)), some d, x']) (rangeL 0 (n : Int)) 0 [some r, some (mD m), some d, x] ⟨x, rfl⟩ (by
      rintro j y hy env ⟨x', rfl⟩
      refine ⟨[some r, some (mD (towN u (0 + j) m.1, m.2 + (0 + j))), some d, some y], _, rfl, ?_, some y, rfl⟩
      have em := ev_made (k := k) (ms := (aCons (eTup (aCons (eC (.str (Str.ofString u.s))) (aCons (eFld "pattern" (eVar 1)) aNil))) (aCons (DE.e2 addD (eFld "many" (eVar 1)) (eC (.int 1))) aNil))) (env := [some r, some (mD (towN u (0 + j) m.1, m.2 + (0 + j))), some d, some y]) (s := s) (s1 := s) (p := .un u (towN u (0 + j) m.1)) (n := ((m.2 + (0 + j) : Nat) : Int) + 1) (by
        simp [bodyF, env0, sSeq, sSet, sIf, sRet, sRetN, sExpr, sPass, sRaise, sBad, eVar, eC, eTup, eLst, aCons, aNil, eCall, ar, DE.e2, eAnd, eOr, eNot, eIf, eNeg, tVal, tAndM, tOrM, tNotM, tYesM, eChain, isiD, tyOf, isTy, eM1, oNone, oSome, eCut, R.bind_ok, R.bind_exc, R.bindS_ok, R.bindS_exc, RS.bind_next, RS.bind_ret, RS.bind_exc, LINE, ofS_inj, ofS_ok, eqD_int, eqD_ss, inD3_ss, inD2_ss, eFld, fld_pat, fld_many, addD_int, toD])
      unfold sSet
      rw [em]
      simp [mD, towN]
      omega)
  rw [range_len] at hx
  subst hx
  refine ⟨x', ?_⟩
  rw [e]
  simp
theorem ev_put (k : Nat) (s : Store) (a : Ad) (b : Br) (m : Md) (j : Nat) (h : BrAt s a b) (nd : a.ids.Nodup) (hc : b.cnt ≤ 900) (hj : j ≤ 900) :
    ∃ s', fns (k + 2) i_put [.ref a.q, mD m, .int j] s = .ok .non s' ∧ Upd s a s' a (putB b m j) := by
  unfold Br.cnt at hc
  rw [e_put]
  have fn := fld_n h.q
  obtain ⟨x1, e1⟩ := ev_tower k .many j m s (itR1 (aCons (eVar 2) aNil)) (.ref a.q) (.int j) none (itR1_ok (by simp [bodyF, env0, sSeq, sSet, sIf, sRet, sRetN, sExpr, sPass, sRaise, sBad, eVar, eC, eTup, eLst, aCons, aNil, eCall, ar, DE.e2, eAnd, eOr, eNot, eIf, eNeg, tVal, tAndM, tOrM, tNotM, tYesM, eChain, isiD, tyOf, isTy, eM1, oNone, oSome, eCut, R.bind_ok, R.bind_exc, R.bindS_ok, R.bindS_exc, RS.bind_next, RS.bind_ret, RS.bind_exc, LINE, ofS_inj, ofS_ok, eqD_int, eqD_ss, inD3_ss, inD2_ss]) (by omega))
  obtain ⟨x2, e2⟩ := ev_tower k .not b.n (towN .many j m.1, m.2 + j) s (itR1 (aCons (eFld "nots" (eVar 0)) aNil)) (.ref a.q) (.int j) x1 (itR1_ok (by simp [bodyF, env0, sSeq, sSet, sIf, sRet, sRetN, sExpr, sPass, sRaise, sBad, eVar, eC, eTup, eLst, aCons, aNil, eCall, ar, DE.e2, eAnd, eOr, eNot, eIf, eNeg, tVal, tAndM, tOrM, tNotM, tYesM, eChain, isiD, tyOf, isTy, eM1, oNone, oSome, eCut, R.bind_ok, R.bind_exc, R.bindS_ok, R.bindS_exc, RS.bind_next, RS.bind_ret, RS.bind_exc, LINE, ofS_inj, ofS_ok, eqD_int, eqD_ss, inD3_ss, inD2_ss, eFld, fn]) (by omega))
  have u1 := upd_n h nd 0
  have u2 := upd_z u1.here nd (b.cs ++ [(towN .not b.n (towN .many j m.1), m.2 + j + b.n)])
  simp only [U2.s] at e1 e2
  generalize hm' : (towN .not b.n (towN .many j m.1), m.2 + j + b.n) = m' at *
  have e3 : DE.sFld [7] "nots" (eVar 0) (eC (.int 0)) [some (.ref a.q), some (mD m'), some (.int j), x2] s = .next [some (.ref a.q), some (mD m'), some (.int j), x2] (s.set a.q (insB a 0)) := by
    have := set_n h.q 0
    have this : setFD [7] "nots" (.ref a.q) (.int 0) s = some (s.set a.q (insB a 0)) := this
    simp only [DE.sFld, eVar, eC, R.bindS_ok, List.getElem?_cons_zero, this]
  have fz := fld_z u1.here.q
  have iz := isLst_ok' u1.here.z
  have ap := ap_ok u1.here.z (by show b.cs.length ≤ 1000; omega) m'
  have e4 : sExpr (eLM apD (eFld "held" (eVar 0)) (eVar 1)) [some (.ref a.q), some (mD m'), some (.int j), x2] (s.set a.q (insB a 0)) = .next [some (.ref a.q), some (mD m'), some (.int j), x2] ((s.set a.q (insB a 0)).set a.z (lstM (b.cs ++ [m']))) := by
    simp only [sExpr, eLM, eFld, eVar, R.bind_ok, List.getElem?_cons_zero, List.getElem?_cons_succ, fz, iz, if_true, ap, R.bindS_ok]
  refine ⟨_, ?_, by rw [putB, hm']; exact u1.trans u2⟩
  exact body_next ((seq_to e1).trans ((seq_to e2).trans ((seq_to e3).trans e4)))
def markB (b : Br) (c : Nat) : Option Br := if c = 124 then endBranch b else if c = 38 then endHalf b else some ⟨b.bs, b.hs, b.cs, b.n + 1⟩
theorem sg_S (c : Nat) : (⟨#[c]⟩ : Str) = S' [c] := rfl
theorem lit_sg (c d : Nat) : S' [c] = S' [d] ↔ c = d := by rw [S'_inj]; simp
theorem ok_sg {c : Nat} (h : c < 0x110000) : strOk' (S' [c]) = true := by simp [strOk', S', h]
theorem ev_marked (k : Nat) (s : Store) (a : Ad) (b : Br) (c : Nat) (h : BrAt s a b) (nd : a.ids.Nodup) (hc : b.cnt ≤ 900) (hb : c < 0x110000) :
    Out (fns (k + 5) i_marked [.ref a.q, .str (S' [c])] s) (markB b c) fun b' d s' => d = .non ∧ ∃ a', Upd s a s' a' b' := by
  rw [e_marked]
  have q1 : eqD false (.str (S' [c])) (.str (Str.ofString "|")) s = .ok (.bl (decide (c = 124))) s := by
    rw [eqD_str false _ _ s (ok_sg hb) (ofS_ok _), lit_bar]
    simp [lit_sg]
  have q2 : eqD false (.str (S' [c])) (.str (Str.ofString "&")) s = .ok (.bl (decide (c = 38))) s := by
    rw [eqD_str false _ _ s (ok_sg hb) (ofS_ok _), lit_amp]
    simp [lit_sg]
  unfold markB
  by_cases c1 : c = 124
  · rw [if_pos c1]
    rw [decide_eq_true c1] at q1
    have hh := ev_end_branch k s a b h nd hc
    cases hb : endBranch b with
    | none =>
      rw [hb] at hh
      obtain ⟨s', e⟩ := hh
      refine ⟨s', ?_⟩
      simp [m_marked, bodyF, env0, sSeq, sSet, sIf, sRet, sRetN, sExpr, sPass, sRaise, sBad, eVar, eC, eTup, eLst, aCons, aNil, eCall, ar, DE.e2, eAnd, eOr, eNot, eIf, eNeg, tVal, tAndM, tOrM, tNotM, tYesM, eChain, isiD, tyOf, isTy, eM1, oNone, oSome, eCut, R.bind_ok, R.bind_exc, R.bindS_ok, R.bindS_exc, RS.bind_next, RS.bind_ret, RS.bind_exc, LINE, ofS_inj, ofS_ok, eqD_int, eqD_ss, inD3_ss, inD2_ss, q1, e]
    | some b1 =>
      rw [hb] at hh
      obtain ⟨d, s1, e, rfl, u⟩ := hh
      refine ⟨.non, s1, ?_, rfl, u⟩
      simp [m_marked, bodyF, env0, sSeq, sSet, sIf, sRet, sRetN, sExpr, sPass, sRaise, sBad, eVar, eC, eTup, eLst, aCons, aNil, eCall, ar, DE.e2, eAnd, eOr, eNot, eIf, eNeg, tVal, tAndM, tOrM, tNotM, tYesM, eChain, isiD, tyOf, isTy, eM1, oNone, oSome, eCut, R.bind_ok, R.bind_exc, R.bindS_ok, R.bindS_exc, RS.bind_next, RS.bind_ret, RS.bind_exc, LINE, ofS_inj, ofS_ok, eqD_int, eqD_ss, inD3_ss, inD2_ss, q1, e]
  · rw [if_neg c1]
    rw [decide_eq_false c1] at q1
    by_cases c2 : c = 38
    · rw [if_pos c2]
      rw [decide_eq_true c2] at q2
      have hh : Out (fns (k + 4) i_end_half [.ref a.q] s) (endHalf b) fun b' d s' => d = .non ∧ ∃ a', Upd s a s' a' b' := ev_end_half (k + 1) s a b h nd hc
      cases hb : endHalf b with
      | none =>
        rw [hb] at hh
        obtain ⟨s', e⟩ := hh
        refine ⟨s', ?_⟩
        simp [m_marked, bodyF, env0, sSeq, sSet, sIf, sRet, sRetN, sExpr, sPass, sRaise, sBad, eVar, eC, eTup, eLst, aCons, aNil, eCall, ar, DE.e2, eAnd, eOr, eNot, eIf, eNeg, tVal, tAndM, tOrM, tNotM, tYesM, eChain, isiD, tyOf, isTy, eM1, oNone, oSome, eCut, R.bind_ok, R.bind_exc, R.bindS_ok, R.bindS_exc, RS.bind_next, RS.bind_ret, RS.bind_exc, LINE, ofS_inj, ofS_ok, eqD_int, eqD_ss, inD3_ss, inD2_ss, q1, q2, e]
      | some b1 =>
        rw [hb] at hh
        obtain ⟨d, s1, e, rfl, u⟩ := hh
        refine ⟨.non, s1, ?_, rfl, u⟩
        simp [m_marked, bodyF, env0, sSeq, sSet, sIf, sRet, sRetN, sExpr, sPass, sRaise, sBad, eVar, eC, eTup, eLst, aCons, aNil, eCall, ar, DE.e2, eAnd, eOr, eNot, eIf, eNeg, tVal, tAndM, tOrM, tNotM, tYesM, eChain, isiD, tyOf, isTy, eM1, oNone, oSome, eCut, R.bind_ok, R.bind_exc, R.bindS_ok, R.bindS_exc, RS.bind_next, RS.bind_ret, RS.bind_exc, LINE, ofS_inj, ofS_ok, eqD_int, eqD_ss, inD3_ss, inD2_ss, q1, q2, e]
    · rw [if_neg c2]
      rw [decide_eq_false c2] at q2
      have fn := fld_n h.q
      have e3 : setFD [7] "nots" (.ref a.q) (.int ((b.n : Int) + 1)) s = some (s.set a.q (insB a (b.n + 1))) := set_n h.q (b.n + 1)
      refine ⟨.non, _, ?_, rfl, a, upd_n h nd (b.n + 1)⟩
      simp [m_marked, bodyF, env0, sSeq, sSet, sIf, sRet, sRetN, sExpr, sPass, sRaise, sBad, eVar, eC, eTup, eLst, aCons, aNil, eCall, ar, DE.e2, eAnd, eOr, eNot, eIf, eNeg, tVal, tAndM, tOrM, tNotM, tYesM, eChain, isiD, tyOf, isTy, eM1, oNone, oSome, eCut, R.bind_ok, R.bind_exc, R.bindS_ok, R.bindS_exc, RS.bind_next, RS.bind_ret, RS.bind_exc, LINE, ofS_inj, ofS_ok, eqD_int, eqD_ss, inD3_ss, inD2_ss, q1, q2, eFld, fn, DE.sFld, addD_int, e3]
end G
/-! K2E: signs, stars, plain atoms -/
namespace G
open PySem PySem.Spec PyProof.Rows L2 DE PySem.StrLaws
theorem cut_txt (t : List Nat) (i n : Nat) (s : Store) (h : t.length ≤ 1000) : cutD (.str (S' t)) (some (i : Int)) (some ((i + n : Nat) : Int)) s = .ok (.str (S' ((t.drop i).take n))) s := by
  have e : ∀ j : Nat, ∀ d, HT.sIx t.length d (some (j : Int)) = min j t.length := fun j d => by
    simp only [HT.sIx]
    rw [if_neg (by omega)]
    rfl
  show (if (S' t).length ≤ LINE then (R.ok (D.str ⟨(cutL (S' t).cps.toList (some (i : Int)) (some ((i + n : Nat) : Int))).toArray⟩) s : R D) else .bad) = _
  rw [if_pos (by rw [S'_len]; unfold LINE; omega), S'_cps]
  unfold cutL
  rw [e, e]
  have e1 : (t.drop (min i t.length)) = t.drop i := by
    by_cases hi : i ≤ t.length
    · rw [Nat.min_eq_left hi]
    · rw [Nat.min_eq_right (by omega), List.drop_length, List.drop_eq_nil_of_le (by omega)]
  rw [e1]
  have e2 : (t.drop i).take (min (i + n) t.length - min i t.length) = (t.drop i).take n := by
    rw [List.take_eq_take_iff, List.length_drop]
    omega
  rw [e2]
  rfl
theorem ix_txt (t : List Nat) (i : Nat) (c : Nat) (r : List Nat) (s : Store) (h : t.length ≤ 1000) (hd : t.drop i = c :: r) : ixD (.str (S' t)) (.int (i : Int)) s = .ok (.str (S' [c])) s := by
  have hi : i < t.length := by
    have := congrArg List.length hd
    rw [List.length_drop] at this
    simp at this
    omega
  have hc : t[i]? = some c := by
    have := congrArg (fun l => l[0]?) hd
    simpa using this
  show (if (S' t).length ≤ LINE then (match atI (S' t).cps.toList (i : Int) with | some c => (R.ok (D.str ⟨#[c]⟩) s : R D) | none => .bad) else .bad) = _
  rw [if_pos (by rw [S'_len]; unfold LINE; omega), S'_cps, atI_nat _ _ hi, hc]
  rfl
def okT (t : List Nat) : Prop := t.length ≤ 400 ∧ ∀ c ∈ t, c < 0x110000
theorem okT.sok {t u : List Nat} (h : okT t) (hu : ∀ c ∈ u, c ∈ t) : strOk' (S' u) = true := by
  unfold strOk' S'
  rw [List.all_toArray, List.all_eq_true]
  intro c hc
  simpa using h.2 c (hu c hc)
theorem okT.drop {t : List Nat} (i n : Nat) (h : okT t) : strOk' (S' ((t.drop i).take n)) = true := h.sok fun c hc => List.mem_of_mem_drop (List.mem_of_mem_take hc)
def stars (t : List Nat) : Nat := (t.takeWhile (fun c => decide (c = 42))).length
theorem stars_cons (c : Nat) (t : List Nat) : stars (c :: t) = if c = 42 then stars t + 1 else 0 := by
  unfold stars
  by_cases h : c = 42 <;> simp [h]
theorem stars_nil : stars [] = 0 := rfl
theorem stars_le (t : List Nat) : stars t ≤ t.length := (List.takeWhile_sublist _).length_le
theorem drop_succ {t : List Nat} {i c : Nat} {r : List Nat} (h : t.drop i = c :: r) : t.drop (i + 1) = r := by
  have := congrArg (List.drop 1) h
  rw [List.drop_drop] at this
  simpa using this
theorem ev_stars_loop (t : List Nat) (h : okT t) (s : Store) (i : Nat) : ∀ (n j : Nat), stars (t.drop (i + j)) = n →
    sWhile (tVal (DE.e2 (eqD false) (eCut (eVar 0) (oSome (DE.e2 addD (eVar 1) (eVar 2))) (oSome (DE.e2 addD (DE.e2 addD (eVar 1) (eVar 2)) (eC (.int 1))))) (eC (.str "*")))) (sSet 2 (DE.e2 addD (eVar 2) (eC (.int 1)))) [some (.str (S' t)), some (.int i), some (.int j)] s
      = .next [some (.str (S' t)), some (.int i), some (.int ((j + n : Nat) : Int))] s := by
  intro n
  induction n with
  | zero =>
    intro j hn
    rw [sWhile_eq]
    have c1 : cutD (.str (S' t)) (some ((i : Int) + j)) (some ((i : Int) + j + 1)) s = .ok (.str (S' ((t.drop (i + j)).take 1))) s := cut_txt t (i + j) 1 s (by have := h.1; omega)
    have q := eqD_str false (S' ((t.drop (i + j)).take 1)) (Str.ofString "*") s (h.drop _ _) (ofS_ok _)
    have ne : ¬ S' ((t.drop (i + j)).take 1) = Str.ofString "*" := by
      rw [lit_star, S'_inj]
      intro e
      cases hd : t.drop (i + j) with
      | nil => rw [hd] at e; simp at e
      | cons c r =>
        rw [hd] at e hn
        simp at e
        rw [stars_cons, if_pos e] at hn
        omega
    simp [bodyF, env0, sSeq, sSet, sIf, sRet, sRetN, sExpr, sPass, sRaise, sBad, eVar, eC, eTup, eLst, aCons, aNil, eCall, ar, DE.e2, eAnd, eOr, eNot, eIf, eNeg, tVal, tAndM, tOrM, tNotM, tYesM, eChain, isiD, tyOf, isTy, eM1, oNone, oSome, eCut, R.bind_ok, R.bind_exc, R.bindS_ok, R.bindS_exc, RS.bind_next, RS.bind_ret, RS.bind_exc, LINE, ofS_inj, ofS_ok, eqD_int, eqD_ss, inD3_ss, inD2_ss, addD_int, c1, q, ne]
  | succ n ih =>
    intro j hn
    rw [sWhile_eq]
    have c1 : cutD (.str (S' t)) (some ((i : Int) + j)) (some ((i : Int) + j + 1)) s = .ok (.str (S' ((t.drop (i + j)).take 1))) s := cut_txt t (i + j) 1 s (by have := h.1; omega)
    have q := eqD_str false (S' ((t.drop (i + j)).take 1)) (Str.ofString "*") s (h.drop _ _) (ofS_ok _)
    cases hd : t.drop (i + j) with
    | nil => rw [hd] at hn; cases hn
    | cons c r =>
      rw [hd, stars_cons] at hn
      by_cases hc : c = 42
      · rw [if_pos hc] at hn
        have eq : S' ((t.drop (i + j)).take 1) = Str.ofString "*" := by
          rw [lit_star, S'_inj, hd, hc]
          rfl
        have q' : eqD false (.str (S' ((t.drop (i + j)).take 1))) (.str (Str.ofString "*")) s = .ok (.bl true) s := by rw [q]; simp [eq]
        have hr : t.drop (i + (j + 1)) = r := drop_succ hd
        have := ih (j + 1) (by rw [hr]; omega)
        have e1 : ((j + 1 : Nat) : Int) = (j : Int) + 1 := by omega
        have e2 : j + 1 + n = j + (n + 1) := by omega
        rw [e1, e2] at this
        simp only [tVal, DE.e2, eCut, eVar, oSome, eC, R.bind_ok, List.getElem?_cons_zero, List.getElem?_cons_succ, addD_int, c1, q', R.bindS_ok, if_true, sSet, List.set_cons_succ, List.set_cons_zero, loopB_next]
        exact this
      · rw [if_neg hc] at hn
        omega
theorem ev_stars (k : Nat) (t : List Nat) (h : okT t) (s : Store) (i : Nat) : fns (k + 1) i_stars_at [.str (S' t), .int i] s = .ok (.int (stars (t.drop i))) s := by
  rw [e_stars_at]
  have := ev_stars_loop t h s i (stars (t.drop i)) 0 rfl
  simp only [Nat.zero_add] at this
  refine body_ret (seq_ret (env1 := [some (.str (S' t)), some (.int i), some (.int ((0 : Nat) : Int))]) (s1 := s) rfl (seq_ret (s1 := s) this ?_))
  simp [bodyF, env0, sSeq, sSet, sIf, sRet, sRetN, sExpr, sPass, sRaise, sBad, eVar, eC, eTup, eLst, aCons, aNil, eCall, ar, DE.e2, eAnd, eOr, eNot, eIf, eNeg, tVal, tAndM, tOrM, tNotM, tYesM, eChain, isiD, tyOf, isTy, eM1, oNone, oSome, eCut, R.bind_ok, R.bind_exc, R.bindS_ok, R.bindS_exc, RS.bind_next, RS.bind_ret, RS.bind_exc, LINE, ofS_inj, ofS_ok, eqD_int, eqD_ss, inD3_ss, inD2_ss]
def plainA (l : List Nat) (t : List Nat) : Option (Md × Nat) :=
  if t.take 2 = [40, 41] then some ((.emp, 1), 2) else if t.take 2 = [91, 93] then some ((.non, 1), 2) else match t with
  | [] => none
  | c :: _ => if c ∈ l then some ((.sg c, 1), 1) else none
theorem ev_plain_atom (k : Nat) (l : Str) (t : List Nat) (h : okT t) (s : Store) (i c : Nat) (r : List Nat) (hd : t.drop i = c :: r) :
    Out (fns (k + 2) i_plain_atom [.str l, .str (S' t), .int i] s) (plainA l.cps.toList (t.drop i)) fun x d s' => d = .tup [mD x.1, .int ((i + x.2 : Nat) : Int)] ∧ s' = s := by
  rw [e_plain_atom]
  have hl : t.length ≤ 1000 := by have := h.1; omega
  have c1 : cutD (.str (S' t)) (some (i : Int)) (some ((i : Int) + 2)) s = .ok (.str (S' ((t.drop i).take 2))) s := cut_txt t i 2 s hl
  have q1 := eqD_str false (S' ((t.drop i).take 2)) (Str.ofString "()") s (h.drop _ _) (ofS_ok _)
  have q2 := eqD_str false (S' ((t.drop i).take 2)) (Str.ofString "[]") s (h.drop _ _) (ofS_ok _)
  have x1 := ix_txt t i c r s hl hd
  have n1 := ev_need k true s
  have n2 := ev_need k false s
  simp only [if_true, if_false] at n1 n2
  have w1 : (S' ((t.drop i).take 2) = Str.ofString "()") ↔ (t.drop i).take 2 = [40, 41] := by rw [lit_emp, S'_inj]
  have w2 : (S' ((t.drop i).take 2) = Str.ofString "[]") ↔ (t.drop i).take 2 = [91, 93] := by rw [lit_none, S'_inj]
  unfold plainA
  by_cases g1 : (t.drop i).take 2 = [40, 41]
  · rw [if_pos g1]
    have q1' : eqD false (.str (S' ((t.drop i).take 2))) (.str (Str.ofString "()")) s = .ok (.bl true) s := by rw [q1, decide_eq_true (w1.mpr g1)]; rfl
    have em := ev_made (k := k) (ms := (aCons (eVar 4) (aCons (eC (.int 1)) aNil))) (env := [some (.str l), some (.str (S' t)), some (.int i), some (.str (Str.ofString "()")), some (.tup [.str (Str.ofString "empty")])]) (s := s) (s1 := s) (p := .emp) (n := 1) (by simp [bodyF, env0, sSeq, sSet, sIf, sRet, sRetN, sExpr, sPass, sRaise, sBad, eVar, eC, eTup, eLst, aCons, aNil, eCall, ar, DE.e2, eAnd, eOr, eNot, eIf, eNeg, tVal, tAndM, tOrM, tNotM, tYesM, eChain, isiD, tyOf, isTy, eM1, oNone, oSome, eCut, R.bind_ok, R.bind_exc, R.bindS_ok, R.bindS_exc, RS.bind_next, RS.bind_ret, RS.bind_exc, LINE, ofS_inj, ofS_ok, eqD_int, eqD_ss, inD3_ss, inD2_ss, toD])
    refine ⟨_, s, ?_, rfl, rfl⟩
    simp [m_plain_atom, bodyF, env0, sSeq, sSet, sIf, sRet, sRetN, sExpr, sPass, sRaise, sBad, eVar, eC, eTup, eLst, aCons, aNil, eCall, ar, DE.e2, eAnd, eOr, eNot, eIf, eNeg, tVal, tAndM, tOrM, tNotM, tYesM, eChain, isiD, tyOf, isTy, eM1, oNone, oSome, eCut, R.bind_ok, R.bind_exc, R.bindS_ok, R.bindS_exc, RS.bind_next, RS.bind_ret, RS.bind_exc, LINE, ofS_inj, ofS_ok, eqD_int, eqD_ss, inD3_ss, inD2_ss, sFor, itV', forD, gTupD, gMore, gVar, gNone, c1, q1', em, addD_int, mD]
  · rw [if_neg g1]
    have q1' : eqD false (.str (S' ((t.drop i).take 2))) (.str (Str.ofString "()")) s = .ok (.bl false) s := by rw [q1]; simp [w1, g1]
    by_cases g2 : (t.drop i).take 2 = [91, 93]
    · rw [if_pos g2]
      have q2' : eqD false (.str (S' ((t.drop i).take 2))) (.str (Str.ofString "[]")) s = .ok (.bl true) s := by rw [q2, decide_eq_true (w2.mpr g2)]; rfl
      have em := ev_made (k := k) (ms := (aCons (eVar 4) (aCons (eC (.int 1)) aNil))) (env := [some (.str l), some (.str (S' t)), some (.int i), some (.str (Str.ofString "[]")), some (.tup [.str (Str.ofString "none")])]) (s := s) (s1 := s) (p := .non) (n := 1) (by simp [bodyF, env0, sSeq, sSet, sIf, sRet, sRetN, sExpr, sPass, sRaise, sBad, eVar, eC, eTup, eLst, aCons, aNil, eCall, ar, DE.e2, eAnd, eOr, eNot, eIf, eNeg, tVal, tAndM, tOrM, tNotM, tYesM, eChain, isiD, tyOf, isTy, eM1, oNone, oSome, eCut, R.bind_ok, R.bind_exc, R.bindS_ok, R.bindS_exc, RS.bind_next, RS.bind_ret, RS.bind_exc, LINE, ofS_inj, ofS_ok, eqD_int, eqD_ss, inD3_ss, inD2_ss, toD])
      refine ⟨_, s, ?_, rfl, rfl⟩
      simp [m_plain_atom, bodyF, env0, sSeq, sSet, sIf, sRet, sRetN, sExpr, sPass, sRaise, sBad, eVar, eC, eTup, eLst, aCons, aNil, eCall, ar, DE.e2, eAnd, eOr, eNot, eIf, eNeg, tVal, tAndM, tOrM, tNotM, tYesM, eChain, isiD, tyOf, isTy, eM1, oNone, oSome, eCut, R.bind_ok, R.bind_exc, R.bindS_ok, R.bindS_exc, RS.bind_next, RS.bind_ret, RS.bind_exc, LINE, ofS_inj, ofS_ok, eqD_int, eqD_ss, inD3_ss, inD2_ss, sFor, itV', forD, gTupD, gMore, gVar, gNone, c1, q1', q2', em, addD_int, mD]
    · rw [if_neg g2]
      have q2' : eqD false (.str (S' ((t.drop i).take 2))) (.str (Str.ofString "[]")) s = .ok (.bl false) s := by rw [q2]; simp [w2, g2]
      have i1 : inD false (.str (S' [c])) (.str l) s = .ok (.bl (decide (c ∈ l.cps.toList))) s := by
        simp [inD, S']
      by_cases g3 : c ∈ l.cps.toList
      · rw [decide_eq_true g3] at i1
        rw [hd]
        simp only
        rw [if_pos g3]
        have em := ev_made (k := k) (ms := (aCons (eTup (aCons (eC (.str "sign")) (aCons (DE.e2 ixD (eVar 1) (eVar 2)) aNil))) (aCons (eC (.int 1)) aNil))) (env := [some (.str l), some (.str (S' t)), some (.int i), some (.str (Str.ofString "[]")), some (.tup [.str (Str.ofString "none")])]) (s := s) (s1 := s) (p := .sg c) (n := 1) (by simp [bodyF, env0, sSeq, sSet, sIf, sRet, sRetN, sExpr, sPass, sRaise, sBad, eVar, eC, eTup, eLst, aCons, aNil, eCall, ar, DE.e2, eAnd, eOr, eNot, eIf, eNeg, tVal, tAndM, tOrM, tNotM, tYesM, eChain, isiD, tyOf, isTy, eM1, oNone, oSome, eCut, R.bind_ok, R.bind_exc, R.bindS_ok, R.bindS_exc, RS.bind_next, RS.bind_ret, RS.bind_exc, LINE, ofS_inj, ofS_ok, eqD_int, eqD_ss, inD3_ss, inD2_ss, toD, x1]; rfl)
        refine ⟨_, s, ?_, rfl, rfl⟩
        simp [m_plain_atom, bodyF, env0, sSeq, sSet, sIf, sRet, sRetN, sExpr, sPass, sRaise, sBad, eVar, eC, eTup, eLst, aCons, aNil, eCall, ar, DE.e2, eAnd, eOr, eNot, eIf, eNeg, tVal, tAndM, tOrM, tNotM, tYesM, eChain, isiD, tyOf, isTy, eM1, oNone, oSome, eCut, R.bind_ok, R.bind_exc, R.bindS_ok, R.bindS_exc, RS.bind_next, RS.bind_ret, RS.bind_exc, LINE, ofS_inj, ofS_ok, eqD_int, eqD_ss, inD3_ss, inD2_ss, sFor, itV', forD, gTupD, gMore, gVar, gNone, c1, q1', q2', x1, i1, n1, em, addD_int, mD]
      · rw [decide_eq_false g3] at i1
        rw [hd]
        simp only
        rw [if_neg g3]
        refine ⟨s, ?_⟩
        simp [m_plain_atom, bodyF, env0, sSeq, sSet, sIf, sRet, sRetN, sExpr, sPass, sRaise, sBad, eVar, eC, eTup, eLst, aCons, aNil, eCall, ar, DE.e2, eAnd, eOr, eNot, eIf, eNeg, tVal, tAndM, tOrM, tNotM, tYesM, eChain, isiD, tyOf, isTy, eM1, oNone, oSome, eCut, R.bind_ok, R.bind_exc, R.bindS_ok, R.bindS_exc, RS.bind_next, RS.bind_ret, RS.bind_exc, LINE, ofS_inj, ofS_ok, eqD_int, eqD_ss, inD3_ss, inD2_ss, sFor, itV', forD, gTupD, gMore, gVar, gNone, c1, q1', q2', x1, i1, n2, addD_int]
end G
/-! K2F: the parser's stack: one turn of its loop is one step in plain terms -/
namespace G
open PySem PySem.Spec PyProof.Rows L2 DE PySem.StrLaws
def stepB (l : List Nat) (b : Br) (st : List Br) (t : List Nat) : Option (Br × List Br × Nat) := match t with
  | [] => none
  | c :: r =>
    if c = 124 ∨ c = 38 ∨ c = 33 then (markB b c).map fun b' => (b', st, 1)
    else if c = 40 ∧ ¬ (c :: r).take 2 = [40, 41] then some (br0, b :: st, 1)
    else if c = 41 then match st with
      | [] => none
      | b1 :: st1 => (closeB b).map fun m => (putB b1 m (stars r), st1, 1 + stars r)
    else (plainA l (c :: r)).map fun x => (putB b x.1 (stars ((c :: r).drop x.2)), st, x.2 + stars ((c :: r).drop x.2))
def Brs (s : Store) : List Ad → List Br → Prop
  | [], [] => True
  | a :: as, b :: bs => BrAt s a b ∧ Brs s as bs
  | _, _ => False
def idl (as : List Ad) : List Nat := as.flatMap Ad.ids
theorem idl_cons (a : Ad) (as : List Ad) : idl (a :: as) = a.ids ++ idl as := rfl
theorem Brs.keep {s s' : Store} : ∀ {as : List Ad} {bs : List Br}, Brs s as bs → (∀ i ∈ idl as, s'[i]? = s[i]?) → Brs s' as bs
  | [], [], _, _ => trivial
  | a :: as, b :: bs, h, k => by
    rw [idl_cons] at k
    have k1 : ∀ i ∈ a.ids, s'[i]? = s[i]? := fun i hi => k i (List.mem_append_left _ hi)
    refine ⟨⟨?_, ?_, ?_, ?_⟩, Brs.keep h.2 fun i hi => k i (List.mem_append_right _ hi)⟩
    · rw [k1 a.q (by simp [Ad.ids])]; exact h.1.q
    · rw [k1 a.x (by simp [Ad.ids])]; exact h.1.x
    · rw [k1 a.y (by simp [Ad.ids])]; exact h.1.y
    · rw [k1 a.z (by simp [Ad.ids])]; exact h.1.z
  | [], _ :: _, h, _ => h.elim
  | _ :: _, [], h, _ => h.elim
theorem Brs.lt {s : Store} : ∀ {as : List Ad} {bs : List Br}, Brs s as bs → ∀ i ∈ idl as, i < s.length
  | [], [], _, i, hi => by simp [idl] at hi
  | a :: as, b :: bs, h, i, hi => by
    rw [idl_cons] at hi
    rcases List.mem_append.mp hi with hi | hi
    · exact h.1.lt i hi
    · exact Brs.lt h.2 i hi
  | [], _ :: _, h, _, _ => h.elim
  | _ :: _, [], h, _, _ => h.elim
theorem Brs.length {s : Store} : ∀ {as : List Ad} {bs : List Br}, Brs s as bs → as.length = bs.length
  | [], [], _ => rfl
  | a :: as, b :: bs, h => by simp [Brs.length h.2]
  | [], _ :: _, h => h.elim
  | _ :: _, [], h => h.elim
def refs (as : List Ad) : List D := as.reverse.map fun a => D.ref a.q
theorem refs_cons (a : Ad) (as : List Ad) : refs (a :: as) = refs as ++ [D.ref a.q] := by simp [refs]
theorem refs_len (as : List Ad) : (refs as).length = as.length := by simp [refs]
structure MS (s : Store) (o : Nat) (as : List Ad) (bs : List Br) : Prop where
  top : s[o]? = some (.lst (refs as))
  br : Brs s as bs
  nd : (o :: idl as).Nodup
section
variable {s s' : Store} {o : Nat} {a a' : Ad} {as : List Ad} {b b' : Br} {bs : List Br}
theorem MS.nds (h : MS s o (a :: as) bs) : a.ids.Nodup ∧ (o :: idl as).Nodup ∧ ∀ i ∈ a.ids, i ∉ o :: idl as := by
  have h1 := h.nd
  rw [idl_cons, List.nodup_cons, List.nodup_append] at h1
  obtain ⟨h1, h2, h3, h4⟩ := h1
  simp only [List.mem_append, not_or] at h1
  refine ⟨h2, List.nodup_cons.mpr ⟨h1.2, h3⟩, fun i hi q => ?_⟩
  rcases List.mem_cons.mp q with rfl | q
  · exact h1.1 hi
  · exact h4 i hi i q rfl
theorem MS.other (h : MS s o as bs) (u : Upd s a s' a' b') (hd : ∀ i ∈ a.ids, i ∉ o :: idl as) : MS s' o as bs where
  top := by
    rw [u.keep o (lt_of_get h.top) fun q => hd o q List.mem_cons_self]
    exact h.top
  br := h.br.keep fun i hi => u.keep i (h.br.lt i hi) fun q => hd i q (List.mem_cons_of_mem _ hi)
  nd := h.nd
theorem MS.upd (h : MS s o (a :: as) (b :: bs)) (u : Upd s a s' a' b') : MS s' o (a' :: as) (b' :: bs) := by
  have ⟨n1, n2, n3⟩ := h.nds
  have hb := h.br.2
  refine ⟨?_, ⟨u.here, hb.keep fun i hi => u.keep i (hb.lt i hi) fun q => n3 i q (List.mem_cons_of_mem _ hi)⟩, ?_⟩
  · rw [u.keep o (lt_of_get h.top) fun q => n3 o q List.mem_cons_self, h.top, refs_cons, refs_cons, u.q]
  · have n2' := List.nodup_cons.mp n2
    have out : ∀ i ∈ a'.ids, i ∉ o :: idl as := fun i hi q => by
      rcases u.fr i hi with w | w
      · exact n3 i w q
      · rcases List.mem_cons.mp q with rfl | q
        · have := lt_of_get h.top; omega
        · have := hb.lt i q; omega
    rw [idl_cons, List.nodup_cons, List.nodup_append]
    refine ⟨?_, u.nd, n2'.2, fun i hi j hj e => ?_⟩
    · rw [List.mem_append, not_or]
      exact ⟨fun q => out o q List.mem_cons_self, n2'.1⟩
    · subst e
      exact out i hi (List.mem_cons_of_mem _ hj)
theorem MS.pop (h : MS s o (a :: as) (b :: bs)) : MS (s.set o (.lst (refs as))) o as bs ∧ BrAt (s.set o (.lst (refs as))) a b ∧ a.ids.Nodup ∧ ∀ i ∈ a.ids, i ∉ o :: idl as := by
  have ⟨n1, n2, n3⟩ := h.nds
  have ho := lt_of_get h.top
  have n2' := List.nodup_cons.mp n2
  refine ⟨⟨get_set_eq ho, h.br.2.keep fun i hi => get_set_ne fun e => n2'.1 (e ▸ hi), n2⟩, ?_, n1, n3⟩
  have k : ∀ i ∈ a.ids, (s.set o (.lst (refs as)))[i]? = s[i]? := fun i hi => get_set_ne fun e => n3 i hi (by rw [e]; exact List.mem_cons_self)
  exact ⟨by rw [k a.q (by simp [Ad.ids])]; exact h.br.1.q, by rw [k a.x (by simp [Ad.ids])]; exact h.br.1.x, by rw [k a.y (by simp [Ad.ids])]; exact h.br.1.y, by rw [k a.z (by simp [Ad.ids])]; exact h.br.1.z⟩
abbrev opened (n : Nat) : Store := [.ins 7 FS [.ref (n + 1), .ref (n + 2), .ref (n + 3), .int 0], .lst [], .lst [], .lst []]
abbrev newA (n : Nat) : Ad := ⟨n, n + 1, n + 2, n + 3⟩
theorem newA_at (s t : Store) : BrAt (s ++ opened s.length ++ t) (newA s.length) br0 := by
  refine ⟨?_, ?_, ?_, ?_⟩
  · simp [insB, br0]
  · show (s ++ opened s.length ++ t)[s.length + 1]? = _
    rw [List.append_assoc, List.getElem?_append_right (by omega)]
    simp [br0, lstM]
  · show (s ++ opened s.length ++ t)[s.length + 2]? = _
    rw [List.append_assoc, List.getElem?_append_right (by omega)]
    simp [br0, lstM]
  · show (s ++ opened s.length ++ t)[s.length + 3]? = _
    rw [List.append_assoc, List.getElem?_append_right (by omega)]
    simp [br0, lstM]
theorem newA_nd (n : Nat) : (newA n).ids.Nodup := by simp [Ad.ids]
theorem MS.push (h : MS s o as bs) : MS ((s ++ opened s.length).set o (.lst (refs as ++ [.ref s.length]))) o (newA s.length :: as) (br0 :: bs) := by
  have ho := lt_of_get h.top
  have n2' := List.nodup_cons.mp h.nd
  have hn : ∀ i ∈ (newA s.length).ids, s.length ≤ i := fun i hi => by
    simp only [Ad.ids, List.mem_cons, List.not_mem_nil, or_false] at hi
    omega
  refine ⟨?_, ⟨?_, ?_⟩, ?_⟩
  · rw [get_set_eq (by rw [List.length_append]; omega), refs_cons]
  · have h0 := newA_at s []
    rw [List.append_nil] at h0
    have k : ∀ i ∈ (newA s.length).ids, ((s ++ opened s.length).set o (.lst (refs as ++ [.ref s.length])))[i]? = (s ++ opened s.length)[i]? := fun i hi => get_set_ne fun e => by
      have := hn i hi
      omega
    exact ⟨by rw [k _ (by simp [Ad.ids])]; exact h0.q, by rw [k _ (by simp [Ad.ids])]; exact h0.x, by rw [k _ (by simp [Ad.ids])]; exact h0.y, by rw [k _ (by simp [Ad.ids])]; exact h0.z⟩
  · exact h.br.keep fun i hi => by
      have hne : i ≠ o := fun e => n2'.1 (by rw [← e]; exact hi)
      rw [get_set_ne hne, get_app (h.br.lt i hi)]
  · rw [idl_cons, List.nodup_cons, List.nodup_append]
    refine ⟨?_, newA_nd _, n2'.2, fun i hi j hj e => ?_⟩
    · rw [List.mem_append, not_or]
      exact ⟨fun q => by have := hn o q; omega, n2'.1⟩
    · have := hn i hi
      have := h.br.lt j hj
      omega
theorem ev_open (k : Nat) (env : DE.Env) (s : Store) : eMakeL 7 1 (fns (k + 1) i_Open___init__) aNil env s = .ok (.ref s.length) (s ++ opened s.length) := by
  unfold eMakeL
  simp only [aNil, R.bind_ok]
  rw [if_pos (show ([] : List D).length + 1 = 1 from rfl), e_Open___init__]
  simp [m_Open___init__, bodyF, env0, sSeq, sSet, sIf, sRet, sRetN, sExpr, sPass, sRaise, sBad, eVar, eC, eTup, eLst, aCons, aNil, eCall, ar, DE.e2, eAnd, eOr, eNot, eIf, eNeg, tVal, tAndM, tOrM, tNotM, tYesM, eChain, isiD, tyOf, isTy, eM1, oNone, oSome, eCut, R.bind_ok, R.bind_exc, R.bindS_ok, R.bindS_exc, RS.bind_next, RS.bind_ret, RS.bind_exc, LINE, ofS_inj, ofS_ok, eqD_int, eqD_ss, inD3_ss, inD2_ss, DE.sFld, setFD, eNew, setF, ofS_inj, FS]
theorem ix_top (h : MS s o (a :: as) bs) : ixD (.ref o) (.int (-1)) s = .ok (.ref a.q) s := by
  have e : atI (refs (a :: as)) (-1) = some (.ref a.q) := by
    rw [refs_cons]
    unfold atI ixN
    rw [if_neg (by decide), if_pos (by simp; omega)]
    show (refs as ++ [D.ref a.q])[(-1 + ((refs as ++ [D.ref a.q]).length : Int)).toNat]? = _
    have e1 : (-1 + ((refs as ++ [D.ref a.q]).length : Int)).toNat = (refs as).length := by
      rw [List.length_append, List.length_singleton]
      omega
    rw [e1]
    simp
  simp [ixD, rdS, h.top, e]
theorem len_top (h : MS s o as bs) : lenD [.ref o] s = .ok (.int as.length) s := by
  rw [lenD_ref h.top, refs_len]
theorem isLst_top (h : MS s o as bs) : isLst s (.ref o) = true := by simp [isLst, h.top]
theorem pop_top (h : MS s o (a :: as) bs) : popD (.ref o) s = .ok (.ref a.q) (s.set o (.lst (refs as))) := by
  have e : (refs (a :: as))[(refs (a :: as)).length - 1]? = some (.ref a.q) := by
    rw [refs_cons]
    simp
  have e2 : (refs (a :: as)).dropLast = refs as := by rw [refs_cons]; simp
  simp only [popD, h.top, e, e2]
end
noncomputable def tailS (call : Nat → Fn) : DE.SM :=
  (sSeq (sSet 4 (eCall (ar 2 (call i_stars_at)) (aCons (eVar 1) (aCons (eVar 3) aNil))))
  (sSeq (sExpr (eCall (ar 3 (call i_put)) (aCons (DE.e2 ixD (eVar 2) (eNeg (eC (.int 1)))) (aCons (eVar 5) (aCons (eVar 4) aNil)))))
  (sSet 3 (DE.e2 addD (eVar 3) (eVar 4)))))
theorem ev_tail (k : Nat) (l : Str) (t : List Nat) (ht : okT t) (s : Store) (o : Nat) (a : Ad) (as : List Ad) (b : Br) (bs : List Br) (i : Nat) (x : Option D) (m : Md) (h : MS s o (a :: as) (b :: bs)) (hc : b.cnt ≤ 900) :
    ∃ s' y, tailS (fns (k + 5)) [some (.str l), some (.str (S' t)), some (.ref o), some (.int i), x, some (mD m)] s = .next [some (.str l), some (.str (S' t)), some (.ref o), some (.int ((i + stars (t.drop i) : Nat) : Int)), y, some (mD m)] s' ∧
      MS s' o (a :: as) (putB b m (stars (t.drop i)) :: bs) := by
  have e1 := ev_stars (k + 4) t ht s i
  have hs : stars (t.drop i) ≤ 900 := by
    have := stars_le (t.drop i)
    have := ht.1
    rw [List.length_drop] at *
    omega
  obtain ⟨s', e2, u⟩ := ev_put (k + 3) s a b m (stars (t.drop i)) h.br.1 h.nds.1 hc hs
  have e3 := ix_top h
  refine ⟨s', some (.int (stars (t.drop i))), ?_, h.upd u⟩
  generalize fns (k + 5) = call at *
  simp [tailS, bodyF, env0, sSeq, sSet, sIf, sRet, sRetN, sExpr, sPass, sRaise, sBad, eVar, eC, eTup, eLst, aCons, aNil, eCall, ar, DE.e2, eAnd, eOr, eNot, eIf, eNeg, tVal, tAndM, tOrM, tNotM, tYesM, eChain, isiD, tyOf, isTy, eM1, oNone, oSome, eCut, R.bind_ok, R.bind_exc, R.bindS_ok, R.bindS_exc, RS.bind_next, RS.bind_ret, RS.bind_exc, LINE, ofS_inj, ofS_ok, eqD_int, eqD_ss, inD3_ss, inD2_ss, e1, e2, e3, addD_int]
noncomputable def loopC : DE.TM := tVal (DE.e2 ltD (eVar 3) (eCall lenD (aCons (eVar 1) aNil)))
noncomputable def atomS (call : Nat → Fn) : DE.SM :=
  (sIf (tVal (DE.e2 (eqD false) (DE.e2 ixD (eVar 1) (eVar 3)) (eC (.str ")"))))
  (sSeq (sExpr (eCall (ar 1 (call i_need)) (aCons (DE.e2 gtD (eCall lenD (aCons (eVar 2) aNil)) (eC (.int 1))) aNil)))
  (sPar 5 3 (aCons (eCall (ar 1 (call i_closed)) (aCons (eLM0 popD (eVar 2)) aNil)) (aCons (DE.e2 addD (eVar 3) (eC (.int 1))) aNil))))
  (sAsg (eCall (ar 3 (call i_plain_atom)) (aCons (eVar 0) (aCons (eVar 1) (aCons (eVar 3) aNil)))) (gTupD 2 (gMore (gVar 5) (gMore (gVar 3) gNone)))))
noncomputable def loopS (call : Nat → Fn) : DE.SM :=
  (sIf (tVal (DE.e2 (inD false) (DE.e2 ixD (eVar 1) (eVar 3)) (eC (.str "|&!"))))
  (sSeq (sExpr (eCall (ar 2 (call i_marked)) (aCons (DE.e2 ixD (eVar 2) (eNeg (eC (.int 1)))) (aCons (DE.e2 ixD (eVar 1) (eVar 3)) aNil))))
  (sSet 3 (DE.e2 addD (eVar 3) (eC (.int 1)))))
  (sIf (tAndM (tVal (DE.e2 (eqD false) (DE.e2 ixD (eVar 1) (eVar 3)) (eC (.str "(")))) (tVal (DE.e2 (eqD true) (eCut (eVar 1) (oSome (eVar 3)) (oSome (DE.e2 addD (eVar 3) (eC (.int 2))))) (eC (.str "()")))))
  (sSeq (sExpr (eLM apD (eVar 2) (eMakeL 7 1 (call i_Open___init__) aNil)))
  (sSet 3 (DE.e2 addD (eVar 3) (eC (.int 1)))))
  (sSeq (atomS call) (tailS call))))
theorem m_read_all_eq (call : Nat → Fn) : m_read_all call = (sSeq (sSet 2 (eNew (aCons (eMakeL 7 1 (call i_Open___init__) aNil) aNil)))
  (sSeq (sSet 3 (eC (.int 0)))
  (sSeq (sWhile loopC (loopS call))
  (sSeq (sExpr (eCall (ar 1 (call i_need)) (aCons (DE.e2 (eqD false) (eCall lenD (aCons (eVar 2) aNil)) (eC (.int 1))) aNil)))
  (sRet (eCall (ar 1 (call i_closed)) (aCons (DE.e2 ixD (eVar 2) (eC (.int 0))) aNil))))))) := rfl
theorem lit_marks : Str.ofString "|&!" = S' [124, 38, 33] := by decide +kernel
abbrev lenv (l : Str) (t : List Nat) (o i : Nat) (x y : Option D) : DE.Env := [some (.str l), some (.str (S' t)), some (.ref o), some (.int (i : Int)), x, y]
section
variable (k : Nat) (l : Str) (t : List Nat) (ht : okT t) (s : Store) (o : Nat) (a : Ad) (as : List Ad) (b : Br) (bs : List Br) (i : Nat) (x y : Option D) (h : MS s o (a :: as) (b :: bs)) (hc : ∀ b' ∈ b :: bs, b'.cnt ≤ 900) (c : Nat) (r : List Nat) (hd : t.drop i = c :: r)
include ht h hc hd
theorem turn_mark (g : c = 124 ∨ c = 38 ∨ c = 33) : match markB b c with
    | some b' => ∃ s' a' x' y', loopS (fns (k + 5)) (lenv l t o i x y) s = .next (lenv l t o (i + 1) x' y') s' ∧ MS s' o (a' :: as) (b' :: bs)
    | none => ∃ s', loopS (fns (k + 5)) (lenv l t o i x y) s = .exc 4 s' := by
  have hl : t.length ≤ 1000 := by have := ht.1; omega
  have hb : c < 0x110000 := by rcases g with rfl | rfl | rfl <;> decide
  have x1 := ix_txt t i c r s hl hd
  have i1 : inD false (.str (S' [c])) (.str (Str.ofString "|&!")) s = .ok (.bl true) s := by
    rw [lit_marks]
    simp [inD, S', g]
  have x2 := ix_top h
  have hm := ev_marked k s a b c h.br.1 h.nds.1 (hc b List.mem_cons_self) hb
  generalize fns (k + 5) = call at *
  cases e : markB b c with
  | none =>
    rw [e] at hm
    obtain ⟨s', e1⟩ := hm
    refine ⟨s', ?_⟩
    simp [loopS, bodyF, env0, sSeq, sSet, sIf, sRet, sRetN, sExpr, sPass, sRaise, sBad, eVar, eC, eTup, eLst, aCons, aNil, eCall, ar, DE.e2, eAnd, eOr, eNot, eIf, eNeg, tVal, tAndM, tOrM, tNotM, tYesM, eChain, isiD, tyOf, isTy, eM1, oNone, oSome, eCut, R.bind_ok, R.bind_exc, R.bindS_ok, R.bindS_exc, RS.bind_next, RS.bind_ret, RS.bind_exc, LINE, ofS_inj, ofS_ok, eqD_int, eqD_ss, inD3_ss, inD2_ss, x1, i1, x2, e1]
  | some b' =>
    rw [e] at hm
    obtain ⟨d, s', e1, rfl, a', u⟩ := hm
    refine ⟨s', a', x, y, ?_, h.upd u⟩
    simp [loopS, bodyF, env0, sSeq, sSet, sIf, sRet, sRetN, sExpr, sPass, sRaise, sBad, eVar, eC, eTup, eLst, aCons, aNil, eCall, ar, DE.e2, eAnd, eOr, eNot, eIf, eNeg, tVal, tAndM, tOrM, tNotM, tYesM, eChain, isiD, tyOf, isTy, eM1, oNone, oSome, eCut, R.bind_ok, R.bind_exc, R.bindS_ok, R.bindS_exc, RS.bind_next, RS.bind_ret, RS.bind_exc, LINE, ofS_inj, ofS_ok, eqD_int, eqD_ss, inD3_ss, inD2_ss, x1, i1, x2, e1, addD_int]
theorem turn_open (g : ¬ (c = 124 ∨ c = 38 ∨ c = 33)) (g2 : c = 40 ∧ ¬ (c :: r).take 2 = [40, 41]) (hn : as.length ≤ 900) : ∃ s' a' x' y', loopS (fns (k + 5)) (lenv l t o i x y) s = .next (lenv l t o (i + 1) x' y') s' ∧ MS s' o (a' :: a :: as) (br0 :: b :: bs) := by
  have hl : t.length ≤ 1000 := by have := ht.1; omega
  have x1 := ix_txt t i c r s hl hd
  have i1 : inD false (.str (S' [c])) (.str (Str.ofString "|&!")) s = .ok (.bl false) s := by
    rw [lit_marks]
    simp only [not_or] at g
    simp [inD, S', g]
  have q1 : eqD false (.str (S' [c])) (.str (Str.ofString "(")) s = .ok (.bl true) s := by
    rw [eqD_str false _ _ s (ok_sg (by rw [g2.1]; decide)) (ofS_ok _), lit_lp]
    simp [lit_sg, g2.1]
  have c1 : cutD (.str (S' t)) (some (i : Int)) (some ((i : Int) + 2)) s = .ok (.str (S' ((t.drop i).take 2))) s := cut_txt t i 2 s hl
  have q2 : eqD true (.str (S' ((t.drop i).take 2))) (.str (Str.ofString "()")) s = .ok (.bl true) s := by
    rw [eqD_str true _ _ s (ht.drop _ _) (ofS_ok _), decide_eq_false (by rw [lit_emp, hd, S'_inj]; exact g2.2)]
    rfl
  have ho := ev_open (k + 4) (lenv l t o i x y) s
  have ap : apD (.ref o) (.ref s.length) (s ++ opened s.length) = .ok .non ((s ++ opened s.length).set o (.lst (refs (a :: as) ++ [.ref s.length]))) := by
    have : (s ++ opened s.length)[o]? = some (.lst (refs (a :: as))) := by rw [get_app (lt_of_get h.top)]; exact h.top
    simp only [apD, this, refs_len]
    rw [if_pos (Nat.lt_of_le_of_lt (show (a :: as).length ≤ 901 by simp; omega) (by decide))]
  have il := isLst_top h
  have hp := h.push
  generalize fns (k + 5) = call at *
  refine ⟨_, _, x, y, ?_, hp⟩
  simp [loopS, bodyF, env0, sSeq, sSet, sIf, sRet, sRetN, sExpr, sPass, sRaise, sBad, eVar, eC, eTup, eLst, aCons, aNil, eCall, ar, DE.e2, eAnd, eOr, eNot, eIf, eNeg, tVal, tAndM, tOrM, tNotM, tYesM, eChain, isiD, tyOf, isTy, eM1, oNone, oSome, eCut, R.bind_ok, R.bind_exc, R.bindS_ok, R.bindS_exc, RS.bind_next, RS.bind_ret, RS.bind_exc, LINE, ofS_inj, ofS_ok, eqD_int, eqD_ss, inD3_ss, inD2_ss, x1, i1, q1, c1, q2, eLM, il, ho, ap, addD_int]
theorem not_rest (g : ¬ (c = 124 ∨ c = 38 ∨ c = 33)) (g2 : ¬ (c = 40 ∧ ¬ (c :: r).take 2 = [40, 41])) (call : Nat → Fn) : loopS call (lenv l t o i x y) s = sSeq (atomS call) (tailS call) (lenv l t o i x y) s := by
  have hl : t.length ≤ 1000 := by have := ht.1; omega
  have x1 := ix_txt t i c r s hl hd
  have i1 : inD false (.str (S' [c])) (.str (Str.ofString "|&!")) s = .ok (.bl false) s := by
    rw [lit_marks]
    simp only [not_or] at g
    simp [inD, S', g]
  have hb : c < 0x110000 := ht.2 c (List.mem_of_mem_drop (by rw [hd]; exact List.mem_cons_self))
  have q1 : eqD false (.str (S' [c])) (.str (Str.ofString "(")) s = .ok (.bl (decide (c = 40))) s := by
    rw [eqD_str false _ _ s (ok_sg hb) (ofS_ok _), lit_lp]
    simp [lit_sg]
  have c1 : cutD (.str (S' t)) (some (i : Int)) (some ((i : Int) + 2)) s = .ok (.str (S' ((t.drop i).take 2))) s := cut_txt t i 2 s hl
  have q2 : eqD true (.str (S' ((t.drop i).take 2))) (.str (Str.ofString "()")) s = .ok (.bl (!decide ((c :: r).take 2 = [40, 41]))) s := by
    rw [eqD_str true _ _ s (ht.drop _ _) (ofS_ok _), lit_emp, hd]
    simp [S'_inj]
  unfold loopS
  generalize sSeq (atomS call) (tailS call) = RR at *
  by_cases h40 : c = 40
  · have h41 : (c :: r).take 2 = [40, 41] := Classical.byContradiction fun q => g2 ⟨h40, q⟩
    rw [decide_eq_true h41] at q2
    rw [decide_eq_true h40] at q1
    simp only [sIf, tVal, DE.e2, eVar, eC, R.bind_ok, List.getElem?_cons_zero, List.getElem?_cons_succ, x1, i1, R.bindS_ok, Bool.false_eq_true, if_false, tAndM, q1, if_true, eCut, oSome, addD_int, c1, q2, Bool.not_true]
  · rw [decide_eq_false h40] at q1
    simp only [sIf, tVal, DE.e2, eVar, eC, R.bind_ok, List.getElem?_cons_zero, List.getElem?_cons_succ, x1, i1, R.bindS_ok, Bool.false_eq_true, if_false, tAndM, q1]
theorem turn_close0 (g : c = 41) (hb : bs = []) : ∃ s', loopS (fns (k + 5)) (lenv l t o i x y) s = .exc 4 s' := by
  subst hb
  rw [not_rest l t ht s o a as b [] i x y h hc c r hd (by rw [g]; decide) (by rintro ⟨w, _⟩; omega)]
  have hl : t.length ≤ 1000 := by have := ht.1; omega
  have x1 := ix_txt t i c r s hl hd
  have q1 : eqD false (.str (S' [c])) (.str (Str.ofString ")")) s = .ok (.bl true) s := by
    rw [eqD_str false _ _ s (ok_sg (by rw [g]; decide)) (ofS_ok _), lit_rp]
    simp [lit_sg, g]
  have ha : as = [] := by
    have := h.br.2.length
    simpa using this
  subst ha
  have n1 := len_top h
  have n2 := ev_need (k + 4) false s
  generalize fns (k + 5) = call at *
  refine ⟨s, ?_⟩
  simp [atomS, bodyF, env0, sSeq, sSet, sIf, sRet, sRetN, sExpr, sPass, sRaise, sBad, eVar, eC, eTup, eLst, aCons, aNil, eCall, ar, DE.e2, eAnd, eOr, eNot, eIf, eNeg, tVal, tAndM, tOrM, tNotM, tYesM, eChain, isiD, tyOf, isTy, eM1, oNone, oSome, eCut, R.bind_ok, R.bind_exc, R.bindS_ok, R.bindS_exc, RS.bind_next, RS.bind_ret, RS.bind_exc, LINE, ofS_inj, ofS_ok, eqD_int, eqD_ss, inD3_ss, inD2_ss, x1, q1, n1, gtD, cmpI, n2]
theorem turn_close (g : c = 41) (b1 : Br) (bs1 : List Br) (hb : bs = b1 :: bs1) : match closeB b with
    | some m => ∃ s' a' as' x' y', loopS (fns (k + 5)) (lenv l t o i x y) s = .next (lenv l t o (i + 1 + stars (t.drop (i + 1))) x' y') s' ∧ MS s' o (a' :: as') (putB b1 m (stars (t.drop (i + 1))) :: bs1)
    | none => ∃ s', loopS (fns (k + 5)) (lenv l t o i x y) s = .exc 4 s' := by
  subst hb
  rw [not_rest l t ht s o a as b (b1 :: bs1) i x y h hc c r hd (by rw [g]; decide) (by rintro ⟨w, _⟩; omega)]
  have hl : t.length ≤ 1000 := by have := ht.1; omega
  have x1 := ix_txt t i c r s hl hd
  have q1 : eqD false (.str (S' [c])) (.str (Str.ofString ")")) s = .ok (.bl true) s := by
    rw [eqD_str false _ _ s (ok_sg (by rw [g]; decide)) (ofS_ok _), lit_rp]
    simp [lit_sg, g]
  obtain ⟨a1, as1, rfl⟩ : ∃ a1 as1, as = a1 :: as1 := by
    cases as with
    | nil => exact (h.br.2).elim
    | cons a1 as1 => exact ⟨a1, as1, rfl⟩
  have n1 := len_top h
  have n2 := ev_need (k + 4) true s
  simp only [if_true] at n2
  have n3 := pop_top h
  have hgt : (1 : Int) < ((as1.length + 1 + 1 : Nat) : Int) := by omega
  obtain ⟨p1, p2, p3, p4⟩ := h.pop
  have hc0 := hc b List.mem_cons_self
  have hcl := ev_closed k _ a b p2 p3 hc0
  have hn : eCall (ar 1 (fns (k + 5) i_need)) (aCons (DE.e2 gtD (eCall lenD (aCons (eVar 2) aNil)) (eC (.int 1))) aNil) (lenv l t o i x y) s = .ok .non s := by
    generalize fns (k + 5) = call at *
    simp only [eCall, aCons, aNil, DE.e2, eVar, eC, R.bind_ok, List.getElem?_cons_zero, List.getElem?_cons_succ, n1, gtD, cmpI, ar, List.length_cons, List.length_nil, decide_eq_true hgt, if_true, n2]
  have e0 : sExpr (eCall (ar 1 (fns (k + 5) i_need)) (aCons (DE.e2 gtD (eCall lenD (aCons (eVar 2) aNil)) (eC (.int 1))) aNil)) (lenv l t o i x y) s = .next (lenv l t o i x y) s := by
    unfold sExpr
    rw [hn]
    rfl
  have ea : atomS (fns (k + 5)) (lenv l t o i x y) s = sPar 5 3 (aCons (eCall (ar 1 (fns (k + 5) i_closed)) (aCons (eLM0 popD (eVar 2)) aNil)) (aCons (DE.e2 addD (eVar 3) (eC (.int 1))) aNil)) (lenv l t o i x y) s := by
    refine Eq.trans ?_ (seq_to e0)
    generalize fns (k + 5) = call at *
    unfold atomS
    simp only [sIf, tVal, DE.e2, eVar, eC, R.bind_ok, List.getElem?_cons_zero, List.getElem?_cons_succ, x1, q1, R.bindS_ok, if_true]
  clear hn e0
  cases e : closeB b with
  | none =>
    rw [e] at hcl
    obtain ⟨s', e1⟩ := hcl
    refine ⟨s', ?_⟩
    unfold sSeq
    rw [ea]
    generalize fns (k + 5) = call at *
    simp [bodyF, env0, sSeq, sSet, sIf, sRet, sRetN, sExpr, sPass, sRaise, sBad, eVar, eC, eTup, eLst, aCons, aNil, eCall, ar, DE.e2, eAnd, eOr, eNot, eIf, eNeg, tVal, tAndM, tOrM, tNotM, tYesM, eChain, isiD, tyOf, isTy, eM1, oNone, oSome, eCut, R.bind_ok, R.bind_exc, R.bindS_ok, R.bindS_exc, RS.bind_next, RS.bind_ret, RS.bind_exc, LINE, ofS_inj, ofS_ok, eqD_int, eqD_ss, inD3_ss, inD2_ss, sPar, eLM0, n3, e1]
  | some m =>
    rw [e] at hcl
    obtain ⟨d, s1, e1, rfl, a', b', u⟩ := hcl
    have hm := p1.other u p4
    obtain ⟨s', y', e2, hm2⟩ := ev_tail k l t ht s1 o a1 as1 b1 bs1 (i + 1) x m hm (hc b1 (List.mem_cons_of_mem _ List.mem_cons_self))
    refine ⟨s', a1, as1, y', some (mD m), ?_, hm2⟩
    rw [← e2]
    refine seq_to (ea.trans ?_)
    generalize fns (k + 5) = call at *
    simp [bodyF, env0, sSeq, sSet, sIf, sRet, sRetN, sExpr, sPass, sRaise, sBad, eVar, eC, eTup, eLst, aCons, aNil, eCall, ar, DE.e2, eAnd, eOr, eNot, eIf, eNeg, tVal, tAndM, tOrM, tNotM, tYesM, eChain, isiD, tyOf, isTy, eM1, oNone, oSome, eCut, R.bind_ok, R.bind_exc, R.bindS_ok, R.bindS_exc, RS.bind_next, RS.bind_ret, RS.bind_exc, LINE, ofS_inj, ofS_ok, eqD_int, eqD_ss, inD3_ss, inD2_ss, sPar, eLM0, n3, e1, addD_int]
theorem turn_plain (g : ¬ (c = 124 ∨ c = 38 ∨ c = 33)) (g2 : ¬ (c = 40 ∧ ¬ (c :: r).take 2 = [40, 41])) (g3 : ¬ c = 41) : match plainA l.cps.toList (c :: r) with
    | some m => ∃ s' a' x' y', loopS (fns (k + 5)) (lenv l t o i x y) s = .next (lenv l t o (i + m.2 + stars (t.drop (i + m.2))) x' y') s' ∧ MS s' o (a' :: as) (putB b m.1 (stars (t.drop (i + m.2))) :: bs)
    | none => ∃ s', loopS (fns (k + 5)) (lenv l t o i x y) s = .exc 4 s' := by
  rw [not_rest l t ht s o a as b bs i x y h hc c r hd g g2]
  have hl : t.length ≤ 1000 := by have := ht.1; omega
  have x1 := ix_txt t i c r s hl hd
  have hb : c < 0x110000 := ht.2 c (List.mem_of_mem_drop (by rw [hd]; exact List.mem_cons_self))
  have q1 : eqD false (.str (S' [c])) (.str (Str.ofString ")")) s = .ok (.bl false) s := by
    rw [eqD_str false _ _ s (ok_sg hb) (ofS_ok _), lit_rp]
    simp [lit_sg, g3]
  have hp := ev_plain_atom (k + 3) l t ht s i c r hd
  rw [hd] at hp
  cases e : plainA l.cps.toList (c :: r) with
  | none =>
    rw [e] at hp
    obtain ⟨s', e1⟩ := hp
    refine ⟨s', ?_⟩
    generalize fns (k + 5) = call at *
    simp [atomS, bodyF, env0, sSeq, sSet, sIf, sRet, sRetN, sExpr, sPass, sRaise, sBad, eVar, eC, eTup, eLst, aCons, aNil, eCall, ar, DE.e2, eAnd, eOr, eNot, eIf, eNeg, tVal, tAndM, tOrM, tNotM, tYesM, eChain, isiD, tyOf, isTy, eM1, oNone, oSome, eCut, R.bind_ok, R.bind_exc, R.bindS_ok, R.bindS_exc, RS.bind_next, RS.bind_ret, RS.bind_exc, LINE, ofS_inj, ofS_ok, eqD_int, eqD_ss, inD3_ss, inD2_ss, x1, q1, sAsg, e1]
  | some m =>
    rw [e] at hp
    obtain ⟨d, s1, e1, rfl, rfl⟩ := hp
    obtain ⟨s', y', e2, hm2⟩ := ev_tail k l t ht s1 o a as b bs (i + m.2) x m.1 h (hc b List.mem_cons_self)
    refine ⟨s', a, y', some (mD m.1), ?_, hm2⟩
    rw [← e2]
    refine seq_to ?_
    generalize fns (k + 5) = call at *
    simp [atomS, bodyF, env0, sSeq, sSet, sIf, sRet, sRetN, sExpr, sPass, sRaise, sBad, eVar, eC, eTup, eLst, aCons, aNil, eCall, ar, DE.e2, eAnd, eOr, eNot, eIf, eNeg, tVal, tAndM, tOrM, tNotM, tYesM, eChain, isiD, tyOf, isTy, eM1, oNone, oSome, eCut, R.bind_ok, R.bind_exc, R.bindS_ok, R.bindS_exc, RS.bind_next, RS.bind_ret, RS.bind_exc, LINE, ofS_inj, ofS_ok, eqD_int, eqD_ss, inD3_ss, inD2_ss, x1, q1, sAsg, e1, gTupD, gMore, gVar, gNone]
/-- a turn is a step -/
theorem turn (hn : bs.length ≤ 800) : match stepB l.cps.toList b bs (c :: r) with
    | some (b', bs', j) => ∃ s' a' as' x' y', loopS (fns (k + 5)) (lenv l t o i x y) s = .next (lenv l t o (i + j) x' y') s' ∧ MS s' o (a' :: as') (b' :: bs')
    | none => ∃ s', loopS (fns (k + 5)) (lenv l t o i x y) s = .exc 4 s' := by
  unfold stepB
  simp only
  by_cases g : c = 124 ∨ c = 38 ∨ c = 33
  · rw [if_pos g]
    have := turn_mark k l t ht s o a as b bs i x y h hc c r hd g
    cases e : markB b c with
    | none => rw [e] at this; exact this
    | some b' =>
      rw [e] at this
      obtain ⟨s', a', x', y', e1, e2⟩ := this
      exact ⟨s', a', as, x', y', e1, e2⟩
  rw [if_neg g]
  by_cases g2 : c = 40 ∧ ¬ (c :: r).take 2 = [40, 41]
  · rw [if_pos g2]
    obtain ⟨s', a', x', y', e1, e2⟩ := turn_open k l t ht s o a as b bs i x y h hc c r hd g g2 (by have := h.br.2.length; omega)
    exact ⟨s', a', a :: as, x', y', e1, e2⟩
  rw [if_neg g2]
  have hr := drop_succ hd
  by_cases g3 : c = 41
  · rw [if_pos g3]
    match bs, h, hc, hn with
    | [], h, hc, hn => exact turn_close0 k l t ht s o a as b [] i x y h hc c r hd g3 rfl
    | b1 :: bs1, h, hc, hn =>
      have := turn_close k l t ht s o a as b (b1 :: bs1) i x y h hc c r hd g3 b1 bs1 rfl
      simp only
      cases e : closeB b with
      | none => rw [e] at this; exact this
      | some m =>
        rw [e, hr] at this
        obtain ⟨s', a', as', x', y', e1, e2⟩ := this
        exact ⟨s', a', as', x', y', by rw [← Nat.add_assoc]; exact e1, e2⟩
  · rw [if_neg g3]
    have := turn_plain k l t ht s o a as b bs i x y h hc c r hd g g2 g3
    cases e : plainA l.cps.toList (c :: r) with
    | none => rw [e] at this; exact this
    | some m =>
      rw [e] at this
      have e3 : t.drop (i + m.2) = (c :: r).drop m.2 := by rw [← hd, List.drop_drop]
      obtain ⟨s', a', x', y', e1, e2⟩ := this
      rw [e3] at e1 e2
      exact ⟨s', a', as, x', y', by rw [← Nat.add_assoc]; exact e1, e2⟩
end
end G
/-! K2G: the loop, read_all, read -/
namespace G
open PySem PySem.Spec PyProof.Rows L2 DE PySem.StrLaws
def runB (l : List Nat) : Nat → Br → List Br → List Nat → Option (Br × List Br)
  | _, b, st, [] => some (b, st)
  | 0, _, _, _ :: _ => none
  | f + 1, b, st, c :: r => match stepB l b st (c :: r) with
    | none => none
    | some (b', st', j) => runB l f b' st' ((c :: r).drop j)
def readT (l : List Nat) (t : List Nat) : Option Md := match runB l t.length br0 [] t with
  | some (b, []) => closeB b
  | _ => none
theorem cnt_put (b : Br) (m : Md) (k : Nat) : (putB b m k).cnt ≤ b.cnt + 1 := by
  have e : ∀ x : Md, (b.cs ++ [x]).length = b.cs.length + 1 := fun x => by simp
  show b.bs.length + b.hs.length + (b.cs ++ [_]).length + 0 ≤ b.bs.length + b.hs.length + b.cs.length + b.n + 1
  rw [e]
  omega
theorem cnt_mark {b b' : Br} {c : Nat} (h : markB b c = some b') : b'.cnt ≤ b.cnt + 1 := by
  unfold markB at h
  split at h
  · have := (end_branch_cnt h).1; omega
  split at h
  · have := (end_half_cnt h).1; omega
  cases h
  show b.bs.length + b.hs.length + b.cs.length + (b.n + 1) ≤ b.bs.length + b.hs.length + b.cs.length + b.n + 1
  omega
theorem plain_j {l : List Nat} {c : Nat} {r : List Nat} {m : Md} {j : Nat} (h : plainA l (c :: r) = some (m, j)) : 1 ≤ j ∧ j ≤ (c :: r).length := by
  unfold plainA at h
  split at h
  · rename_i e
    cases h
    have := congrArg List.length e
    rw [List.length_take] at this
    simp at this ⊢
    omega
  split at h
  · rename_i e
    cases h
    have := congrArg List.length e
    rw [List.length_take] at this
    simp at this ⊢
    omega
  simp only at h
  split at h
  · cases h
    simp
  · cases h
/-- what a step keeps -/
theorem step_inv {l : List Nat} {b b' : Br} {bs bs' : List Br} {c : Nat} {r : List Nat} {j i : Nat} (h : stepB l b bs (c :: r) = some (b', bs', j)) (hc : ∀ x ∈ b :: bs, x.cnt ≤ i) (hl : bs.length ≤ i) :
    1 ≤ j ∧ j ≤ (c :: r).length ∧ (∀ x ∈ b' :: bs', x.cnt ≤ i + j) ∧ bs'.length ≤ i + j := by
  have hb := hc b List.mem_cons_self
  have hr : ∀ x ∈ bs, x.cnt ≤ i := fun x hx => hc x (List.mem_cons_of_mem _ hx)
  unfold stepB at h
  simp only at h
  split at h
  · cases e : markB b c with
    | none => rw [e] at h; cases h
    | some b1 =>
      rw [e] at h
      simp only [Option.map_some, Option.some.injEq, Prod.mk.injEq] at h
      obtain ⟨rfl, rfl, rfl⟩ := h
      have := cnt_mark e
      refine ⟨Nat.le_refl _, by simp, fun x hx => ?_, by omega⟩
      rcases List.mem_cons.mp hx with rfl | hx
      · omega
      · have := hr x hx; omega
  split at h
  · simp only [Option.some.injEq, Prod.mk.injEq] at h
    obtain ⟨rfl, rfl, rfl⟩ := h
    refine ⟨Nat.le_refl _, by simp, fun x hx => ?_, by simp; omega⟩
    rcases List.mem_cons.mp hx with rfl | hx
    · exact Nat.zero_le _
    · have := hc x hx; omega
  split at h
  · cases bs with
    | nil => cases h
    | cons b1 bs1 =>
      simp only at h
      cases e : closeB b with
      | none => rw [e] at h; cases h
      | some m =>
        rw [e] at h
        simp only [Option.map_some, Option.some.injEq, Prod.mk.injEq] at h
        obtain ⟨rfl, rfl, rfl⟩ := h
        have := stars_le r
        have h1 := hr b1 List.mem_cons_self
        have := cnt_put b1 m (stars r)
        simp only [List.length_cons] at hl ⊢
        refine ⟨by omega, by omega, fun x hx => ?_, by omega⟩
        rcases List.mem_cons.mp hx with rfl | hx
        · omega
        · have := hr x (List.mem_cons_of_mem _ hx); omega
  · cases e : plainA l (c :: r) with
    | none => rw [e] at h; cases h
    | some mj =>
      obtain ⟨m, j0⟩ := mj
      rw [e] at h
      simp only [Option.map_some, Option.some.injEq, Prod.mk.injEq] at h
      obtain ⟨rfl, rfl, rfl⟩ := h
      have hj := plain_j e
      have h1 := stars_le ((c :: r).drop j0)
      rw [List.length_drop] at h1
      have := cnt_put b m (stars ((c :: r).drop j0))
      refine ⟨by omega, by omega, fun x hx => ?_, by omega⟩
      rcases List.mem_cons.mp hx with rfl | hx
      · omega
      · have := hr x hx; omega
theorem lenD_S {t : List Nat} {s : Store} (h : okT t) : lenD [.str (S' t)] s = .ok (.int t.length) s := lenD_str (by rw [S'_len]; have := h.1; omega)
theorem ev_loop (k : Nat) (l : Str) (t : List Nat) (ht : okT t) (o : Nat) : ∀ (f i : Nat) (s : Store) (a : Ad) (as : List Ad) (b : Br) (bs : List Br) (x y : Option D), t.length - i ≤ f → i ≤ t.length → MS s o (a :: as) (b :: bs) → (∀ b' ∈ b :: bs, b'.cnt ≤ i) → bs.length ≤ i →
    match runB l.cps.toList f b bs (t.drop i) with
    | some (b', bs') => (∀ x ∈ b' :: bs', x.cnt ≤ t.length) ∧ ∃ s' a' as' x' y', sWhile loopC (loopS (fns (k + 5))) (lenv l t o i x y) s = .next (lenv l t o t.length x' y') s' ∧ MS s' o (a' :: as') (b' :: bs')
    | none => ∃ s', sWhile loopC (loopS (fns (k + 5))) (lenv l t o i x y) s = .exc 4 s' := by
  intro f
  have hl := ht.1
  induction f with
  | zero =>
    intro i s a as b bs x y hf hi h hc hn
    have hi2 : i = t.length := by omega
    subst hi2
    rw [List.drop_length]
    unfold runB
    refine ⟨hc, s, a, as, x, y, ?_, h⟩
    rw [sWhile_eq]
    have : loopC (lenv l t o t.length x y) s = .ok false s := by simp [loopC, bodyF, env0, sSeq, sSet, sIf, sRet, sRetN, sExpr, sPass, sRaise, sBad, eVar, eC, eTup, eLst, aCons, aNil, eCall, ar, DE.e2, eAnd, eOr, eNot, eIf, eNeg, tVal, tAndM, tOrM, tNotM, tYesM, eChain, isiD, tyOf, isTy, eM1, oNone, oSome, eCut, R.bind_ok, R.bind_exc, R.bindS_ok, R.bindS_exc, RS.bind_next, RS.bind_ret, RS.bind_exc, LINE, ofS_inj, ofS_ok, eqD_int, eqD_ss, inD3_ss, inD2_ss, lenD_S ht, ltD, cmpI]
    rw [this]
    rfl
  | succ f ih =>
    intro i s a as b bs x y hf hi h hc hn
    cases hd : t.drop i with
    | nil =>
      have hi2 : i = t.length := by
        have := congrArg List.length hd
        rw [List.length_drop] at this
        simp at this
        omega
      subst hi2
      unfold runB
      refine ⟨hc, s, a, as, x, y, ?_, h⟩
      rw [sWhile_eq]
      have : loopC (lenv l t o t.length x y) s = .ok false s := by simp [loopC, bodyF, env0, sSeq, sSet, sIf, sRet, sRetN, sExpr, sPass, sRaise, sBad, eVar, eC, eTup, eLst, aCons, aNil, eCall, ar, DE.e2, eAnd, eOr, eNot, eIf, eNeg, tVal, tAndM, tOrM, tNotM, tYesM, eChain, isiD, tyOf, isTy, eM1, oNone, oSome, eCut, R.bind_ok, R.bind_exc, R.bindS_ok, R.bindS_exc, RS.bind_next, RS.bind_ret, RS.bind_exc, LINE, ofS_inj, ofS_ok, eqD_int, eqD_ss, inD3_ss, inD2_ss, lenD_S ht, ltD, cmpI]
      rw [this]
      rfl
    | cons c r =>
      have hlt : i < t.length := by
        have := congrArg List.length hd
        rw [List.length_drop] at this
        simp at this
        omega
      have ec : loopC (lenv l t o i x y) s = .ok true s := by
        have : (i : Int) < (t.length : Nat) := by omega
        simp [loopC, bodyF, env0, sSeq, sSet, sIf, sRet, sRetN, sExpr, sPass, sRaise, sBad, eVar, eC, eTup, eLst, aCons, aNil, eCall, ar, DE.e2, eAnd, eOr, eNot, eIf, eNeg, tVal, tAndM, tOrM, tNotM, tYesM, eChain, isiD, tyOf, isTy, eM1, oNone, oSome, eCut, R.bind_ok, R.bind_exc, R.bindS_ok, R.bindS_exc, RS.bind_next, RS.bind_ret, RS.bind_exc, LINE, ofS_inj, ofS_ok, eqD_int, eqD_ss, inD3_ss, inD2_ss, lenD_S ht, ltD, cmpI, hlt]
      have tn := turn k l t ht s o a as b bs i x y h (fun b' hb => Nat.le_trans (hc b' hb) (by omega)) c r hd (by omega)
      unfold runB
      cases e : stepB l.cps.toList b bs (c :: r) with
      | none =>
        rw [e] at tn
        obtain ⟨s', e1⟩ := tn
        refine ⟨s', ?_⟩
        rw [sWhile_eq, ec]
        simp only [R.bindS_ok, if_true, e1, loopB_exc]
      | some z =>
        obtain ⟨b', bs', j⟩ := z
        rw [e] at tn
        obtain ⟨s1, a1, as1, x1, y1, e1, m1⟩ := tn
        obtain ⟨j1, j2, j3, j4⟩ := step_inv e hc hn
        have hlen : (c :: r).length = t.length - i := by rw [← hd, List.length_drop]
        have := ih (i + j) s1 a1 as1 b' bs' x1 y1 (by omega) (by omega) m1 j3 j4
        have ed : (c :: r).drop j = t.drop (i + j) := by rw [← hd, List.drop_drop]
        simp only [ed]
        rw [sWhile_eq, ec]
        simp only [R.bindS_ok, if_true, e1, loopB_next]
        exact this
theorem ix_one {s : Store} {o : Nat} {a : Ad} {bs : List Br} (h : MS s o [a] bs) : ixD (.ref o) (.int 0) s = .ok (.ref a.q) s := by
  have := h.top
  simp [ixD, rdS, this, refs, atI_0]
theorem ev_read_all (k : Nat) (l : Str) (t : List Nat) (ht : okT t) (s : Store) : Out (fns (k + 6) i_read_all [.str l, .str (S' t)] s) (readT l.cps.toList t) fun m d s' => d = mD m := by
  rw [e_read_all, m_read_all_eq]
  have hl := ht.1
  have e1 : sSet 2 (eNew (aCons (eMakeL 7 1 (fns (k + 5) i_Open___init__) aNil) aNil)) (env0 6 [.str l, .str (S' t)]) s = .next [some (.str l), some (.str (S' t)), some (.ref (s.length + 4)), none, none, none] (s ++ opened s.length ++ [.lst [.ref s.length]]) := by
    have ho := ev_open (k + 4) (env0 6 [.str l, .str (S' t)]) s
    unfold sSet eNew
    simp only [aCons, ho, R.bind_ok, aNil]
    rw [if_pos (by simp [LINE])]
    simp [env0]
  have e2 : sSet 3 (eC (.int 0)) [some (.str l), some (.str (S' t)), some (.ref (s.length + 4)), none, none, none] (s ++ opened s.length ++ [.lst [.ref s.length]]) = .next (lenv l t (s.length + 4) 0 none none) (s ++ opened s.length ++ [.lst [.ref s.length]]) := rfl
  have m0 : MS (s ++ opened s.length ++ [.lst [.ref s.length]]) (s.length + 4) [newA s.length] [br0] := by
    refine ⟨?_, ⟨newA_at s _, trivial⟩, ?_⟩
    · have : (s ++ opened s.length).length = s.length + 4 := by simp
      rw [← this, get_app_eq]
      rfl
    · rw [idl_cons, List.nodup_cons]
      refine ⟨?_, by simpa [idl] using newA_nd _⟩
      simp [idl, Ad.ids]
  have lp := ev_loop k l t ht (s.length + 4) t.length 0 _ (newA s.length) [] br0 [] none none (by omega) (by omega) m0 (by simp [br0, Br.cnt]) (by simp)
  rw [List.drop_zero] at lp
  unfold readT
  cases er : runB l.cps.toList t.length br0 [] t with
  | none =>
    rw [er] at lp
    obtain ⟨s', e3⟩ := lp
    refine ⟨s', body_exc ((seq_to e1).trans ((seq_to e2).trans ?_))⟩
    unfold sSeq
    rw [e3]
    rfl
  | some z =>
    obtain ⟨b, bs⟩ := z
    rw [er] at lp
    obtain ⟨hc, s', a, as, x, y, e3, m1⟩ := lp
    have hlen := len_top m1
    have hab := m1.br.length
    cases bs with
    | nil =>
      have ha : as = [] := by simpa using hab
      subst ha
      have n1 := ev_need (k + 4) true s'
      simp only [if_true] at n1
      have e4 : sExpr (eCall (ar 1 (fns (k + 5) i_need)) (aCons (DE.e2 (eqD false) (eCall lenD (aCons (eVar 2) aNil)) (eC (.int 1))) aNil)) (lenv l t (s.length + 4) t.length x y) s' = .next (lenv l t (s.length + 4) t.length x y) s' := by
        generalize fns (k + 5) = call at *
        simp [bodyF, env0, sSeq, sSet, sIf, sRet, sRetN, sExpr, sPass, sRaise, sBad, eVar, eC, eTup, eLst, aCons, aNil, eCall, ar, DE.e2, eAnd, eOr, eNot, eIf, eNeg, tVal, tAndM, tOrM, tNotM, tYesM, eChain, isiD, tyOf, isTy, eM1, oNone, oSome, eCut, R.bind_ok, R.bind_exc, R.bindS_ok, R.bindS_exc, RS.bind_next, RS.bind_ret, RS.bind_exc, LINE, ofS_inj, ofS_ok, eqD_int, eqD_ss, inD3_ss, inD2_ss, hlen, n1]
      have hcl := ev_closed k s' a b m1.br.1 m1.nds.1 (by have := hc b List.mem_cons_self; omega)
      have x0 := ix_one m1
      simp only
      cases e : closeB b with
      | none =>
        rw [e] at hcl
        obtain ⟨s2, e5⟩ := hcl
        refine ⟨s2, body_exc ((seq_to e1).trans ((seq_to e2).trans ((seq_to e3).trans ((seq_to e4).trans ?_))))⟩
        generalize fns (k + 5) = call at *
        simp [bodyF, env0, sSeq, sSet, sIf, sRet, sRetN, sExpr, sPass, sRaise, sBad, eVar, eC, eTup, eLst, aCons, aNil, eCall, ar, DE.e2, eAnd, eOr, eNot, eIf, eNeg, tVal, tAndM, tOrM, tNotM, tYesM, eChain, isiD, tyOf, isTy, eM1, oNone, oSome, eCut, R.bind_ok, R.bind_exc, R.bindS_ok, R.bindS_exc, RS.bind_next, RS.bind_ret, RS.bind_exc, LINE, ofS_inj, ofS_ok, eqD_int, eqD_ss, inD3_ss, inD2_ss, x0, e5]
      | some m =>
        rw [e] at hcl
        obtain ⟨d, s2, e5, rfl, _⟩ := hcl
        refine ⟨_, s2, body_ret ((seq_to e1).trans ((seq_to e2).trans ((seq_to e3).trans ((seq_to e4).trans ?_)))), rfl⟩
        generalize fns (k + 5) = call at *
        simp [bodyF, env0, sSeq, sSet, sIf, sRet, sRetN, sExpr, sPass, sRaise, sBad, eVar, eC, eTup, eLst, aCons, aNil, eCall, ar, DE.e2, eAnd, eOr, eNot, eIf, eNeg, tVal, tAndM, tOrM, tNotM, tYesM, eChain, isiD, tyOf, isTy, eM1, oNone, oSome, eCut, R.bind_ok, R.bind_exc, R.bindS_ok, R.bindS_exc, RS.bind_next, RS.bind_ret, RS.bind_exc, LINE, ofS_inj, ofS_ok, eqD_int, eqD_ss, inD3_ss, inD2_ss, x0, e5]
    | cons b1 bs =>
      have n2 := ev_need (k + 4) false s'
      have hne : ¬ (((a :: as).length : Nat) : Int) = 1 := by
        simp only [List.length_cons] at hab ⊢
        omega
      have q : eqD false (.int (((a :: as).length : Nat) : Int)) (.int 1) s' = .ok (.bl false) s' := by rw [eqD_int, decide_eq_false hne]; rfl
      refine ⟨s', body_exc ((seq_to e1).trans ((seq_to e2).trans ((seq_to e3).trans ?_)))⟩
      generalize (a :: as).length = n at *
      generalize fns (k + 5) = call at *
      have e4 : sExpr (eCall (ar 1 (call i_need)) (aCons (DE.e2 (eqD false) (eCall lenD (aCons (eVar 2) aNil)) (eC (.int 1))) aNil)) (lenv l t (s.length + 4) t.length x y) s' = .exc 4 s' := by
        simp only [sExpr, eCall, aCons, aNil, DE.e2, eVar, eC, R.bind_ok, List.getElem?_cons_zero, List.getElem?_cons_succ, hlen, q, ar, List.length_cons, List.length_nil, if_true, n2]
        rfl
      unfold sSeq
      rw [e4]
      rfl
/-- read of a text of at most 400 signs -/
theorem ev_read (k : Nat) (l : Str) (hL : LetF l) (t : List Nat) (ht : okT t) (s : Store) : (Out (fns (k + 7) i_read [.str l, .str (S' t)] s) (readT l.cps.toList t) (fun m d s' => d = toD m.1) ∧ ∀ m, readT l.cps.toList t = some m → m.2 ≤ 60) ∨ ∃ m s', readT l.cps.toList t = some m ∧ 60 < m.2 ∧ fns (k + 7) i_read [.str l, .str (S' t)] s = .exc 3 s' := by
  rw [e_read]
  have hl := ht.1
  have n1 : fns (k + 6) i_need_letters [.str l] s = .ok .non s := by
    have := ev_need_l (k + 4) (.str l) s hL.pl
    rw [hL.ok] at this
    exact this
  have n2 := ev_need (k + 5) true s
  simp only [if_true] at n2
  have hlen := lenD_S (s := s) ht
  have hr := ev_read_all k l t ht s
  have g4 : ¬ (400 : Int) < (t.length : Nat) := by omega
  have q : gtD (.int (t.length : Nat)) (.int 400) s = .ok (.bl false) s := by simp only [gtD, cmpI, decide_eq_false g4]
  have p1 : sExpr (eCall (ar 1 (fns (k + 6) i_need_letters)) (aCons (eVar 0) aNil)) [some (.str l), some (.str (S' t)), none] s = .next [some (.str l), some (.str (S' t)), none] s := by
    generalize fns (k + 6) = call at *
    simp [bodyF, env0, sSeq, sSet, sIf, sRet, sRetN, sExpr, sPass, sRaise, sBad, eVar, eC, eTup, eLst, aCons, aNil, eCall, ar, DE.e2, eAnd, eOr, eNot, eIf, eNeg, tVal, tAndM, tOrM, tNotM, tYesM, eChain, isiD, tyOf, isTy, eM1, oNone, oSome, eCut, R.bind_ok, R.bind_exc, R.bindS_ok, R.bindS_exc, RS.bind_next, RS.bind_ret, RS.bind_exc, LINE, ofS_inj, ofS_ok, eqD_int, eqD_ss, inD3_ss, inD2_ss, n1]
  have p2 : sIf (tAndM (tVal (isiD "str" (eVar 1))) (tVal (DE.e2 gtD (eCall lenD (aCons (eVar 1) aNil)) (eC (.int 400))))) (sRaise 3) sPass [some (.str l), some (.str (S' t)), none] s = .next [some (.str l), some (.str (S' t)), none] s := by
    generalize t.length = n at *
    simp [bodyF, env0, sSeq, sSet, sIf, sRet, sRetN, sExpr, sPass, sRaise, sBad, eVar, eC, eTup, eLst, aCons, aNil, eCall, ar, DE.e2, eAnd, eOr, eNot, eIf, eNeg, tVal, tAndM, tOrM, tNotM, tYesM, eChain, isiD, tyOf, isTy, eM1, oNone, oSome, eCut, R.bind_ok, R.bind_exc, R.bindS_ok, R.bindS_exc, RS.bind_next, RS.bind_ret, RS.bind_exc, LINE, ofS_inj, ofS_ok, eqD_int, eqD_ss, inD3_ss, inD2_ss, hlen, q]
  have p3 : sExpr (eCall (ar 1 (fns (k + 6) i_need)) (aCons (isiD "str" (eVar 1)) aNil)) [some (.str l), some (.str (S' t)), none] s = .next [some (.str l), some (.str (S' t)), none] s := by
    generalize fns (k + 6) = call at *
    simp [bodyF, env0, sSeq, sSet, sIf, sRet, sRetN, sExpr, sPass, sRaise, sBad, eVar, eC, eTup, eLst, aCons, aNil, eCall, ar, DE.e2, eAnd, eOr, eNot, eIf, eNeg, tVal, tAndM, tOrM, tNotM, tYesM, eChain, isiD, tyOf, isTy, eM1, oNone, oSome, eCut, R.bind_ok, R.bind_exc, R.bindS_ok, R.bindS_exc, RS.bind_next, RS.bind_ret, RS.bind_exc, LINE, ofS_inj, ofS_ok, eqD_int, eqD_ss, inD3_ss, inD2_ss, n2]
  cases er : readT l.cps.toList t with
  | none =>
    rw [er] at hr
    obtain ⟨s', e⟩ := hr
    refine .inl ⟨⟨s', body_exc ((seq_to p1).trans ((seq_to p2).trans ((seq_to p3).trans ?_)))⟩, fun m h => by cases h⟩
    generalize fns (k + 6) = call at *
    simp [bodyF, env0, sSeq, sSet, sIf, sRet, sRetN, sExpr, sPass, sRaise, sBad, eVar, eC, eTup, eLst, aCons, aNil, eCall, ar, DE.e2, eAnd, eOr, eNot, eIf, eNeg, tVal, tAndM, tOrM, tNotM, tYesM, eChain, isiD, tyOf, isTy, eM1, oNone, oSome, eCut, R.bind_ok, R.bind_exc, R.bindS_ok, R.bindS_exc, RS.bind_next, RS.bind_ret, RS.bind_exc, LINE, ofS_inj, ofS_ok, eqD_int, eqD_ss, inD3_ss, inD2_ss, e]
  | some m =>
    rw [er] at hr
    obtain ⟨d, s', e, rfl⟩ := hr
    have p4 : sSet 2 (eCall (ar 2 (fns (k + 6) i_read_all)) (aCons (eVar 0) (aCons (eVar 1) aNil))) [some (.str l), some (.str (S' t)), none] s = .next [some (.str l), some (.str (S' t)), some (mD m)] s' := by
      generalize fns (k + 6) = call at *
      simp [bodyF, env0, sSeq, sSet, sIf, sRet, sRetN, sExpr, sPass, sRaise, sBad, eVar, eC, eTup, eLst, aCons, aNil, eCall, ar, DE.e2, eAnd, eOr, eNot, eIf, eNeg, tVal, tAndM, tOrM, tNotM, tYesM, eChain, isiD, tyOf, isTy, eM1, oNone, oSome, eCut, R.bind_ok, R.bind_exc, R.bindS_ok, R.bindS_exc, RS.bind_next, RS.bind_ret, RS.bind_exc, LINE, ofS_inj, ofS_ok, eqD_int, eqD_ss, inD3_ss, inD2_ss, e]
    have f1 := fld_many m s'
    have f2 := fld_pat m s'
    by_cases h60 : 60 < m.2
    · refine .inr ⟨m, s', rfl, h60, body_exc ((seq_to p1).trans ((seq_to p2).trans ((seq_to p3).trans ((seq_to p4).trans ?_))))⟩
      have h60' : (60 : Int) < (m.2 : Nat) := by omega
      have q : gtD (.int (m.2 : Nat)) (.int 60) s' = .ok (.bl true) s' := by simp only [gtD, cmpI, decide_eq_true h60']
      simp [bodyF, env0, sSeq, sSet, sIf, sRet, sRetN, sExpr, sPass, sRaise, sBad, eVar, eC, eTup, eLst, aCons, aNil, eCall, ar, DE.e2, eAnd, eOr, eNot, eIf, eNeg, tVal, tAndM, tOrM, tNotM, tYesM, eChain, isiD, tyOf, isTy, eM1, oNone, oSome, eCut, R.bind_ok, R.bind_exc, R.bindS_ok, R.bindS_exc, RS.bind_next, RS.bind_ret, RS.bind_exc, LINE, ofS_inj, ofS_ok, eqD_int, eqD_ss, inD3_ss, inD2_ss, eFld, f1, q]
    · refine .inl ⟨⟨_, s', body_ret ((seq_to p1).trans ((seq_to p2).trans ((seq_to p3).trans ((seq_to p4).trans ?_)))), rfl⟩, fun m2 h => by cases h; omega⟩
      have h60' : ¬ (60 : Int) < (m.2 : Nat) := by omega
      have q : gtD (.int (m.2 : Nat)) (.int 60) s' = .ok (.bl false) s' := by simp only [gtD, cmpI, decide_eq_false h60']
      simp [bodyF, env0, sSeq, sSet, sIf, sRet, sRetN, sExpr, sPass, sRaise, sBad, eVar, eC, eTup, eLst, aCons, aNil, eCall, ar, DE.e2, eAnd, eOr, eNot, eIf, eNeg, tVal, tAndM, tOrM, tNotM, tYesM, eChain, isiD, tyOf, isTy, eM1, oNone, oSome, eCut, R.bind_ok, R.bind_exc, R.bindS_ok, R.bindS_exc, RS.bind_next, RS.bind_ret, RS.bind_exc, LINE, ofS_inj, ofS_ok, eqD_int, eqD_ss, inD3_ss, inD2_ss, eFld, f1, q, f2]
end G
/-! K2H: what is written is read (plain terms) -/
namespace G
open PySem PySem.Spec PyProof.Rows L2 DE PySem.StrLaws
inductive Go (l : List Nat) : Br → List Br → List Nat → Br → List Br → List Nat → Prop
  | refl (b st t) : Go l b st t b st t
  | step {b st t b' st' j b2 st2 t2} : stepB l b st t = some (b', st', j) → Go l b' st' (t.drop j) b2 st2 t2 → Go l b st t b2 st2 t2
theorem Go.trans {l b st t b1 st1 t1 b2 st2 t2} (h : Go l b st t b1 st1 t1) (h2 : Go l b1 st1 t1 b2 st2 t2) : Go l b st t b2 st2 t2 := by
  induction h with
  | refl => exact h2
  | step e _ ih => exact .step e (ih h2)
theorem Go.one {l b st t b1 st1 j t1} (h : stepB l b st t = some (b1, st1, j)) (e : t.drop j = t1) : Go l b st t b1 st1 t1 := .step h (e ▸ .refl _ _ _)
theorem bound : ∀ bs : List Br, ∃ i, ∀ x ∈ bs, x.cnt ≤ i
  | [] => ⟨0, by simp⟩
  | b :: bs => by
    obtain ⟨i, h⟩ := bound bs
    refine ⟨max i b.cnt, fun x hx => ?_⟩
    rcases List.mem_cons.mp hx with rfl | hx
    · omega
    · have := h x hx; omega
theorem run_go {l b st t b2 st2 t2} (h : Go l b st t b2 st2 t2) (ht : t2 = []) : ∀ f, t.length ≤ f → runB l f b st t = some (b2, st2) := by
  induction h with
  | refl b st t =>
    subst ht
    intro f _
    cases f <;> rfl
  | @step b st t b' st' j b2 st2 t2 e _ ih =>
    intro f hf
    cases t with
    | nil => cases e
    | cons c r =>
      obtain ⟨i, hi⟩ := bound (b :: st)
      have := step_inv (i := i + st.length) e (fun x hx => by have := hi x hx; omega) (by omega)
      cases f with
      | zero => simp at hf
      | succ f =>
        unfold runB
        rw [e]
        exact ih ht f (by rw [List.length_drop]; omega)
/-! ### heads -/
def NoStar (r : List Nat) : Prop := r.head? ≠ some 42
def Ends2 (r : List Nat) : Prop := r = [] ∨ ∃ c u, r = c :: u ∧ (c = 41 ∨ c = 124 ∨ c = 38)
theorem Ends2.ns {r : List Nat} (h : Ends2 r) : NoStar r := by
  rcases h with rfl | ⟨c, u, rfl, h⟩
  · simp [NoStar]
  · simp only [NoStar, List.head?_cons, ne_eq, Option.some.injEq]
    omega
theorem stars_rep {r : List Nat} (h : NoStar r) : ∀ k : Nat, stars (List.replicate k 42 ++ r) = k
  | 0 => by
    cases r with
    | nil => rfl
    | cons c u =>
      simp only [NoStar, List.head?_cons, ne_eq, Option.some.injEq] at h
      simp [stars_cons, h]
  | k + 1 => by
    have := stars_rep h k
    rw [List.replicate_succ, List.cons_append, stars_cons, if_pos rfl, this]
def HeadOk (t : List Nat) : Prop := ∃ c u, t = c :: u ∧ c ≠ 42 ∧ c ≠ 41
theorem HeadOk.app {t : List Nat} (h : HeadOk t) (u : List Nat) : HeadOk (t ++ u) := by
  obtain ⟨c, v, rfl, h1, h2⟩ := h
  exact ⟨c, v ++ u, rfl, h1, h2⟩
theorem HeadOk.inBr {t : List Nat} (h : HeadOk t) (b : Bool) : HeadOk (inBr b t) := by
  cases b with
  | false => exact h
  | true => exact ⟨40, t ++ [41], rfl, by decide, by decide⟩
theorem HeadOk.ns {t : List Nat} (h : HeadOk t) : NoStar t := by
  obtain ⟨c, v, rfl, h1, h2⟩ := h
  simpa [NoStar] using h1
theorem joinT_head {sep : List Nat} {t : List Nat} {ts : List (List Nat)} (h : HeadOk t) : HeadOk (joinT sep (t :: ts)) := by
  cases ts with
  | nil => exact h
  | cons u ts =>
    simp only [joinT]
    exact (h.app _).app _
structure LF (l : List Nat) : Prop where
  az : ∀ c ∈ l, 97 ≤ c ∧ c ≤ 122
theorem tx_head {l : Str} (hl : LF l.cps.toList) : ∀ (n : Nat) (p : Pt), siz p ≤ n → okP l p = true → HeadOk (tx p) := by
  intro n
  induction n with
  | zero => intro p h; have := siz_pos p; omega
  | succ n ih =>
    intro p hn h
    have ⟨_, hk⟩ := kids_ok h
    have hs : ∀ q ∈ kids p, siz q ≤ n := fun q hq => by
      have := siz_mem q hq
      rw [siz_kids p] at hn
      omega
    cases p with
    | non => exact ⟨91, [93], rfl, by decide, by decide⟩
    | emp => exact ⟨40, [41], rfl, by decide, by decide⟩
    | sg c =>
      have : c ∈ l.cps.toList := by simpa [okP] using h
      have := hl.az c this
      exact ⟨c, [], rfl, by omega, by omega⟩
    | un u q =>
      have := ih q (hs q (by simp [kids])) (hk q (by simp [kids])).1
      cases u with
      | many =>
        rw [tx]
        exact (this.inBr _).app _
      | not => exact ⟨33, _, rfl, by decide, by decide⟩
    | nary w ps =>
      cases ps with
      | nil => simp [okP] at h
      | cons q qs =>
        have := ih q (hs q (by simp [kids])) (hk q (by simp [kids])).1
        rw [tx, txs]
        exact joinT_head (this.inBr _)
/-! ### atoms, factors -/
section
variable {l : Str} (hl : LF l.cps.toList)
def AtP (l : Str) (q : Pt) (bb : Bool) : Prop := ∀ (k : Nat) (b : Br) (st : List Br) (r : List Nat), NoStar r → Go l.cps.toList b st (inBr bb (tx q) ++ (List.replicate k 42 ++ r)) (putB b (q, siz q) k) st r
def FacP (l : Str) (q : Pt) (bb : Bool) : Prop := ∀ (b : Br) (st : List Br) (r : List Nat), NoStar r → Go l.cps.toList b st (inBr bb (tx q) ++ r) ⟨b.bs, b.hs, b.cs ++ [(towN .not b.n q, siz q + b.n)], 0⟩ st r
theorem AtP.fac {q : Pt} {bb : Bool} (h : AtP l q bb) : FacP l q bb := fun b st r hr => by
  have := h 0 b st r hr
  simpa [putB, towN] using this
theorem towN_in (u : U2) : ∀ (n : Nat) (p : Pt), towN u n (.un u p) = towN u (n + 1) p
  | 0, p => rfl
  | n + 1, p => by
    show Pt.un u (towN u n (.un u p)) = Pt.un u (towN u (n + 1) p)
    rw [towN_in u n p]
theorem plain_go {b : Br} {st : List Br} {t r : List Nat} {c : Nat} {u : List Nat} {q : Pt} {j k : Nat} (ht : t = c :: u) (g : ¬ (c = 124 ∨ c = 38 ∨ c = 33)) (g2 : ¬ (c = 40 ∧ ¬ t.take 2 = [40, 41])) (g3 : ¬ c = 41)
    (hp : plainA l.cps.toList t = some ((q, siz q), j)) (hd : t.drop j = List.replicate k 42 ++ r) (hr : NoStar r) : Go l.cps.toList b st t (putB b (q, siz q) k) st r := by
  subst ht
  refine .one (j := j + k) ?_ ?_
  · unfold stepB
    simp only
    rw [if_neg g, if_neg g2, if_neg g3, hp]
    simp only [Option.map_some, hd, stars_rep hr]
  · rw [← List.drop_drop, hd]
    simp
include hl in
theorem at_atom (q : Pt) (hq : okP l q = true) (hk : ki q = .at) : AtP l q false := fun k b st r hr => by
  cases q with
  | non => exact plain_go (t := 91 :: 93 :: (List.replicate k 42 ++ r)) (j := 2) rfl (by decide) (fun h => absurd h.1 (by decide)) (by decide) (by simp [plainA, siz]) rfl hr
  | emp => exact plain_go (t := 40 :: 41 :: (List.replicate k 42 ++ r)) (j := 2) rfl (by decide) (fun h => absurd h.2 (by simp)) (by decide) (by simp [plainA, siz]) rfl hr
  | sg c =>
    have hc : c ∈ l.cps.toList := by simpa [okP] using hq
    have := hl.az c hc
    refine plain_go (t := c :: (List.replicate k 42 ++ r)) (j := 1) rfl (by omega) (fun h => by omega) (by omega) ?_ rfl hr
    unfold plainA
    rw [if_neg (by simp; omega), if_neg (by simp; omega)]
    simp only
    rw [if_pos hc]
    simp [siz]
  | nary w ps => cases w <;> cases hk
  | un u q => cases u <;> cases hk
theorem at_many (q : Pt) (h : AtP l q (brU .many (ki q))) : AtP l (.un .many q) false := fun k b st r hr => by
  have := h (k + 1) b st r hr
  have e : inBr false (tx (.un .many q)) ++ (List.replicate k 42 ++ r) = inBr (brU .many (ki q)) (tx q) ++ (List.replicate (k + 1) 42 ++ r) := by
    simp [inBr, tx, List.replicate_succ]
  have e2 : putB b (.un .many q, siz (.un .many q)) k = putB b (q, siz q) (k + 1) := by
    simp only [putB, towN_in, siz, Br.mk.injEq, true_and, and_true]
    have : 1 + siz q + k + b.n = siz q + (k + 1) + b.n := by omega
    rw [this]
  rw [e, e2]
  exact this
theorem fac_not (q : Pt) (h : FacP l q (brU .not (ki q))) : FacP l (.un .not q) false := fun b st r hr => by
  have h1 := h ⟨b.bs, b.hs, b.cs, b.n + 1⟩ st r hr
  refine .step (b' := ⟨b.bs, b.hs, b.cs, b.n + 1⟩) (st' := st) (j := 1) ?_ ?_
  · show stepB _ _ _ (33 :: (inBr (brU .not (ki q)) (tx q) ++ r)) = _
    unfold stepB
    simp [markB]
  · show Go _ _ _ (inBr (brU .not (ki q)) (tx q) ++ r) _ _ _
    have e : ((towN .not b.n (.un .not q), siz (.un .not q) + b.n) : Md) = (towN .not (b.n + 1) q, siz q + (b.n + 1)) := by
      rw [towN_in]
      simp only [siz, Prod.mk.injEq, true_and]
      omega
    rw [e]
    exact h1
def md (p : Pt) : Md := (p, siz p)
theorem md_fst (ps : List Pt) : (ps.map md).map (·.1) = ps := by rw [List.map_map]; exact List.map_id ps
theorem md_snd (ps : List Pt) : ((ps.map md).map (·.2)).sum = sizs ps := by rw [List.map_map, sizs_map]; rfl
theorem of_md (w : W3) {ps : List Pt} (h : 2 ≤ ps.length) : ofParts w (ps.map md) = some (md (.nary w ps)) := by
  match ps, h with
  | p :: q :: ps, _ =>
    show some ((Pt.nary w (((p :: q :: ps).map md).map (·.1)), 1 + (((p :: q :: ps).map md).map (·.2)).sum) : Md) = _
    rw [md_fst, md_snd]
    simp only [md, siz]
theorem flat_join : ∀ ts : List (List Nat), joinT [] ts = ts.flatten
  | [] => rfl
  | [t] => by simp [joinT]
  | t :: u :: ts => by
    have := flat_join (u :: ts)
    simp only [joinT, this]
    simp
/-- factors in a row -/
theorem row_go : ∀ (ps : List Pt), (∀ p ∈ ps, FacP l p (brW .row (ki p)) ∧ HeadOk (tx p)) → ∀ (b : Br) (st : List Br) (r : List Nat), b.n = 0 → NoStar r → Go l.cps.toList b st ((txs .row ps).flatten ++ r) ⟨b.bs, b.hs, b.cs ++ ps.map md, 0⟩ st r
  | [], _, b, st, r, hn, _ => by
    have : (⟨b.bs, b.hs, b.cs ++ [].map md, 0⟩ : Br) = b := by
      obtain ⟨x, y, z, n⟩ := b
      simp only at hn
      subst hn
      simp
    rw [this]
    exact .refl _ _ _
  | p :: ps, h, b, st, r, hn, hr => by
    obtain ⟨h1, h2⟩ := h p List.mem_cons_self
    have ns : NoStar ((txs .row ps).flatten ++ r) := by
      cases ps with
      | nil => exact hr
      | cons q ps =>
        have := (h q (by simp)).2
        simp only [txs, List.flatten_cons, List.append_assoc]
        exact ((this.inBr _).app _).ns
    have g1 := h1 b st ((txs .row ps).flatten ++ r) ns
    have g2 := row_go ps (fun q hq => h q (List.mem_cons_of_mem _ hq)) ⟨b.bs, b.hs, b.cs ++ [(towN .not b.n p, siz p + b.n)], 0⟩ st r rfl hr
    have e : (txs .row (p :: ps)).flatten ++ r = inBr (brW .row (ki p)) (tx p) ++ ((txs .row ps).flatten ++ r) := by
      simp [txs]
    rw [e]
    refine g1.trans ?_
    have e2 : (b.cs ++ [(towN .not b.n p, siz p + b.n)]) ++ ps.map md = b.cs ++ (p :: ps).map md := by
      rw [hn]
      simp [towN, md]
    simp only [e2] at g2
    exact g2
def RowP (l : Str) (p : Pt) (bb : Bool) : Prop := ∀ (b : Br) (st : List Br) (r : List Nat), b.cs = [] → b.n = 0 → Ends2 r → ∃ C, Go l.cps.toList b st (inBr bb (tx p) ++ r) ⟨b.bs, b.hs, C, 0⟩ st r ∧ ofParts .row C = some (md p)
theorem row_of_fac {p : Pt} {bb : Bool} (h : FacP l p bb) : RowP l p bb := fun b st r hc hn hr => by
  have := h b st r hr.ns
  rw [hc, hn] at this
  exact ⟨_, this, rfl⟩
theorem row_of_row {ps : List Pt} (hl2 : 2 ≤ ps.length) (h : ∀ p ∈ ps, FacP l p (brW .row (ki p)) ∧ HeadOk (tx p)) : RowP l (.nary .row ps) false := fun b st r hc hn hr => by
  have := row_go ps h b st r hn hr.ns
  rw [hc, List.nil_append] at this
  refine ⟨_, ?_, of_md .row hl2⟩
  have e : inBr false (tx (.nary .row ps)) = (txs .row ps).flatten := by
    show tx _ = _
    rw [tx]
    exact flat_join _
  rw [e]
  exact this
theorem half_of {b : Br} {C : List Md} {m : Md} (h : ofParts .row C = some m) : endHalf ⟨b.bs, b.hs, C, 0⟩ = some ⟨b.bs, b.hs ++ [m], [], 0⟩ := by
  simp [endHalf, h]
theorem and_step {b b' : Br} {st : List Br} {r : List Nat} (h : endHalf b = some b') : Go l.cps.toList b st (38 :: r) b' st r := by
  refine .one (j := 1) ?_ rfl
  unfold stepB
  simp [markB, h]
theorem or_step {b b' : Br} {st : List Br} {r : List Nat} (h : endBranch b = some b') : Go l.cps.toList b st (124 :: r) b' st r := by
  refine .one (j := 1) ?_ rfl
  unfold stepB
  simp [markB, h]
theorem and_go : ∀ (ps : List Pt), ps ≠ [] → (∀ p ∈ ps, RowP l p (brW .and (ki p))) → ∀ (b : Br) (st : List Br) (r : List Nat), b.cs = [] → b.n = 0 → Ends2 r →
    ∃ b', Go l.cps.toList b st (joinT [38] (txs .and ps) ++ r) b' st r ∧ endHalf b' = some ⟨b.bs, b.hs ++ ps.map md, [], 0⟩
  | [], h, _, _, _, _, _, _, _ => absurd rfl h
  | [p], _, h, b, st, r, hc, hn, hr => by
    obtain ⟨C, g, e⟩ := h p List.mem_cons_self b st r hc hn hr
    exact ⟨_, g, half_of e⟩
  | p :: q :: ps, _, h, b, st, r, hc, hn, hr => by
    obtain ⟨C, g, e⟩ := h p List.mem_cons_self b st (38 :: (joinT [38] (txs .and (q :: ps)) ++ r)) hc hn (.inr ⟨38, _, rfl, .inr (.inr rfl)⟩)
    obtain ⟨b', g2, e2⟩ := and_go (q :: ps) (by simp) (fun x hx => h x (List.mem_cons_of_mem _ hx)) ⟨b.bs, b.hs ++ [md p], [], 0⟩ st r rfl rfl hr
    refine ⟨b', ?_, ?_⟩
    · have e3 : joinT [38] (txs .and (p :: q :: ps)) ++ r = inBr (brW .and (ki p)) (tx p) ++ (38 :: (joinT [38] (txs .and (q :: ps)) ++ r)) := by
        simp [txs, joinT]
      rw [e3]
      exact (g.trans (and_step (half_of e))).trans g2
    · rw [e2]
      simp
def AndP (l : Str) (p : Pt) (bb : Bool) : Prop := ∀ (b : Br) (st : List Br) (r : List Nat), b.hs = [] → b.cs = [] → b.n = 0 → Ends2 r → ∃ b', Go l.cps.toList b st (inBr bb (tx p) ++ r) b' st r ∧ endBranch b' = some ⟨b.bs ++ [md p], [], [], 0⟩
theorem and_of_row {p : Pt} {bb : Bool} (h : RowP l p bb) : AndP l p bb := fun b st r hh hc hn hr => by
  obtain ⟨C, g, e⟩ := h b st r hc hn hr
  refine ⟨_, g, ?_⟩
  have e2 := half_of (b := b) e
  unfold endBranch
  rw [e2, hh]
  rfl
theorem and_of_and {ps : List Pt} (hl2 : 2 ≤ ps.length) (h : ∀ p ∈ ps, RowP l p (brW .and (ki p))) : AndP l (.nary .and ps) false := fun b st r hh hc hn hr => by
  obtain ⟨b', g, e⟩ := and_go ps (by intro q; rw [q] at hl2; simp at hl2) h b st r hc hn hr
  refine ⟨b', ?_, ?_⟩
  · have e1 : inBr false (tx (.nary .and ps)) = joinT [38] (txs .and ps) := by
      show tx _ = _
      rw [tx]
      rfl
    rw [e1]
    exact g
  · simp [endBranch, e, hh, of_md .and hl2]
theorem or_go : ∀ (ps : List Pt), ps ≠ [] → (∀ p ∈ ps, AndP l p (brW .or (ki p))) → ∀ (b : Br) (st : List Br) (r : List Nat), b.hs = [] → b.cs = [] → b.n = 0 → Ends2 r →
    ∃ b', Go l.cps.toList b st (joinT [124] (txs .or ps) ++ r) b' st r ∧ endBranch b' = some ⟨b.bs ++ ps.map md, [], [], 0⟩
  | [], h, _, _, _, _, _, _, _, _ => absurd rfl h
  | [p], _, h, b, st, r, hh, hc, hn, hr => h p List.mem_cons_self b st r hh hc hn hr
  | p :: q :: ps, _, h, b, st, r, hh, hc, hn, hr => by
    obtain ⟨b1, g, e⟩ := h p List.mem_cons_self b st (124 :: (joinT [124] (txs .or (q :: ps)) ++ r)) hh hc hn (.inr ⟨124, _, rfl, .inr (.inl rfl)⟩)
    obtain ⟨b', g2, e2⟩ := or_go (q :: ps) (by simp) (fun x hx => h x (List.mem_cons_of_mem _ hx)) ⟨b.bs ++ [md p], [], [], 0⟩ st r rfl rfl rfl hr
    refine ⟨b', ?_, ?_⟩
    · have e3 : joinT [124] (txs .or (p :: q :: ps)) ++ r = inBr (brW .or (ki p)) (tx p) ++ (124 :: (joinT [124] (txs .or (q :: ps)) ++ r)) := by
        simp [txs, joinT]
      rw [e3]
      exact (g.trans (or_step e)).trans g2
    · rw [e2]
      simp
def WhP (l : Str) (p : Pt) : Prop := ∀ (st : List Br) (r : List Nat), Ends2 r → ∃ b', Go l.cps.toList br0 st (tx p ++ r) b' st r ∧ closeB b' = some (md p)
theorem wh_of_and {p : Pt} (h : AndP l p false) : WhP l p := fun st r hr => by
  obtain ⟨b', g, e⟩ := h br0 st r rfl rfl rfl hr
  exact ⟨b', g, by simp [closeB, e, br0, ofParts]⟩
theorem wh_of_or {ps : List Pt} (hl2 : 2 ≤ ps.length) (h : ∀ p ∈ ps, AndP l p (brW .or (ki p))) : WhP l (.nary .or ps) := fun st r hr => by
  obtain ⟨b', g, e⟩ := or_go ps (by intro q; rw [q] at hl2; simp at hl2) h br0 st r rfl rfl rfl hr
  refine ⟨b', ?_, by simp [closeB, e, br0, of_md .or hl2]⟩
  rw [tx]
  exact g
theorem at_of_wh {p : Pt} (h : WhP l p) (hh : HeadOk (tx p)) : AtP l p true := fun k b st r hr => by
  obtain ⟨b', g, e⟩ := h (b :: st) (41 :: (List.replicate k 42 ++ r)) (.inr ⟨41, _, rfl, .inl rfl⟩)
  have e1 : inBr true (tx p) ++ (List.replicate k 42 ++ r) = 40 :: (tx p ++ (41 :: (List.replicate k 42 ++ r))) := by simp [inBr]
  rw [e1]
  refine (Go.one (b1 := br0) (st1 := b :: st) (j := 1) ?_ rfl).trans (g.trans (.one (j := 1 + k) ?_ ?_))
  · obtain ⟨c, u, ec, c1, c2⟩ := hh
    unfold stepB
    rw [ec]
    simp [c2]
  · unfold stepB
    simp [e, stars_rep hr, md]
  · rw [← List.drop_drop]
    simp
def needs (p : Pt) : Bool := ki p == .ro || ki p == .oo || ki p == .an
include hl in
/-- all of it -/
theorem all_go : ∀ (n : Nat) (p : Pt), siz p ≤ n → okP l p = true → WhP l p ∧ AtP l p true ∧ (ki p = .at ∨ ki p = .mn → AtP l p false) ∧ (needs p = false → FacP l p false) ∧ (ki p ≠ .oo → ki p ≠ .an → RowP l p false) ∧ (ki p ≠ .oo → AndP l p false) := by
  intro n
  induction n with
  | zero => intro p h; have := siz_pos p; omega
  | succ n ih =>
    intro p hn h
    have ⟨_, hk⟩ := kids_ok h
    have hs : ∀ q ∈ kids p, siz q ≤ n := fun q hq => by
      have := siz_mem q hq
      rw [siz_kids p] at hn
      omega
    have hh := tx_head hl (n + 1) p hn h
    have K : ∀ q ∈ kids p, (∀ bb, bb = true ∨ ki q = .at ∨ ki q = .mn → AtP l q bb) ∧ (∀ bb, bb = true ∨ needs q = false → FacP l q bb) ∧ (∀ bb, bb = true ∨ ki q ≠ .oo ∧ ki q ≠ .an → RowP l q bb) ∧ (∀ bb, bb = true ∨ ki q ≠ .oo → AndP l q bb) ∧ HeadOk (tx q) := fun q hq => by
      obtain ⟨k1, k2, k3, k4, k5, k6⟩ := ih q (hs q hq) (hk q hq).1
      refine ⟨fun bb hb => ?_, fun bb hb => ?_, fun bb hb => ?_, fun bb hb => ?_, tx_head hl n q (hs q hq) (hk q hq).1⟩
      · cases bb with
        | true => exact k2
        | false => exact k3 (by simpa using hb)
      · cases bb with
        | true => exact k2.fac
        | false => exact k4 (by simpa using hb)
      · cases bb with
        | true => exact row_of_fac k2.fac
        | false => exact k5 (by simpa using (by simpa using hb : _ ∧ _).1) (by simpa using (by simpa using hb : _ ∧ _).2)
      · cases bb with
        | true => exact and_of_row (row_of_fac k2.fac)
        | false => exact k6 (by simpa using hb)
    have fin : (ki p = .at ∨ ki p = .mn → AtP l p false) → (needs p = false → FacP l p false) → (ki p ≠ .oo → ki p ≠ .an → RowP l p false) → (ki p ≠ .oo → AndP l p false) → WhP l p → WhP l p ∧ AtP l p true ∧ (ki p = .at ∨ ki p = .mn → AtP l p false) ∧ (needs p = false → FacP l p false) ∧ (ki p ≠ .oo → ki p ≠ .an → RowP l p false) ∧ (ki p ≠ .oo → AndP l p false) :=
      fun h1 h2 h3 h4 h5 => ⟨h5, at_of_wh h5 hh, h1, h2, h3, h4⟩
    have atom : ki p = .at → _ := fun e => by
      have a := at_atom hl p h e
      have r := row_of_fac a.fac
      exact fin (fun _ => a) (fun _ => a.fac) (fun _ _ => r) (fun _ => and_of_row r) (wh_of_and (and_of_row r))
    cases p with
    | non => exact atom rfl
    | emp => exact atom rfl
    | sg c => exact atom rfl
    | un u q =>
      have ⟨k1, k2, k3, k4, k5⟩ := K q (by simp [kids])
      cases u with
      | many =>
        have a : AtP l (.un .many q) false := at_many q (k1 _ (by cases ki q <;> simp [brU]))
        have r := row_of_fac a.fac
        exact fin (fun _ => a) (fun _ => a.fac) (fun _ _ => r) (fun _ => and_of_row r) (wh_of_and (and_of_row r))
      | not =>
        have a : FacP l (.un .not q) false := fac_not q (k2 _ (by unfold needs; cases ki q <;> simp [brU]))
        have r := row_of_fac a
        exact fin (fun e => by rcases e with e | e <;> cases e) (fun _ => a) (fun _ _ => r) (fun _ => and_of_row r) (wh_of_and (and_of_row r))
    | nary w ps =>
      have h2 : 2 ≤ ps.length := by
        simp only [okP, Bool.and_eq_true, decide_eq_true_eq] at h
        exact h.1.1
      cases w with
      | row =>
        have r : RowP l (.nary .row ps) false := row_of_row h2 fun q hq => by
          have ⟨k1, k2, k3, k4, k5⟩ := K q hq
          exact ⟨k2 _ (by unfold needs; cases ki q <;> simp [brW]), k5⟩
        exact fin (fun e => by rcases e with e | e <;> cases e) (fun e => by cases e) (fun _ _ => r) (fun _ => and_of_row r) (wh_of_and (and_of_row r))
      | and =>
        have a : AndP l (.nary .and ps) false := and_of_and h2 fun q hq => by
          have ⟨k1, k2, k3, k4, k5⟩ := K q hq
          exact k3 _ (by cases ki q <;> simp [brW])
        exact fin (fun e => by rcases e with e | e <;> cases e) (fun e => by cases e) (fun _ e => absurd rfl e) (fun _ => a) (wh_of_and a)
      | or =>
        have a : WhP l (.nary .or ps) := wh_of_or h2 fun q hq => by
          have ⟨k1, k2, k3, k4, k5⟩ := K q hq
          exact k4 _ (by cases ki q <;> simp [brW])
        exact fin (fun e => by rcases e with e | e <;> cases e) (fun e => by cases e) (fun e => absurd rfl e) (fun e => absurd rfl e) a
include hl in
theorem read_tx (p : Pt) (h : okP l p = true) : readT l.cps.toList (tx p) = some (p, siz p) := by
  obtain ⟨b', g, e⟩ := (all_go hl (siz p) p (Nat.le_refl _) h).1 [] [] (.inl rfl)
  rw [List.append_nil] at g
  unfold readT
  rw [run_go g rfl _ (Nat.le_refl _)]
  exact e
end
theorem az : (Str.ofString "abcdefghijklmnopqrstuvwxyz").cps.toList.all (fun c => decide (97 ≤ c ∧ c ≤ 122)) = true := by decide +kernel
theorem LetF.lf {l : Str} (h : LetF l) : LF l.cps.toList := ⟨fun c hc => by
  have := h.ok
  simp only [letOk, Bool.and_eq_true, decide_eq_true_eq] at this
  have h2 := List.all_eq_true.mp this.2 c hc
  simp only [Bool.and_eq_true, decide_eq_true_eq] at h2
  have h3 := List.all_eq_true.mp az c h2.1
  simpa using h3⟩
end G
/-! K3A: where a run ends in nothing; the law's items -/
namespace G
open PySem PySem.Spec PyProof.Rows L2 DE PySem.StrLaws
def finR (l : List Nat) (f : Nat) (b : Br) (st : List Br) (t : List Nat) : Option Md := match runB l f b st t with
  | some (b, []) => closeB b
  | _ => none
theorem readT_fin (l t : List Nat) : readT l t = finR l t.length br0 [] t := rfl
theorem runB_nil (l : List Nat) (f : Nat) (b : Br) (st : List Br) : runB l f b st [] = some (b, st) := by cases f <;> rfl
/-- no pattern comes of it -/
def Dead (l : List Nat) (b : Br) (st : List Br) (t : List Nat) : Prop := ∀ f, t.length ≤ f → finR l f b st t = none
theorem run_to {l b st t b2 st2 t2} (h : Go l b st t b2 st2 t2) : ∀ f, t.length ≤ f → ∃ f2, t2.length ≤ f2 ∧ runB l f b st t = runB l f2 b2 st2 t2 := by
  induction h with
  | refl b st t => exact fun f hf => ⟨f, hf, rfl⟩
  | @step b st t b' st' j b2 st2 t2 e _ ih =>
    intro f hf
    cases t with
    | nil => cases e
    | cons c r =>
      obtain ⟨i, hi⟩ := bound (b :: st)
      have := step_inv (i := i + st.length) e (fun x hx => by have := hi x hx; omega) (by omega)
      cases f with
      | zero => simp at hf
      | succ f =>
        obtain ⟨f2, h1, h2⟩ := ih f (by rw [List.length_drop]; omega)
        refine ⟨f2, h1, ?_⟩
        rw [← h2]
        show (match stepB l b st (c :: r) with | none => none | some (b', st', j) => runB l f b' st' ((c :: r).drop j)) = _
        rw [e]
theorem dead_go {l b st t b2 st2 t2} (h : Go l b st t b2 st2 t2) (d : Dead l b2 st2 t2) : Dead l b st t := fun f hf => by
  obtain ⟨f2, h1, h2⟩ := run_to h f hf
  have := d f2 h1
  unfold finR at this ⊢
  rw [h2]
  exact this
theorem dead_step {l b st c r} (h : stepB l b st (c :: r) = none) : Dead l b st (c :: r) := fun f hf => by
  cases f with
  | zero => simp at hf
  | succ f =>
    have : runB l (f + 1) b st (c :: r) = none := by
      show (match stepB l b st (c :: r) with | none => none | some (b', st', j) => runB l f b' st' ((c :: r).drop j)) = _
      rw [h]
    unfold finR
    rw [this]
theorem dead_end {l b st} (h : st ≠ [] ∨ closeB b = none) : Dead l b st [] := fun f _ => by
  unfold finR
  rw [runB_nil]
  cases st with
  | nil => rcases h with h | h
           · exact absurd rfl h
           · exact h
  | cons _ _ => rfl
theorem read_of_go {l t b'} {m : Md} (h : Go l br0 [] t b' [] []) (e : closeB b' = some m) : readT l t = some m := by
  rw [readT_fin]
  unfold finR
  rw [run_go h rfl _ (Nat.le_refl _)]
  exact e
theorem close_n {b : Br} (h : b.n ≠ 0) : closeB b = none := by
  simp [closeB, endBranch, endHalf, h]
theorem half_n {b : Br} (h : b.n ≠ 0) : endHalf b = none := by simp [endHalf, h]
theorem branch_n {b : Br} (h : b.n ≠ 0) : endBranch b = none := by simp [endBranch, endHalf, h]
theorem half_c {b : Br} (h : b.cs = []) : endHalf b = none := by
  unfold endHalf
  split
  · rw [h]; rfl
  · rfl
/-- a mark, an end or a closing bracket ends it where the bracket's half can't end -/
theorem dead_half {l : List Nat} {b : Br} {st : List Br} {t : List Nat} (h : endHalf b = none) (ht : t = [] ∨ ∃ c r, t = c :: r ∧ (c = 124 ∨ c = 38 ∨ c = 41)) : Dead l b st t := by
  have hb : endBranch b = none := by simp [endBranch, h]
  have hc : closeB b = none := by simp [closeB, hb]
  rcases ht with rfl | ⟨c, r, rfl, hh⟩
  · exact dead_end (.inr hc)
  · refine dead_step ?_
    unfold stepB
    rcases hh with rfl | rfl | rfl
    · simp [markB, hb]
    · simp [markB, h]
    · cases st <;> simp [hc]
/-! ### weights, heads -/
def wt (t : List Nat) : Nat := 3 * t.count 40 + t.count 33
theorem wt_cons (c : Nat) (t : List Nat) : wt (c :: t) = (if c = 40 then 3 else 0) + (if c = 33 then 1 else 0) + wt t := by
  unfold wt
  rw [List.count_cons, List.count_cons]
  simp only [beq_iff_eq]
  split <;> split <;> omega
theorem wt_app (a b : List Nat) : wt (a ++ b) = wt a + wt b := by
  unfold wt
  rw [List.count_append, List.count_append]
  omega
theorem wt_drop (t : List Nat) : ∀ i j : Nat, i ≤ j → wt (t.drop j) ≤ wt (t.drop i) := fun i j h => by
  have e : t.drop j = (t.drop i).drop (j - i) := by rw [List.drop_drop]; congr 1; omega
  rw [e]
  have := List.take_append_drop (j - i) (t.drop i)
  have h2 := congrArg wt this
  rw [wt_app] at h2
  omega
def EndHd (t : List Nat) : Prop := t = [] ∨ ∃ c r, t = c :: r ∧ (c = 124 ∨ c = 38 ∨ c = 41)
def CloseHd (t : List Nat) : Prop := t = [] ∨ ∃ r, t = 41 :: r
theorem drop_len {t : List Nat} {i c : Nat} {r : List Nat} (h : t.drop i = c :: r) : i < t.length ∧ r.length = t.length - i - 1 := by
  have := congrArg List.length h
  rw [List.length_drop] at this
  simp at this
  omega
theorem drop_nil {t : List Nat} {i : Nat} (h : t.drop i = []) : t.length ≤ i := by
  have := congrArg List.length h
  rw [List.length_drop] at this
  simp at this
  omega
/-! ### what the law asks of a text -/
theorem cut1 {t : List Nat} {i : Nat} {s : Store} (h : okT t) : cutD (.str (S' t)) (some (i : Int)) (some ((i : Int) + 1)) s = .ok (.str (S' ((t.drop i).take 1))) s := cut_txt t i 1 s (by have := h.1; omega)
theorem cut2 {t : List Nat} {i : Nat} {s : Store} (h : okT t) : cutD (.str (S' t)) (some (i : Int)) (some ((i : Int) + 2)) s = .ok (.str (S' ((t.drop i).take 2))) s := cut_txt t i 2 s (by have := h.1; omega)
theorem eq_txt {t u : List Nat} {i n : Nat} {x : String} {s : Store} (h : okT t) (neg : Bool) (hx : Str.ofString x = S' u) : eqD neg (.str (S' ((t.drop i).take n))) (.str (Str.ofString x)) s = .ok (.bl (if neg then !decide ((t.drop i).take n = u) else decide ((t.drop i).take n = u))) s := by
  rw [eqD_str neg _ _ s (h.drop _ _) (ofS_ok _), hx]
  by_cases e : (t.drop i).take n = u
  · have e2 : S' ((t.drop i).take n) = S' u := by rw [e]
    rw [decide_eq_true e, decide_eq_true e2]
  · have e2 : ¬ S' ((t.drop i).take n) = S' u := fun q => e (S'_inj.mp q)
    rw [decide_eq_false e, decide_eq_false e2]
theorem lit_lb : Str.ofString "[" = S' [91] := by decide +kernel
def nonD : D := .non
theorem towN_siz (u : U2) (p : Pt) : ∀ n : Nat, siz (towN u n p) = siz p + n
  | 0 => rfl
  | n + 1 => by
    show 1 + siz (towN u n p) = _
    rw [towN_siz u p n]
    omega
theorem towN_ok {l : Str} (u : U2) {p : Pt} (h : okP l p = true) : ∀ n : Nat, okP l (towN u n p) = true
  | 0 => h
  | n + 1 => towN_ok u h n
theorem towN_dep (u : U2) (p : Pt) : ∀ n : Nat, depD (toD (towN u n p)) ≤ depD (toD p) + n
  | 0 => Nat.le_refl _
  | n + 1 => by
    have := towN_dep u p n
    show depD (toD (.un u (towN u n p))) ≤ _
    simp only [toD, depD, depDs]
    have := dep_pos (towN u n p)
    omega
/-- the stars behind an atom -/
theorem ev_star_loop (t : List Nat) (h : okT t) (s : Store) (l : D) (x3 x4 : Option D) : ∀ (n i : Nat) (p : Pt), stars (t.drop i) = n →
    sWhile (tVal (DE.e2 (eqD false) (eCut (eVar 1) (oSome (eVar 2)) (oSome (DE.e2 addD (eVar 2) (eC (.int 1))))) (eC (.str "*"))))
  (sSeq (sSet 5 (eTup (aCons (eC (.str "many")) (aCons (eVar 5) aNil))))
  (sSet 2 (DE.e2 addD (eVar 2) (eC (.int 1))))) [some l, some (.str (S' t)), some (.int (i : Nat)), x3, x4, some (toD p)] s
      = .next [some l, some (.str (S' t)), some (.int ((i + n : Nat) : Int)), x3, x4, some (toD (towN .many n p))] s := by
  intro n
  induction n with
  | zero =>
    intro i p hn
    rw [sWhile_eq]
    have ne : ¬ (t.drop i).take 1 = [42] := fun e => by
      cases hd : t.drop i with
      | nil => rw [hd] at e; simp at e
      | cons c r =>
        rw [hd] at e hn
        simp at e
        rw [stars_cons, if_pos e] at hn
        omega
    have q := eq_txt (s := s) (i := i) (n := 1) h false lit_star
    rw [decide_eq_false ne] at q
    simp [bodyF, env0, sSeq, sSet, sIf, sRet, sRetN, sExpr, sPass, sRaise, sBad, eVar, eC, eTup, eLst, aCons, aNil, eCall, ar, DE.e2, eAnd, eOr, eNot, eIf, eNeg, tVal, tAndM, tOrM, tNotM, tYesM, eChain, isiD, tyOf, isTy, eM1, oNone, oSome, eCut, R.bind_ok, R.bind_exc, R.bindS_ok, R.bindS_exc, RS.bind_next, RS.bind_ret, RS.bind_exc, LINE, ofS_inj, ofS_ok, eqD_int, eqD_ss, inD3_ss, inD2_ss, addD_int, cut1 h, q, towN]
  | succ n ih =>
    intro i p hn
    rw [sWhile_eq]
    cases hd : t.drop i with
    | nil => rw [hd] at hn; cases hn
    | cons c r =>
      rw [hd, stars_cons] at hn
      by_cases hc : c = 42
      · rw [if_pos hc] at hn
        have eq : (t.drop i).take 1 = [42] := by rw [hd, hc]; rfl
        have q := eq_txt (s := s) (i := i) (n := 1) h false lit_star
        rw [decide_eq_true eq] at q
        have hr : t.drop (i + 1) = r := drop_succ hd
        have := ih (i + 1) (.un .many p) (by rw [hr]; omega)
        have e1 : ((i + 1 : Nat) : Int) = (i : Int) + 1 := by omega
        have e2 : i + 1 + n = i + (n + 1) := by omega
        rw [e1, e2, towN_in] at this
        have c1 := cut1 (i := i) (s := s) h
        have hl : ([D.str (Str.ofString "many"), toD p] : List D).length ≤ 16777216 := by simp
        simp only [tVal, DE.e2, eCut, eVar, oSome, eC, R.bind_ok, List.getElem?_cons_zero, List.getElem?_cons_succ, addD_int, c1, q, R.bindS_ok, if_true, Bool.false_eq_true, if_false, sSeq, sSet, eTup, aCons, aNil, LINE, hl, List.set_cons_succ, List.set_cons_zero, RS.bind_next, loopB_next]
        exact this
      · rw [if_neg hc] at hn
        omega
end G
/-! K3B: the law's items -/
namespace G
open PySem PySem.Spec PyProof.Rows L2 DE PySem.StrLaws
def ItemOk (l : Str) (t : List Nat) (k : Nat) : Prop := ∀ (i : Nat) (s : Store), i ≤ t.length → wt (t.drop i) + 1 ≤ k →
  (∃ (p : Pt) (j : Nat) (s' : Store), fns k i__law_item [.str l, .str (S' t), .int (i : Nat)] s = .ok (.tup [toD p, .int (j : Nat)]) s' ∧ s <+: s' ∧ i < j ∧ j ≤ t.length ∧ okP l p = true ∧ depD (toD p) ≤ j - i ∧
    ∀ b st, Go l.cps.toList b st (t.drop i) ⟨b.bs, b.hs, b.cs ++ [md (towN .not b.n p)], 0⟩ st (t.drop j)) ∨
  (∃ s' : Store, fns k i__law_item [.str l, .str (S' t), .int (i : Nat)] s = .ok .non s' ∧ s <+: s' ∧ ∀ b st, (b.n ≠ 0 ∨ ¬ EndHd (t.drop i)) → Dead l.cps.toList b st (t.drop i))
def HalfOk (l : Str) (t : List Nat) (k : Nat) : Prop := ∀ (i : Nat) (s : Store), i ≤ t.length → wt (t.drop i) + 2 ≤ k →
  (∃ (p : Pt) (j : Nat) (s' : Store), fns k i__law_half [.str l, .str (S' t), .int (i : Nat)] s = .ok (.tup [toD p, .int (j : Nat)]) s' ∧ s <+: s' ∧ i < j ∧ j ≤ t.length ∧ okP l p = true ∧ depD (toD p) ≤ j - i + 1 ∧ EndHd (t.drop j) ∧
    ∀ b st, b.cs = [] → b.n = 0 → ∃ C, Go l.cps.toList b st (t.drop i) ⟨b.bs, b.hs, C, 0⟩ st (t.drop j) ∧ ofParts .row C = some (md p)) ∨
  (∃ s' : Store, fns k i__law_half [.str l, .str (S' t), .int (i : Nat)] s = .ok .non s' ∧ s <+: s' ∧ ∀ b st, b.cs = [] → b.n = 0 → Dead l.cps.toList b st (t.drop i))
def EithOk (l : Str) (t : List Nat) (k : Nat) : Prop := ∀ (i : Nat) (s : Store), i ≤ t.length → wt (t.drop i) + 3 ≤ k →
  (∃ (p : Pt) (j : Nat) (s' : Store), fns k i__law_either [.str l, .str (S' t), .int (i : Nat)] s = .ok (.tup [toD p, .int (j : Nat)]) s' ∧ s <+: s' ∧ i < j ∧ j ≤ t.length ∧ okP l p = true ∧ depD (toD p) ≤ j - i + 1 ∧ CloseHd (t.drop j) ∧
    ∀ st, ∃ b', Go l.cps.toList br0 st (t.drop i) b' st (t.drop j) ∧ closeB b' = some (md p)) ∨
  (∃ s' : Store, fns k i__law_either [.str l, .str (S' t), .int (i : Nat)] s = .ok .non s' ∧ s <+: s' ∧ ∀ st, Dead l.cps.toList br0 st (t.drop i))
theorem seq_stop {A B : DE.SM} {env : DE.Env} {s s1 : Store} {d : D} (h : A env s = .ret d s1) : sSeq A B env s = .ret d s1 := by unfold sSeq; rw [h]; rfl
theorem putB_md (b : Br) (p : Pt) (n : Nat) : putB b (md p) n = ⟨b.bs, b.hs, b.cs ++ [md (towN .not b.n (towN .many n p))], 0⟩ := by
  simp only [putB, md, towN_siz]
theorem plain_go2 {l : Str} {b : Br} {st : List Br} {t : List Nat} {c : Nat} {u : List Nat} {q : Pt} {j : Nat} (ht : t = c :: u) (g : ¬ (c = 124 ∨ c = 38 ∨ c = 33)) (g2 : ¬ (c = 40 ∧ ¬ t.take 2 = [40, 41])) (g3 : ¬ c = 41)
    (hp : plainA l.cps.toList t = some (md q, j)) : Go l.cps.toList b st t (putB b (md q) (stars (t.drop j))) st (t.drop (j + stars (t.drop j))) := by
  subst ht
  refine .one (j := j + stars ((c :: u).drop j)) ?_ rfl
  unfold stepB
  simp only
  rw [if_neg g, if_neg g2, if_neg g3, hp]
  rfl
theorem not_go {l : List Nat} {b : Br} {st : List Br} {r : List Nat} : Go l b st (33 :: r) ⟨b.bs, b.hs, b.cs, b.n + 1⟩ st r := by
  refine .one (j := 1) ?_ rfl
  unfold stepB
  simp [markB]
theorem open_go {l : List Nat} {b : Br} {st : List Br} {r : List Nat} (h : ¬ (40 :: r).take 2 = [40, 41]) : Go l b st (40 :: r) br0 (b :: st) r := by
  refine .one (j := 1) ?_ rfl
  unfold stepB
  simp only
  rw [if_neg (by decide), if_pos ⟨trivial, h⟩]
theorem close_go {l : List Nat} {b b1 : Br} {st : List Br} {r : List Nat} {m : Md} (h : closeB b1 = some m) : Go l b1 (b :: st) (41 :: r) (putB b m (stars r)) st (r.drop (stars r)) := by
  refine .one (j := 1 + stars r) ?_ ?_
  · unfold stepB
    simp [h]
  · rw [← List.drop_drop]
    rfl
noncomputable def tailI : DE.SM := (sSeq (sAsg (eVar 4) (gTupD 2 (gMore (gVar 5) (gMore (gVar 2) gNone))))
  (sSeq (sWhile (tVal (DE.e2 (eqD false) (eCut (eVar 1) (oSome (eVar 2)) (oSome (DE.e2 addD (eVar 2) (eC (.int 1))))) (eC (.str "*"))))
  (sSeq (sSet 5 (eTup (aCons (eC (.str "many")) (aCons (eVar 5) aNil))))
  (sSet 2 (DE.e2 addD (eVar 2) (eC (.int 1))))))
  (sRet (eTup (aCons (eVar 5) (aCons (eVar 2) aNil))))))
theorem tailI_ok (t : List Nat) (h : okT t) (s : Store) (l : D) (i x3 x5 : Option D) (p : Pt) (j : Nat) :
    tailI [some l, some (.str (S' t)), i, x3, some (.tup [toD p, .int (j : Nat)]), x5] s = .ret (.tup [toD (towN .many (stars (t.drop j)) p), .int ((j + stars (t.drop j) : Nat) : Int)]) s := by
  have e1 : sAsg (eVar 4) (gTupD 2 (gMore (gVar 5) (gMore (gVar 2) gNone))) [some l, some (.str (S' t)), i, x3, some (.tup [toD p, .int (j : Nat)]), x5] s = .next [some l, some (.str (S' t)), some (.int (j : Nat)), x3, some (.tup [toD p, .int (j : Nat)]), some (toD p)] s := by
    simp [sAsg, bodyF, env0, sSeq, sSet, sIf, sRet, sRetN, sExpr, sPass, sRaise, sBad, eVar, eC, eTup, eLst, aCons, aNil, eCall, ar, DE.e2, eAnd, eOr, eNot, eIf, eNeg, tVal, tAndM, tOrM, tNotM, tYesM, eChain, isiD, tyOf, isTy, eM1, oNone, oSome, eCut, R.bind_ok, R.bind_exc, R.bindS_ok, R.bindS_exc, RS.bind_next, RS.bind_ret, RS.bind_exc, LINE, ofS_inj, ofS_ok, eqD_int, eqD_ss, inD3_ss, inD2_ss, gTupD, gMore, gVar, gNone]
  have e2 := ev_star_loop t h s l x3 (some (.tup [toD p, .int (j : Nat)])) (stars (t.drop j)) j p rfl
  refine (seq_to e1).trans ((seq_to e2).trans ?_)
  simp [bodyF, env0, sSeq, sSet, sIf, sRet, sRetN, sExpr, sPass, sRaise, sBad, eVar, eC, eTup, eLst, aCons, aNil, eCall, ar, DE.e2, eAnd, eOr, eNot, eIf, eNeg, tVal, tAndM, tOrM, tNotM, tYesM, eChain, isiD, tyOf, isTy, eM1, oNone, oSome, eCut, R.bind_ok, R.bind_exc, R.bindS_ok, R.bindS_exc, RS.bind_next, RS.bind_ret, RS.bind_exc, LINE, ofS_inj, ofS_ok, eqD_int, eqD_ss, inD3_ss, inD2_ss]
noncomputable def itemA (call : Nat → Fn) : DE.SM := (sIf (tVal (DE.e2 (eqD false) (eCut (eVar 1) (oSome (eVar 2)) (oSome (DE.e2 addD (eVar 2) (eC (.int 1))))) (eC (.str "!"))))
  (sSeq (sSet 3 (eCall (ar 3 (call i__law_item)) (aCons (eVar 0) (aCons (eVar 1) (aCons (DE.e2 addD (eVar 2) (eC (.int 1))) aNil)))))
  (sRet (eIf (tVal (DE.e2 (isD false) (eVar 3) (eC .non))) (eC .non) (eTup (aCons (eTup (aCons (eC (.str "not")) (aCons (DE.e2 ixD (eVar 3) (eC (.int 0))) aNil))) (aCons (DE.e2 ixD (eVar 3) (eC (.int 1))) aNil))))))
  sPass)
noncomputable def itemP (call : Nat → Fn) : DE.SM := (sSeq (sSet 3 (eCall (ar 3 (call i__law_either)) (aCons (eVar 0) (aCons (eVar 1) (aCons (DE.e2 addD (eVar 2) (eC (.int 1))) aNil)))))
  (sSeq (sIf (tOrM (tVal (DE.e2 (isD false) (eVar 3) (eC .non))) (tVal (DE.e2 (eqD true) (eCut (eVar 1) (oSome (DE.e2 ixD (eVar 3) (eC (.int 1)))) (oSome (DE.e2 addD (DE.e2 ixD (eVar 3) (eC (.int 1))) (eC (.int 1))))) (eC (.str ")")))))
  (sRet (eC .non))
  sPass)
  (sSet 4 (eTup (aCons (DE.e2 ixD (eVar 3) (eC (.int 0))) (aCons (DE.e2 addD (DE.e2 ixD (eVar 3) (eC (.int 1))) (eC (.int 1))) aNil))))))
noncomputable def itemQ : DE.SM := (sIf (tAndM (tVal (DE.e2 (eqD true) (eCut (eVar 1) (oSome (eVar 2)) (oSome (DE.e2 addD (eVar 2) (eC (.int 1))))) (eC (.str "")))) (tVal (DE.e2 (inD false) (DE.e2 ixD (eVar 1) (eVar 2)) (eVar 0))))
  (sSet 4 (eTup (aCons (eTup (aCons (eC (.str "sign")) (aCons (DE.e2 ixD (eVar 1) (eVar 2)) aNil))) (aCons (DE.e2 addD (eVar 2) (eC (.int 1))) aNil))))
  (sRet (eC .non)))
noncomputable def itemB (call : Nat → Fn) : DE.SM := (sIf (tOrM (tVal (DE.e2 (eqD false) (eCut (eVar 1) (oSome (eVar 2)) (oSome (DE.e2 addD (eVar 2) (eC (.int 2))))) (eC (.str "()")))) (tVal (DE.e2 (eqD false) (eCut (eVar 1) (oSome (eVar 2)) (oSome (DE.e2 addD (eVar 2) (eC (.int 2))))) (eC (.str "[]")))))
  (sSet 4 (eTup (aCons (DE.e2 ixD (eLst (aCons (eTup (aCons (eC (.str "empty")) aNil)) (aCons (eTup (aCons (eC (.str "none")) aNil)) aNil))) (eCall intD (aCons (DE.e2 (eqD false) (DE.e2 ixD (eVar 1) (eVar 2)) (eC (.str "["))) aNil))) (aCons (DE.e2 addD (eVar 2) (eC (.int 2))) aNil))))
  (sIf (tVal (DE.e2 (eqD false) (eCut (eVar 1) (oSome (eVar 2)) (oSome (DE.e2 addD (eVar 2) (eC (.int 1))))) (eC (.str "("))))
  (itemP call)
  itemQ))
theorem m_item_eq (call : Nat → Fn) : m__law_item call = sSeq (itemA call) (sSeq (itemB call) tailI) := rfl
abbrev ienv (l : Str) (t : List Nat) (i : Nat) : DE.Env := [some (.str l), some (.str (S' t)), some (.int (i : Nat)), none, none, none]
section
variable (l : Str) (hL : LF l.cps.toList) (t : List Nat) (ht : okT t) (k i : Nat) (s : Store)
include ht
theorem itemA_no (h : ¬ (t.drop i).take 1 = [33]) : itemA (fns k) (ienv l t i) s = .next (ienv l t i) s := by
  have q := eq_txt (s := s) (i := i) (n := 1) ht false lit_bang
  rw [decide_eq_false h] at q
  have c1 := cut1 (i := i) (s := s) ht
  simp [itemA, bodyF, env0, sSeq, sSet, sIf, sRet, sRetN, sExpr, sPass, sRaise, sBad, eVar, eC, eTup, eLst, aCons, aNil, eCall, ar, DE.e2, eAnd, eOr, eNot, eIf, eNeg, tVal, tAndM, tOrM, tNotM, tYesM, eChain, isiD, tyOf, isTy, eM1, oNone, oSome, eCut, R.bind_ok, R.bind_exc, R.bindS_ok, R.bindS_exc, RS.bind_next, RS.bind_ret, RS.bind_exc, LINE, ofS_inj, ofS_ok, eqD_int, eqD_ss, inD3_ss, inD2_ss, addD_int, c1, q]
/-- a plain atom -/
theorem itemB_two (h : (t.drop i).take 2 = [40, 41] ∨ (t.drop i).take 2 = [91, 93]) : itemB (fns k) (ienv l t i) s = .next [some (.str l), some (.str (S' t)), some (.int (i : Nat)), none, some (.tup [toD (if (t.drop i).take 2 = [40, 41] then .emp else .non), .int ((i + 2 : Nat) : Int)]), none] s := by
  have hl : t.length ≤ 1000 := by have := ht.1; omega
  have q1 := eq_txt (s := s) (i := i) (n := 2) ht false lit_emp
  have q2 := eq_txt (s := s) (i := i) (n := 2) ht false lit_none
  have c1 := cut2 (i := i) (s := s) ht
  cases hd : t.drop i with
  | nil => rw [hd] at h; simp at h
  | cons c r =>
    have x1 := ix_txt t i c r s hl hd
    have hc : c < 0x110000 := ht.2 c (List.mem_of_mem_drop (by rw [hd]; exact List.mem_cons_self))
    have q3 : eqD false (.str (S' [c])) (.str (Str.ofString "[")) s = .ok (.bl (decide (c = 91))) s := by
      rw [eqD_str false _ _ s (ok_sg hc) (ofS_ok _), lit_lb]
      simp [lit_sg]
    have i0 : ixD (.lst [.tup [.str (Str.ofString "empty")], .tup [.str (Str.ofString "none")]]) (.int 0) s = .ok (.tup [.str (Str.ofString "empty")]) s := by simp [ixD, rdS, atI_0]
    have i1 : ixD (.lst [.tup [.str (Str.ofString "empty")], .tup [.str (Str.ofString "none")]]) (.int 1) s = .ok (.tup [.str (Str.ofString "none")]) s := by simp [ixD, rdS, atI_1]
    rw [hd] at h
    by_cases e : (c :: r).take 2 = [40, 41]
    · have e' : (t.drop i).take 2 = [40, 41] := by rw [hd]; exact e
      rw [decide_eq_true e'] at q1
      have hc1 : c = 40 := by simp at e; exact e.1
      have hn : ¬ c = 91 := by omega
      rw [decide_eq_false hn] at q3
      rw [if_pos e]
      simp [itemB, bodyF, env0, sSeq, sSet, sIf, sRet, sRetN, sExpr, sPass, sRaise, sBad, eVar, eC, eTup, eLst, aCons, aNil, eCall, ar, DE.e2, eAnd, eOr, eNot, eIf, eNeg, tVal, tAndM, tOrM, tNotM, tYesM, eChain, isiD, tyOf, isTy, eM1, oNone, oSome, eCut, R.bind_ok, R.bind_exc, R.bindS_ok, R.bindS_exc, RS.bind_next, RS.bind_ret, RS.bind_exc, LINE, ofS_inj, ofS_ok, eqD_int, eqD_ss, inD3_ss, inD2_ss, addD_int, c1, q1, x1, q3, DE.intD, i0, toD]
    · have e2 : (c :: r).take 2 = [91, 93] := by rcases h with h | h; exact absurd h e; exact h
      have e' : ¬ (t.drop i).take 2 = [40, 41] := by rw [hd]; exact e
      have e2' : (t.drop i).take 2 = [91, 93] := by rw [hd]; exact e2
      rw [decide_eq_false e'] at q1
      rw [decide_eq_true e2'] at q2
      have hc1 : c = 91 := by simp at e2; exact e2.1
      rw [decide_eq_true hc1] at q3
      rw [if_neg e]
      simp [itemB, bodyF, env0, sSeq, sSet, sIf, sRet, sRetN, sExpr, sPass, sRaise, sBad, eVar, eC, eTup, eLst, aCons, aNil, eCall, ar, DE.e2, eAnd, eOr, eNot, eIf, eNeg, tVal, tAndM, tOrM, tNotM, tYesM, eChain, isiD, tyOf, isTy, eM1, oNone, oSome, eCut, R.bind_ok, R.bind_exc, R.bindS_ok, R.bindS_exc, RS.bind_next, RS.bind_ret, RS.bind_exc, LINE, ofS_inj, ofS_ok, eqD_int, eqD_ss, inD3_ss, inD2_ss, addD_int, c1, q1, q2, x1, q3, DE.intD, i1, toD]
theorem itemB_no (h1 : ¬ (t.drop i).take 2 = [40, 41]) (h2 : ¬ (t.drop i).take 2 = [91, 93]) (h3 : ¬ (t.drop i).take 1 = [40]) : itemB (fns k) (ienv l t i) s = itemQ (ienv l t i) s := by
  have q1 := eq_txt (s := s) (i := i) (n := 2) ht false lit_emp
  have q2 := eq_txt (s := s) (i := i) (n := 2) ht false lit_none
  have q3 := eq_txt (s := s) (i := i) (n := 1) ht false lit_lp
  rw [decide_eq_false h1] at q1
  rw [decide_eq_false h2] at q2
  rw [decide_eq_false h3] at q3
  have c1 := cut1 (i := i) (s := s) ht
  have c2 := cut2 (i := i) (s := s) ht
  unfold itemB
  generalize itemP (fns k) = PP
  generalize itemQ = QQ
  simp [bodyF, env0, sSeq, sSet, sIf, sRet, sRetN, sExpr, sPass, sRaise, sBad, eVar, eC, eTup, eLst, aCons, aNil, eCall, ar, DE.e2, eAnd, eOr, eNot, eIf, eNeg, tVal, tAndM, tOrM, tNotM, tYesM, eChain, isiD, tyOf, isTy, eM1, oNone, oSome, eCut, R.bind_ok, R.bind_exc, R.bindS_ok, R.bindS_exc, RS.bind_next, RS.bind_ret, RS.bind_exc, LINE, ofS_inj, ofS_ok, eqD_int, eqD_ss, inD3_ss, inD2_ss, addD_int, c1, c2, q1, q2, q3]
theorem itemB_open (h1 : ¬ (t.drop i).take 2 = [40, 41]) (h3 : (t.drop i).take 1 = [40]) : itemB (fns k) (ienv l t i) s = itemP (fns k) (ienv l t i) s := by
  have h2 : ¬ (t.drop i).take 2 = [91, 93] := fun e => by
    cases hd : t.drop i with
    | nil => rw [hd] at h3; simp at h3
    | cons c r => rw [hd] at h3 e; simp at h3 e; omega
  have q1 := eq_txt (s := s) (i := i) (n := 2) ht false lit_emp
  have q2 := eq_txt (s := s) (i := i) (n := 2) ht false lit_none
  have q3 := eq_txt (s := s) (i := i) (n := 1) ht false lit_lp
  rw [decide_eq_false h1] at q1
  rw [decide_eq_false h2] at q2
  rw [decide_eq_true h3] at q3
  have c1 := cut1 (i := i) (s := s) ht
  have c2 := cut2 (i := i) (s := s) ht
  unfold itemB
  generalize itemP (fns k) = PP
  generalize itemQ = QQ
  simp [bodyF, env0, sSeq, sSet, sIf, sRet, sRetN, sExpr, sPass, sRaise, sBad, eVar, eC, eTup, eLst, aCons, aNil, eCall, ar, DE.e2, eAnd, eOr, eNot, eIf, eNeg, tVal, tAndM, tOrM, tNotM, tYesM, eChain, isiD, tyOf, isTy, eM1, oNone, oSome, eCut, R.bind_ok, R.bind_exc, R.bindS_ok, R.bindS_exc, RS.bind_next, RS.bind_ret, RS.bind_exc, LINE, ofS_inj, ofS_ok, eqD_int, eqD_ss, inD3_ss, inD2_ss, addD_int, c1, c2, q1, q2, q3]
include hL
theorem item_plain (p : Pt) (d : Nat) (c : Nat) (r : List Nat) (hd : t.drop i = c :: r) (g : ¬ (c = 124 ∨ c = 38 ∨ c = 33)) (g2 : ¬ (c = 40 ∧ ¬ (t.drop i).take 2 = [40, 41])) (g3 : ¬ c = 41) (hp : plainA l.cps.toList (t.drop i) = some (md p, d)) (hok : okP l p = true) (hdep : depD (toD p) ≤ d)
    (e : itemB (fns k) (ienv l t i) s = .next [some (.str l), some (.str (S' t)), some (.int (i : Nat)), none, some (.tup [toD p, .int ((i + d : Nat) : Int)]), none] s) :
    ∃ (p : Pt) (j : Nat) (s' : Store), fns (k + 1) i__law_item [.str l, .str (S' t), .int (i : Nat)] s = .ok (.tup [toD p, .int (j : Nat)]) s' ∧ s <+: s' ∧ i < j ∧ j ≤ t.length ∧ okP l p = true ∧ depD (toD p) ≤ j - i ∧
    ∀ b st, Go l.cps.toList b st (t.drop i) ⟨b.bs, b.hs, b.cs ++ [md (towN .not b.n p)], 0⟩ st (t.drop j) := by
  have hj := plain_j (l := l.cps.toList) (c := c) (r := r) (m := md p) (j := d) (by rw [← hd]; exact hp)
  have hlen := drop_len hd
  rw [List.length_cons] at hj
  have hst := stars_le (t.drop (i + d))
  rw [List.length_drop] at hst
  refine ⟨towN .many (stars (t.drop (i + d))) p, i + d + stars (t.drop (i + d)), s, ?_, List.prefix_refl _, by omega, by omega, towN_ok _ hok _, ?_, fun b st => ?_⟩
  · rw [e__law_item, m_item_eq]
    refine body_ret ((seq_to (itemA_no l t ht k i s ?_)).trans ((seq_to e).trans (tailI_ok t ht s _ _ _ _ p (i + d))))
    rw [hd]
    simp
    omega
  · have := towN_dep .many p (stars (t.drop (i + d)))
    omega
  · have := plain_go2 (b := b) (st := st) hd g g2 g3 hp
    rw [putB_md, List.drop_drop, List.drop_drop, ← Nat.add_assoc] at this
    exact this
theorem item_step (hI : ItemOk l t k) (hE : EithOk l t k) : ItemOk l t (k + 1) := by
  intro i s hi hw
  have hl : t.length ≤ 1000 := by have := ht.1; omega
  cases hd : t.drop i with
  | nil =>
    refine .inr ⟨s, ?_, List.prefix_refl _, fun b st hb => dead_half (half_n ?_) (.inl rfl)⟩
    · rw [e__law_item, m_item_eq]
      refine body_ret ((seq_to (itemA_no l t ht k i s (by rw [hd]; simp))).trans ?_)
      unfold sSeq
      rw [itemB_no l t ht k i s (by rw [hd]; simp) (by rw [hd]; simp) (by rw [hd]; simp)]
      have q := eq_txt (s := s) (i := i) (n := 1) ht true lit_nil
      have h0 : (t.drop i).take 1 = [] := by rw [hd]; rfl
      rw [decide_eq_true h0] at q
      have c1 := cut1 (i := i) (s := s) ht
      simp [itemQ, bodyF, env0, sSeq, sSet, sIf, sRet, sRetN, sExpr, sPass, sRaise, sBad, eVar, eC, eTup, eLst, aCons, aNil, eCall, ar, DE.e2, eAnd, eOr, eNot, eIf, eNeg, tVal, tAndM, tOrM, tNotM, tYesM, eChain, isiD, tyOf, isTy, eM1, oNone, oSome, eCut, R.bind_ok, R.bind_exc, R.bindS_ok, R.bindS_exc, RS.bind_next, RS.bind_ret, RS.bind_exc, LINE, ofS_inj, ofS_ok, eqD_int, eqD_ss, inD3_ss, inD2_ss, addD_int, c1, q]
    · rcases hb with h | h
      · exact h
      · exact absurd (.inl rfl) h
  | cons c r =>
    have hlen := drop_len hd
    have hr := drop_succ hd
    have x1 := ix_txt t i c r s hl hd
    have hw2 : wt (t.drop i) = wt (c :: r) := by rw [hd]
    rw [wt_cons] at hw2
    by_cases c33 : c = 33
    · subst c33
      have q := eq_txt (s := s) (i := i) (n := 1) ht false lit_bang
      have h0 : (t.drop i).take 1 = [33] := by rw [hd]; rfl
      rw [decide_eq_true h0] at q
      have c1 := cut1 (i := i) (s := s) ht
      rcases hI (i + 1) s (by omega) (by rw [hr]; simp at hw2; omega) with ⟨p, j, s', e, hs, h1, h2, h3, h4, h5⟩ | ⟨s', e, hs, h5⟩
      · refine .inl ⟨.un .not p, j, s', ?_, hs, by omega, h2, h3, ?_, fun b st => ?_⟩
        · have e : fns k i__law_item [.str l, .str (S' t), .int ((i : Nat) + 1)] s = .ok (.tup [toD p, .int (j : Nat)]) s' := e
          have x0 : ixD (.tup [toD p, .int (j : Nat)]) (.int 0) s' = .ok (toD p) s' := ixD_t0
          have x2 : ixD (.tup [toD p, .int (j : Nat)]) (.int 1) s' = .ok (.int (j : Nat)) s' := ixD_t1
          have eu : toD (.un .not p) = .tup [.str (Str.ofString "not"), toD p] := by simp [toD, U2.s]
          rw [e__law_item, m_item_eq, eu]
          generalize fns k = call at *
          generalize toD p = P at *
          refine body_ret (seq_stop ?_)
          show itemA call (ienv l t i) s = .ret (.tup [.tup [.str (Str.ofString "not"), P], .int (j : Nat)]) s'
          simp [itemA, bodyF, env0, sSeq, sSet, sIf, sRet, sRetN, sExpr, sPass, sRaise, sBad, eVar, eC, eTup, eLst, aCons, aNil, eCall, ar, DE.e2, eAnd, eOr, eNot, eIf, eNeg, tVal, tAndM, tOrM, tNotM, tYesM, eChain, isiD, tyOf, isTy, eM1, oNone, oSome, eCut, R.bind_ok, R.bind_exc, R.bindS_ok, R.bindS_exc, RS.bind_next, RS.bind_ret, RS.bind_exc, LINE, ofS_inj, ofS_ok, eqD_int, eqD_ss, inD3_ss, inD2_ss, addD_int, c1, q, e, isD, isNon, x0, x2]
        · simp only [toD, depD, depDs]
          omega
        · have := h5 ⟨b.bs, b.hs, b.cs, b.n + 1⟩ st
          rw [hr] at this
          rw [towN_in]
          exact not_go.trans this
      · refine .inr ⟨s', ?_, hs, fun b st _ => dead_go not_go ?_⟩
        · have e : fns k i__law_item [.str l, .str (S' t), .int ((i : Nat) + 1)] s = .ok .non s' := e
          rw [e__law_item, m_item_eq]
          generalize fns k = call at *
          refine body_ret (seq_stop ?_)
          show itemA call (ienv l t i) s = .ret .non s'
          simp [itemA, bodyF, env0, sSeq, sSet, sIf, sRet, sRetN, sExpr, sPass, sRaise, sBad, eVar, eC, eTup, eLst, aCons, aNil, eCall, ar, DE.e2, eAnd, eOr, eNot, eIf, eNeg, tVal, tAndM, tOrM, tNotM, tYesM, eChain, isiD, tyOf, isTy, eM1, oNone, oSome, eCut, R.bind_ok, R.bind_exc, R.bindS_ok, R.bindS_exc, RS.bind_next, RS.bind_ret, RS.bind_exc, LINE, ofS_inj, ofS_ok, eqD_int, eqD_ss, inD3_ss, inD2_ss, addD_int, c1, q, e, isD, isNon]
        · have := h5 ⟨b.bs, b.hs, b.cs, b.n + 1⟩ st (.inl (Nat.succ_ne_zero _))
          rw [hr] at this
          exact this
    have hA := itemA_no l t ht k i s (by rw [hd]; simp; omega)
    have hok0 : ∀ x : Nat × Nat, True := fun _ => trivial
    by_cases a1 : (t.drop i).take 2 = [40, 41]
    · have hc : c = 40 := by rw [hd] at a1; simp at a1; exact a1.1
      have e := itemB_two l t ht k i s (.inl a1)
      rw [if_pos a1] at e
      rw [← hd]
      exact .inl (item_plain l hL t ht k i s .emp 2 c r hd (by omega) (fun h => h.2 a1) (by omega) (by unfold plainA; rw [if_pos a1]; rfl) rfl (by simp [toD, depD, depDs]) e)
    by_cases a2 : (t.drop i).take 2 = [91, 93]
    · have hc : c = 91 := by rw [hd] at a2; simp at a2; exact a2.1
      have e := itemB_two l t ht k i s (.inr a2)
      rw [if_neg a1] at e
      rw [← hd]
      exact .inl (item_plain l hL t ht k i s .non 2 c r hd (by omega) (fun h => by omega) (by omega) (by unfold plainA; rw [if_neg a1, if_pos a2]; rfl) rfl (by simp [toD, depD, depDs]) e)
    by_cases c40 : c = 40
    · subst c40
      have eB := itemB_open l t ht k i s a1 (by rw [hd]; rfl)
      have og : ∀ b st, Go l.cps.toList b st (40 :: r) br0 (b :: st) r := fun b st => open_go (by rw [← hd]; exact a1)
      rcases hE (i + 1) s (by omega) (by rw [hr]; simp at hw2; omega) with ⟨p, j, s', e, hs, h1, h2, h3, h4, h6, h5⟩ | ⟨s', e, hs, h5⟩
      · have e : fns k i__law_either [.str l, .str (S' t), .int ((i : Nat) + 1)] s = .ok (.tup [toD p, .int (j : Nat)]) s' := e
        have x0 : ixD (.tup [toD p, .int (j : Nat)]) (.int 0) s' = .ok (toD p) s' := ixD_t0
        have x2 : ixD (.tup [toD p, .int (j : Nat)]) (.int 1) s' = .ok (.int (j : Nat)) s' := ixD_t1
        have c1 := cut1 (i := j) (s := s') ht
        have q := eq_txt (s := s') (i := j) (n := 1) ht true lit_rp
        rcases h6 with h6 | ⟨r2, h6⟩
        · have h0 : ¬ (t.drop j).take 1 = [41] := by rw [h6]; simp
          rw [decide_eq_false h0] at q
          refine .inr ⟨s', ?_, hs, fun b st _ => ?_⟩
          · rw [e__law_item, m_item_eq]
            refine body_ret ((seq_to hA).trans (seq_stop (eB.trans ?_)))
            generalize fns k = call at *
            generalize toD p = P at *
            simp [itemP, bodyF, env0, sSeq, sSet, sIf, sRet, sRetN, sExpr, sPass, sRaise, sBad, eVar, eC, eTup, eLst, aCons, aNil, eCall, ar, DE.e2, eAnd, eOr, eNot, eIf, eNeg, tVal, tAndM, tOrM, tNotM, tYesM, eChain, isiD, tyOf, isTy, eM1, oNone, oSome, eCut, R.bind_ok, R.bind_exc, R.bindS_ok, R.bindS_exc, RS.bind_next, RS.bind_ret, RS.bind_exc, LINE, ofS_inj, ofS_ok, eqD_int, eqD_ss, inD3_ss, inD2_ss, addD_int, e, isD, isNon, x0, x2, c1, q]
          · obtain ⟨b', g, _⟩ := h5 (b :: st)
            rw [hr, h6] at g
            exact dead_go (og b st) (dead_go g (dead_end (.inl (by simp))))
        · have h0 : (t.drop j).take 1 = [41] := by rw [h6]; rfl
          rw [decide_eq_true h0] at q
          have hj := drop_len h6
          have hr2 := drop_succ h6
          have hst := stars_le (t.drop (j + 1))
          rw [List.length_drop] at hst
          refine .inl ⟨towN .many (stars (t.drop (j + 1))) p, j + 1 + stars (t.drop (j + 1)), s', ?_, hs, by omega, by omega, towN_ok _ h3 _, ?_, fun b st => ?_⟩
          · rw [e__law_item, m_item_eq]
            refine body_ret ((seq_to hA).trans ((seq_to (eB.trans (?_ : _ = RS.next [some (.str l), some (.str (S' t)), some (.int (i : Nat)), some (.tup [toD p, .int (j : Nat)]), some (.tup [toD p, .int ((j + 1 : Nat) : Int)]), none] s'))).trans (tailI_ok t ht s' _ _ _ _ p (j + 1))))
            generalize fns k = call at *
            generalize toD p = P at *
            simp [itemP, bodyF, env0, sSeq, sSet, sIf, sRet, sRetN, sExpr, sPass, sRaise, sBad, eVar, eC, eTup, eLst, aCons, aNil, eCall, ar, DE.e2, eAnd, eOr, eNot, eIf, eNeg, tVal, tAndM, tOrM, tNotM, tYesM, eChain, isiD, tyOf, isTy, eM1, oNone, oSome, eCut, R.bind_ok, R.bind_exc, R.bindS_ok, R.bindS_exc, RS.bind_next, RS.bind_ret, RS.bind_exc, LINE, ofS_inj, ofS_ok, eqD_int, eqD_ss, inD3_ss, inD2_ss, addD_int, e, isD, isNon, x0, x2, c1, q]
          · have := towN_dep .many p (stars (t.drop (j + 1)))
            omega
          · obtain ⟨b', g, ec⟩ := h5 (b :: st)
            rw [hr, h6] at g
            have g2 := (og b st).trans (g.trans (close_go ec))
            rw [putB_md, ← hr2, List.drop_drop] at g2
            exact g2
      · have e : fns k i__law_either [.str l, .str (S' t), .int ((i : Nat) + 1)] s = .ok .non s' := e
        refine .inr ⟨s', ?_, hs, fun b st _ => ?_⟩
        · rw [e__law_item, m_item_eq]
          refine body_ret ((seq_to hA).trans (seq_stop (eB.trans ?_)))
          generalize fns k = call at *
          simp [itemP, bodyF, env0, sSeq, sSet, sIf, sRet, sRetN, sExpr, sPass, sRaise, sBad, eVar, eC, eTup, eLst, aCons, aNil, eCall, ar, DE.e2, eAnd, eOr, eNot, eIf, eNeg, tVal, tAndM, tOrM, tNotM, tYesM, eChain, isiD, tyOf, isTy, eM1, oNone, oSome, eCut, R.bind_ok, R.bind_exc, R.bindS_ok, R.bindS_exc, RS.bind_next, RS.bind_ret, RS.bind_exc, LINE, ofS_inj, ofS_ok, eqD_int, eqD_ss, inD3_ss, inD2_ss, addD_int, e, isD, isNon]
        · have := h5 (b :: st)
          rw [hr] at this
          exact dead_go (og b st) this
    have eB := itemB_no l t ht k i s a1 a2 (by rw [hd]; simp; omega)
    have c1 := cut1 (i := i) (s := s) ht
    have q := eq_txt (s := s) (i := i) (n := 1) ht true lit_nil
    have h0 : ¬ (t.drop i).take 1 = [] := by rw [hd]; simp
    rw [decide_eq_false h0] at q
    have i1 : inD false (.str (S' [c])) (.str l) s = .ok (.bl (decide (c ∈ l.cps.toList))) s := by
      simp [inD, S']
    by_cases cl : c ∈ l.cps.toList
    · rw [decide_eq_true cl] at i1
      have hz := hL.az c cl
      have e : itemB (fns k) (ienv l t i) s = .next [some (.str l), some (.str (S' t)), some (.int (i : Nat)), none, some (.tup [toD (.sg c), .int ((i + 1 : Nat) : Int)]), none] s := by
        rw [eB]
        simp [itemQ, bodyF, env0, sSeq, sSet, sIf, sRet, sRetN, sExpr, sPass, sRaise, sBad, eVar, eC, eTup, eLst, aCons, aNil, eCall, ar, DE.e2, eAnd, eOr, eNot, eIf, eNeg, tVal, tAndM, tOrM, tNotM, tYesM, eChain, isiD, tyOf, isTy, eM1, oNone, oSome, eCut, R.bind_ok, R.bind_exc, R.bindS_ok, R.bindS_exc, RS.bind_next, RS.bind_ret, RS.bind_exc, LINE, ofS_inj, ofS_ok, eqD_int, eqD_ss, inD3_ss, inD2_ss, addD_int, c1, q, x1, i1, toD, sg_S]
      rw [← hd]
      exact .inl (item_plain l hL t ht k i s (.sg c) 1 c r hd (by omega) (fun h => by omega) (by omega) (by
        unfold plainA
        rw [if_neg a1, if_neg a2, hd]
        simp only
        rw [if_pos cl]
        rfl) (by simp [okP, cl]) (by simp [toD, depD, depDs]) e)
    · rw [decide_eq_false cl] at i1
      refine .inr ⟨s, ?_, List.prefix_refl _, fun b st hb => ?_⟩
      · rw [e__law_item, m_item_eq]
        refine body_ret ((seq_to hA).trans (seq_stop (eB.trans ?_)))
        simp [itemQ, bodyF, env0, sSeq, sSet, sIf, sRet, sRetN, sExpr, sPass, sRaise, sBad, eVar, eC, eTup, eLst, aCons, aNil, eCall, ar, DE.e2, eAnd, eOr, eNot, eIf, eNeg, tVal, tAndM, tOrM, tNotM, tYesM, eChain, isiD, tyOf, isTy, eM1, oNone, oSome, eCut, R.bind_ok, R.bind_exc, R.bindS_ok, R.bindS_exc, RS.bind_next, RS.bind_ret, RS.bind_exc, LINE, ofS_inj, ofS_ok, eqD_int, eqD_ss, inD3_ss, inD2_ss, addD_int, c1, q, x1, i1]
      · by_cases hm : c = 124 ∨ c = 38 ∨ c = 41
        · rcases hb with h | h
          · exact dead_half (half_n h) (.inr ⟨c, r, rfl, hm⟩)
          · exact absurd (.inr ⟨c, r, rfl, hm⟩) h
        · refine dead_step ?_
          unfold stepB
          simp only
          rw [if_neg (by omega), if_neg (by omega), if_neg (by omega)]
          unfold plainA
          rw [if_neg (by rw [← hd]; exact a1), if_neg (by rw [← hd]; exact a2)]
          simp only
          rw [if_neg cl]
          rfl
end
end G
/-! K3C: the law's halves -/
namespace G
open PySem PySem.Spec PyProof.Rows L2 DE PySem.StrLaws
theorem inLs (neg : Bool) (a : Str) (ws : List Str) (s : Store) (ha : strOk' a = true) (hw : ∀ w ∈ ws, strOk' w = true) : inD neg (.str a) (.lst (ws.map D.str)) s = .ok (.bl (if neg then !decide (a ∈ ws) else decide (a ∈ ws))) s := by
  have e2 : res s (.lst (ws.map D.str)) = some (.lst (ws.map D.str)) := by
    show sub _ _ = _
    simp only [sub]
    rw [strs_sub]
    rfl
  have e3 : inD neg (.str a) (.lst (ws.map D.str)) s = (match res s (.str a), res s (.lst (ws.map D.str)) with
    | some a, some (.tup ys) => if layD a = true ∧ layDs ys = true ∧ depD a ≤ 190 then .ok (.bl (if neg then !ys.any (fun y => eqv y a) else ys.any (fun y => eqv y a))) s else .bad
    | some a, some (.lst ys) => if layD a = true ∧ layDs ys = true ∧ depD a ≤ 190 then .ok (.bl (if neg then !ys.any (fun y => eqv y a) else ys.any (fun y => eqv y a))) s else .bad
    | _, _ => .bad) := rfl
  rw [e3, e2, res_str]
  simp only [layD, ha, strs_lay ws hw, depD, strs_any]
  simp
theorem take1 (t : List Nat) : t.take 1 = [] ∧ t = [] ∨ ∃ c r, t = c :: r ∧ t.take 1 = [c] := by
  cases t with
  | nil => exact .inl ⟨rfl, rfl⟩
  | cons c r => exact .inr ⟨c, r, rfl, rfl⟩
theorem end_iff (t : List Nat) : S' (t.take 1) ∈ [Str.ofString "", Str.ofString "|", Str.ofString "&", Str.ofString ")"] ↔ EndHd t := by
  rw [lit_nil, lit_bar, lit_amp, lit_rp]
  simp only [List.mem_cons, List.not_mem_nil, or_false, S'_inj]
  rcases take1 t with ⟨e, rfl⟩ | ⟨c, r, rfl, e⟩
  · simp [EndHd]
  · rw [e]
    simp [EndHd]
theorem end_in {t : List Nat} {i : Nat} {s : Store} (h : okT t) (b : Bool) (hb : EndHd (t.drop i) ↔ b = true) (neg : Bool) : inD neg (.str (S' ((t.drop i).take 1))) (.lst [.str (Str.ofString ""), .str (Str.ofString "|"), .str (Str.ofString "&"), .str (Str.ofString ")")]) s = .ok (.bl (if neg then !b else b)) s := by
  have := inLs neg (S' ((t.drop i).take 1)) [Str.ofString "", Str.ofString "|", Str.ofString "&", Str.ofString ")"] s (h.drop _ _) (by
    intro w hw
    simp only [List.mem_cons, List.not_mem_nil, or_false] at hw
    rcases hw with rfl | rfl | rfl | rfl <;> exact ofS_ok _)
  simp only [List.map_cons, List.map_nil] at this
  rw [this]
  have e : decide (S' ((t.drop i).take 1) ∈ [Str.ofString "", Str.ofString "|", Str.ofString "&", Str.ofString ")"]) = b := by
    have h2 := (end_iff (t.drop i)).trans hb
    cases b with
    | true => exact decide_eq_true (h2.mpr rfl)
    | false => exact decide_eq_false fun q => by have := h2.mp q; cases this
  rw [e]
/-- one pattern of several parts, the part itself where there is one -/
def ofP (w : W3) : List Pt → Pt
  | [p] => p
  | ps => .nary w ps
theorem ofP_of (w : W3) {ps : List Pt} (h : ps ≠ []) : ofParts w (ps.map md) = some (md (ofP w ps)) := by
  match ps, h with
  | [p], _ => rfl
  | p :: q :: ps, _ => exact of_md w (ps := p :: q :: ps) (by simp)
theorem ofP_ok {l : Str} (w : W3) {ps : List Pt} (h : ps ≠ []) (hl : ps.length ≤ 1000) (ho : okPs l ps = true) : okP l (ofP w ps) = true := by
  match ps, h, hl, ho with
  | [p], _, _, ho =>
    show okP l p = true
    simpa [okPs] using ho
  | p :: q :: ps, _, hl, ho =>
    simp only [ofP, okP, Bool.and_eq_true, decide_eq_true_eq]
    exact ⟨⟨by simp, hl⟩, ho⟩
theorem ofP_dep2 (w : W3) {ps : List Pt} (h : ps ≠ []) {N : Nat} (hd : ∀ p ∈ ps, depD (toD p) + 2 * ps.length ≤ N + 2) : depD (toD (ofP w ps)) ≤ N := by
  match ps, h, hd with
  | [p], _, hd =>
    have := hd p List.mem_cons_self
    simp only [List.length_cons, List.length_nil] at this
    show depD (toD p) ≤ N
    omega
  | p :: q :: ps, _, hd =>
    have h0 := hd p List.mem_cons_self
    have := dep_pos p
    simp only [List.length_cons] at hd h0
    have hm : depDs (toDs (p :: q :: ps)) ≤ N - 2 := depDs_le fun d hd2 => by
      rw [toDs_map] at hd2
      obtain ⟨x, hx, rfl⟩ := List.mem_map.mp hd2
      have := hd x hx
      omega
    simp only [ofP, toD, depD, depDs] at hm ⊢
    omega
theorem ofP_dep1 (w : W3) {ps : List Pt} (h : ps ≠ []) {N : Nat} (hd : ∀ p ∈ ps, depD (toD p) + ps.length ≤ N + 1) : depD (toD (ofP w ps)) ≤ N + 1 := by
  match ps, h, hd with
  | [p], _, hd =>
    have := hd p List.mem_cons_self
    simp only [List.length_cons, List.length_nil] at this
    show depD (toD p) ≤ N + 1
    omega
  | p :: q :: ps, _, hd =>
    have h0 := hd p List.mem_cons_self
    have := dep_pos p
    simp only [List.length_cons] at hd h0
    have hm : depDs (toDs (p :: q :: ps)) ≤ N - 1 := depDs_le fun d hd2 => by
      rw [toDs_map] at hd2
      obtain ⟨x, hx, rfl⟩ := List.mem_map.mp hd2
      have := hd x hx
      omega
    simp only [ofP, toD, depD, depDs] at hm ⊢
    omega
theorem ev_of (k : Nat) (w : W3) (ps : List Pt) (h : ps ≠ []) (q : Nat) (s : Store) (hs : s[q]? = some (.lst (toDs ps))) : fns (k + 1) i__law_of [.str (Str.ofString w.s), .ref q] s = .ok (toD (ofP w ps)) s := by
  rw [e__law_of]
  have hl := lenD_ref hs
  rw [toDs_len] at hl
  match ps, h, hs, hl with
  | [p], _, hs, hl =>
    have hx : ixD (.ref q) (.int 0) s = .ok (toD p) s := by
      simp only [toDs] at hs
      simp [ixD, rdS, hs, atI_0]
    simp [m__law_of, bodyF, env0, sSeq, sSet, sIf, sRet, sRetN, sExpr, sPass, sRaise, sBad, eVar, eC, eTup, eLst, aCons, aNil, eCall, ar, DE.e2, eAnd, eOr, eNot, eIf, eNeg, tVal, tAndM, tOrM, tNotM, tYesM, eChain, isiD, tyOf, isTy, eM1, oNone, oSome, eCut, R.bind_ok, R.bind_exc, R.bindS_ok, R.bindS_exc, RS.bind_next, RS.bind_ret, RS.bind_exc, LINE, ofS_inj, ofS_ok, eqD_int, eqD_ss, inD3_ss, inD2_ss, hl, hx, ofP]
  | p :: r :: ps, _, hs, hl =>
    have ht : tupleD [.ref q] s = .ok (.tup (toDs (p :: r :: ps))) s := by
      show (match rdS s (.ref q) with | some xs => (R.ok (D.tup xs) s : R D) | none => .bad) = _
      simp [rdS, hs]
    have hn : ¬ ((ps.length : Int) + 1 + 1 = 1) := by omega
    have e : ofP w (p :: r :: ps) = .nary w (p :: r :: ps) := rfl
    rw [e]
    generalize hz : toDs (p :: r :: ps) = Z at *
    simp only [List.length_cons] at hl
    have hl : lenD [.ref q] s = .ok (.int ((ps.length : Int) + 1 + 1)) s := hl
    simp [m__law_of, bodyF, env0, sSeq, sSet, sIf, sRet, sRetN, sExpr, sPass, sRaise, sBad, eVar, eC, eTup, eLst, aCons, aNil, eCall, ar, DE.e2, eAnd, eOr, eNot, eIf, eNeg, tVal, tAndM, tOrM, tNotM, tYesM, eChain, isiD, tyOf, isTy, eM1, oNone, oSome, eCut, R.bind_ok, R.bind_exc, R.bindS_ok, R.bindS_exc, RS.bind_next, RS.bind_ret, RS.bind_exc, LINE, ofS_inj, ofS_ok, eqD_int, eqD_ss, inD3_ss, inD2_ss, hl, hn, ht, toD, hz]
theorem prefix_set {s0 s : Store} {q : Nat} {c : Cell} (h : s0 <+: s) (hq : s0.length ≤ q) : s0 <+: s.set q c := by
  obtain ⟨u, rfl⟩ := h
  rw [List.set_append_right _ _ hq]
  exact List.prefix_append _ _
theorem get_pre {s s1 : Store} {q : Nat} {c : Cell} (h : s <+: s1) (e : s[q]? = some c) : s1[q]? = some c := prefix_get h e
theorem ap_toD {s : Store} {q : Nat} {ps : List Pt} (h : s[q]? = some (.lst (toDs ps))) (hl : ps.length ≤ 1000) (p : Pt) : apD (.ref q) (toD p) s = .ok .non (s.set q (.lst (toDs (ps ++ [p])))) ∧ isLst s (.ref q) = true := by
  refine ⟨?_, by simp [isLst, h]⟩
  simp only [apD, h, toDs_len]
  rw [if_pos (Nat.lt_of_le_of_lt hl (by decide)), toDs_app]
  rfl
theorem eq_live {l : Str} (hl : strOk' l = true) {s : Store} {q : Nat} {ps : List Pt} (h : s[q]? = some (.lst (toDs ps))) (ho : okPs l ps = true) (hd : ∀ p ∈ ps, depD (toD p) ≤ 180) : eqD false (.ref q) (.lst []) s = .ok (.bl ps.isEmpty) s := by
  have h1 := lay_toDs hl ps ho
  have e1 : res s (.ref q) = some (.lst (toDs ps)) := by
    show sub _ _ = _
    simp only [sub, fr, h]
    rw [if_neg (Nat.not_lt_zero _), subs_pure _ _ h1.2]
    rfl
  have e2 : res s (.lst []) = some (.lst []) := by simp [sub, subs]
  have e3 : eqv (.lst (toDs ps)) (.lst []) = ps.isEmpty := by
    cases ps with
    | nil => simp [toDs, eqv, pyOf, pyOfs, PyData.eqv, PyData.eqvAll]
    | cons x xs => simp [toDs, eqv, pyOf, pyOfs, PyData.eqv, PyData.eqvAll]
  have hdd : depDs (toDs ps) ≤ 180 := depDs_le fun d hd2 => by
    rw [toDs_map] at hd2
    obtain ⟨x, hx, rfl⟩ := List.mem_map.mp hd2
    exact hd x hx
  unfold eqD
  rw [e1, e2]
  simp only [layD, h1.1, layDs, depD, e3]
  rw [if_pos ⟨trivial, trivial, by omega⟩]
  rfl
noncomputable def halfC : DE.TM := tVal (DE.e2 (inD true) (eCut (eVar 1) (oSome (eVar 2)) (oSome (DE.e2 addD (eVar 2) (eC (.int 1))))) (eLst (aCons (eC (.str "")) (aCons (eC (.str "|")) (aCons (eC (.str "&")) (aCons (eC (.str ")")) aNil))))))
noncomputable def halfB (call : Nat → Fn) : DE.SM := (sSeq (sSet 4 (eCall (ar 3 (call i__law_item)) (aCons (eVar 0) (aCons (eVar 1) (aCons (eVar 2) aNil)))))
  (sSeq (sIf (tVal (DE.e2 (isD false) (eVar 4) (eC .non)))
  (sRet (eC .non))
  sPass)
  (sSeq (sExpr (eLM apD (eVar 3) (DE.e2 ixD (eVar 4) (eC (.int 0)))))
  (sSet 2 (DE.e2 ixD (eVar 4) (eC (.int 1)))))))
theorem m_half_eq (call : Nat → Fn) : m__law_half call = sSeq (sSet 3 (eNew aNil)) (sSeq (sWhile halfC (halfB call)) (sRet (eIf (tVal (DE.e2 (eqD false) (eVar 3) (eLst aNil))) (eC .non) (eTup (aCons (eCall (ar 2 (call i__law_of)) (aCons (eC (.str "row")) (aCons (eVar 3) aNil))) (aCons (eVar 2) aNil)))))) := rfl
abbrev henv (l : Str) (t : List Nat) (i q : Nat) (x : Option D) : DE.Env := [some (.str l), some (.str (S' t)), some (.int (i : Nat)), some (.ref q), x]
section
variable (l : Str) (hL : LetF l) (t : List Nat) (ht : okT t) (h150 : t.length ≤ 150) (k : Nat)
include ht in
theorem halfC_ok (i q : Nat) (x : Option D) (s : Store) (b : Bool) (hb : EndHd (t.drop i) ↔ b = true) : halfC (henv l t i q x) s = .ok (!b) s := by
  have c1 := cut1 (i := i) (s := s) ht
  have e := end_in (s := s) ht b hb true
  simp [halfC, bodyF, env0, sSeq, sSet, sIf, sRet, sRetN, sExpr, sPass, sRaise, sBad, eVar, eC, eTup, eLst, aCons, aNil, eCall, ar, DE.e2, eAnd, eOr, eNot, eIf, eNeg, tVal, tAndM, tOrM, tNotM, tYesM, eChain, isiD, tyOf, isTy, eM1, oNone, oSome, eCut, R.bind_ok, R.bind_exc, R.bindS_ok, R.bindS_exc, RS.bind_next, RS.bind_ret, RS.bind_exc, LINE, ofS_inj, ofS_ok, eqD_int, eqD_ss, inD3_ss, inD2_ss, addD_int, c1, e]
include hL ht h150 in
theorem half_loop (hI : ItemOk l t k) (i0 : Nat) (s0 : Store) : ∀ (n i : Nat) (s : Store) (ps : List Pt) (x : Option D), t.length - i ≤ n → i0 ≤ i → i ≤ t.length → wt (t.drop i) + 1 ≤ k → s0 <+: s → s[s0.length]? = some (.lst (toDs ps)) → okPs l ps = true →
    ps.length ≤ i - i0 → (∀ p ∈ ps, depD (toD p) + ps.length ≤ (i - i0) + 1) → (∀ b st, b.cs = [] → b.n = 0 → Go l.cps.toList b st (t.drop i0) ⟨b.bs, b.hs, ps.map md, 0⟩ st (t.drop i)) →
    (∃ (ps : List Pt) (j : Nat) (s' : Store) (x' : Option D), sWhile halfC (halfB (fns k)) (henv l t i s0.length x) s = .next (henv l t j s0.length x') s' ∧ s0 <+: s' ∧ s'[s0.length]? = some (.lst (toDs ps)) ∧ okPs l ps = true ∧ i0 ≤ j ∧ j ≤ t.length ∧ ps.length ≤ j - i0 ∧
      (∀ p ∈ ps, depD (toD p) + ps.length ≤ (j - i0) + 1) ∧ EndHd (t.drop j) ∧ ∀ b st, b.cs = [] → b.n = 0 → Go l.cps.toList b st (t.drop i0) ⟨b.bs, b.hs, ps.map md, 0⟩ st (t.drop j)) ∨
    (∃ s' : Store, sWhile halfC (halfB (fns k)) (henv l t i s0.length x) s = .ret .non s' ∧ s0 <+: s' ∧ ∀ b st, b.cs = [] → b.n = 0 → Dead l.cps.toList b st (t.drop i0)) := by
  intro n
  induction n with
  | zero =>
    intro i s ps x hn h1 h2 hw hs hq ho h3 h4 hg
    have hd : t.drop i = [] := List.drop_eq_nil_of_le (by omega)
    refine .inl ⟨ps, i, s, x, ?_, hs, hq, ho, h1, h2, h3, h4, .inl hd, hg⟩
    rw [sWhile_eq, halfC_ok l t ht i s0.length x s true ⟨fun _ => rfl, fun _ => .inl hd⟩]
    rfl
  | succ n ih =>
    intro i s ps x hn h1 h2 hw hs hq ho h3 h4 hg
    by_cases he : EndHd (t.drop i)
    · refine .inl ⟨ps, i, s, x, ?_, hs, hq, ho, h1, h2, h3, h4, he, hg⟩
      rw [sWhile_eq, halfC_ok l t ht i s0.length x s true ⟨fun _ => rfl, fun _ => he⟩]
      rfl
    · have ec := halfC_ok l t ht i s0.length x s false ⟨fun q => absurd q he, fun q => by cases q⟩
      rcases hI i s h2 hw with ⟨p, j, s1, e, hs1, g1, g2, g3, g4, g5⟩ | ⟨s1, e, hs1, g5⟩
      · have hq1 := get_pre hs1 hq
        obtain ⟨a1, a2⟩ := ap_toD hq1 (by omega) p
        have x0 : ixD (.tup [toD p, .int (j : Nat)]) (.int 0) s1 = .ok (toD p) s1 := ixD_t0
        have x2 : ∀ s, ixD (.tup [toD p, .int (j : Nat)]) (.int 1) s = .ok (.int (j : Nat)) s := fun s => ixD_t1
        have eb : halfB (fns k) (henv l t i s0.length x) s = .next (henv l t j s0.length (some (.tup [toD p, .int (j : Nat)]))) (s1.set s0.length (.lst (toDs (ps ++ [p])))) := by
          generalize fns k = call at *
          generalize toDs (ps ++ [p]) = Z at *
          generalize toD p = P at *
          simp [halfB, bodyF, env0, sSeq, sSet, sIf, sRet, sRetN, sExpr, sPass, sRaise, sBad, eVar, eC, eTup, eLst, aCons, aNil, eCall, ar, DE.e2, eAnd, eOr, eNot, eIf, eNeg, tVal, tAndM, tOrM, tNotM, tYesM, eChain, isiD, tyOf, isTy, eM1, oNone, oSome, eCut, R.bind_ok, R.bind_exc, R.bindS_ok, R.bindS_exc, RS.bind_next, RS.bind_ret, RS.bind_exc, LINE, ofS_inj, ofS_ok, eqD_int, eqD_ss, inD3_ss, inD2_ss, e, isD, isNon, eLM, a1, a2, x0, x2]
        have hz : s0.length < s1.length := lt_of_get hq1
        have := ih j (s1.set s0.length (.lst (toDs (ps ++ [p])))) (ps ++ [p]) (some (.tup [toD p, .int (j : Nat)])) (by omega) (by omega) g2 (by
          have := wt_drop t i j (by omega)
          omega) (prefix_set (hs.trans hs1) (Nat.le_refl _)) (get_set_eq hz) (okPs_app.mpr ⟨ho, by simp [okPs, g3]⟩) (by simp; omega) (fun y hy => by
            rw [List.length_append, List.length_singleton]
            rcases List.mem_append.mp hy with hy | hy
            · have := h4 y hy
              omega
            · have : y = p := by simpa using hy
              subst this
              omega) (fun b st hb hn2 => by
            have ga := hg b st hb hn2
            have gb := g5 ⟨b.bs, b.hs, ps.map md, 0⟩ st
            have e2 : (ps ++ [p]).map md = ps.map md ++ [md (towN .not 0 p)] := by simp [towN]
            rw [e2]
            exact ga.trans gb)
        rw [sWhile_eq, ec]
        simp only [R.bindS_ok, Bool.not_false, if_true, eb, loopB_next]
        exact this
      · have eb : halfB (fns k) (henv l t i s0.length x) s = .ret .non s1 := by
          generalize fns k = call at *
          simp [halfB, bodyF, env0, sSeq, sSet, sIf, sRet, sRetN, sExpr, sPass, sRaise, sBad, eVar, eC, eTup, eLst, aCons, aNil, eCall, ar, DE.e2, eAnd, eOr, eNot, eIf, eNeg, tVal, tAndM, tOrM, tNotM, tYesM, eChain, isiD, tyOf, isTy, eM1, oNone, oSome, eCut, R.bind_ok, R.bind_exc, R.bindS_ok, R.bindS_exc, RS.bind_next, RS.bind_ret, RS.bind_exc, LINE, ofS_inj, ofS_ok, eqD_int, eqD_ss, inD3_ss, inD2_ss, e, isD, isNon]
        refine .inr ⟨s1, ?_, hs.trans hs1, fun b st hb hn2 => dead_go (hg b st hb hn2) (g5 _ st (.inr he))⟩
        rw [sWhile_eq, ec]
        simp only [R.bindS_ok, Bool.not_false, if_true, eb, loopB_ret]
include hL ht h150 in
theorem half_step (hI : ItemOk l t k) : HalfOk l t (k + 1) := by
  intro i s hi hw
  have hk : ∃ j, k = j + 1 := ⟨k - 1, by omega⟩
  have e1 : sSet 3 (eNew aNil) (env0 5 [.str l, .str (S' t), .int (i : Nat)]) s = .next (henv l t i s.length none) (s ++ [.lst []]) := by
    simp [bodyF, env0, sSeq, sSet, sIf, sRet, sRetN, sExpr, sPass, sRaise, sBad, eVar, eC, eTup, eLst, aCons, aNil, eCall, ar, DE.e2, eAnd, eOr, eNot, eIf, eNeg, tVal, tAndM, tOrM, tNotM, tYesM, eChain, isiD, tyOf, isTy, eM1, oNone, oSome, eCut, R.bind_ok, R.bind_exc, R.bindS_ok, R.bindS_exc, RS.bind_next, RS.bind_ret, RS.bind_exc, LINE, ofS_inj, ofS_ok, eqD_int, eqD_ss, inD3_ss, inD2_ss, eNew, env0]
  have lp := half_loop l hL t ht h150 k hI i s (t.length - i) i (s ++ [.lst []]) [] none (Nat.le_refl _) (Nat.le_refl _) hi (by omega) (List.prefix_append _ _) (by simp [toDs]) rfl (by simp) (by simp) (fun b st hb hn => by
    have : (⟨b.bs, b.hs, [].map md, 0⟩ : Br) = b := by
      obtain ⟨x, y, z, n⟩ := b
      simp only at hb hn
      subst hb hn
      rfl
    rw [this]
    exact .refl _ _ _)
  rcases lp with ⟨ps, j, s', x', e2, hs, hq, ho, h1, h2, h3, h4, h5, hg⟩ | ⟨s', e2, hs, hdead⟩
  · have eq := eq_live hL.sok hq ho (fun p hp => by have := h4 p hp; omega)
    cases ps with
    | nil =>
      refine .inr ⟨s', ?_, hs, fun b st hb hn => dead_go (hg b st hb hn) (dead_half (half_c rfl) h5)⟩
      rw [e__law_half, m_half_eq]
      refine body_ret ((seq_to e1).trans ((seq_to e2).trans ?_))
      generalize fns k = call at *
      simp [bodyF, env0, sSeq, sSet, sIf, sRet, sRetN, sExpr, sPass, sRaise, sBad, eVar, eC, eTup, eLst, aCons, aNil, eCall, ar, DE.e2, eAnd, eOr, eNot, eIf, eNeg, tVal, tAndM, tOrM, tNotM, tYesM, eChain, isiD, tyOf, isTy, eM1, oNone, oSome, eCut, R.bind_ok, R.bind_exc, R.bindS_ok, R.bindS_exc, RS.bind_next, RS.bind_ret, RS.bind_exc, LINE, ofS_inj, ofS_ok, eqD_int, eqD_ss, inD3_ss, inD2_ss, eq]
    | cons p ps =>
      have hne : p :: ps ≠ [] := by simp
      obtain ⟨k', rfl⟩ := hk
      have eo : fns (k' + 1) i__law_of [.str (Str.ofString "row"), .ref s.length] s' = .ok (toD (ofP .row (p :: ps))) s' := ev_of k' .row (p :: ps) hne s.length s' hq
      refine .inl ⟨ofP .row (p :: ps), j, s', ?_, hs, ?_, h2, ofP_ok .row hne (by omega) ho, ?_, h5, fun b st hb hn => ⟨(p :: ps).map md, hg b st hb hn, ofP_of .row hne⟩⟩
      · rw [e__law_half, m_half_eq]
        refine body_ret ((seq_to e1).trans ((seq_to e2).trans ?_))
        generalize fns (k' + 1) = call at *
        generalize toD (ofP .row (p :: ps)) = P at *
        simp only [List.isEmpty_cons] at eq
        simp [bodyF, env0, sSeq, sSet, sIf, sRet, sRetN, sExpr, sPass, sRaise, sBad, eVar, eC, eTup, eLst, aCons, aNil, eCall, ar, DE.e2, eAnd, eOr, eNot, eIf, eNeg, tVal, tAndM, tOrM, tNotM, tYesM, eChain, isiD, tyOf, isTy, eM1, oNone, oSome, eCut, R.bind_ok, R.bind_exc, R.bindS_ok, R.bindS_exc, RS.bind_next, RS.bind_ret, RS.bind_exc, LINE, ofS_inj, ofS_ok, eqD_int, eqD_ss, inD3_ss, inD2_ss, eq, eo]
      · simp only [List.length_cons] at h3
        omega
      · exact ofP_dep1 .row hne h4
  · refine .inr ⟨s', ?_, hs, hdead⟩
    rw [e__law_half, m_half_eq]
    refine body_ret ((seq_to e1).trans (seq_stop e2))
end
end G
/-! K3D: the law's either, due, told -/
namespace G
open PySem PySem.Spec PyProof.Rows L2 DE PySem.StrLaws
noncomputable def eitS (call : Nat → Fn) : DE.SM := (sSeq (sExpr (eLM apD (eVar 3) (eCall (ar 2 (call i__law_of)) (aCons (eC (.str "and")) (aCons (eVar 4) aNil)))))
  (sSet 4 (eNew aNil)))
noncomputable def eit5 (call : Nat → Fn) : DE.SM := (sIf (tVal (DE.e2 (eqD true) (eCut (eVar 1) (oSome (DE.e2 ixD (eVar 5) (eC (.int 1)))) (oSome (eVar 2))) (eC (.str "&"))))
  (eitS call)
  sPass)
noncomputable def eit6 (call : Nat → Fn) : DE.SM := (sIf (tVal (DE.e2 (inD true) (eCut (eVar 1) (oSome (DE.e2 ixD (eVar 5) (eC (.int 1)))) (oSome (eVar 2))) (eLst (aCons (eC (.str "&")) (aCons (eC (.str "|")) aNil)))))
  (sRet (eTup (aCons (eCall (ar 2 (call i__law_of)) (aCons (eC (.str "or")) (aCons (eVar 3) aNil))) (aCons (DE.e2 ixD (eVar 5) (eC (.int 1))) aNil))))
  sPass)
noncomputable def eit1 (call : Nat → Fn) : DE.SM := (sSet 5 (eCall (ar 3 (call i__law_half)) (aCons (eVar 0) (aCons (eVar 1) (aCons (eVar 2) aNil)))))
noncomputable def eit2 : DE.SM := (sIf (tVal (DE.e2 (isD false) (eVar 5) (eC .non)))
  (sRet (eC .non))
  sPass)
noncomputable def eit3 : DE.SM := (sExpr (eLM apD (eVar 4) (DE.e2 ixD (eVar 5) (eC (.int 0)))))
noncomputable def eit4 : DE.SM := (sSet 2 (DE.e2 addD (DE.e2 ixD (eVar 5) (eC (.int 1))) (eC (.int 1))))
noncomputable def eitB (call : Nat → Fn) : DE.SM := sSeq (eit1 call) (sSeq eit2 (sSeq eit3 (sSeq eit4 (sSeq (eit5 call) (eit6 call)))))
theorem m_either_eq (call : Nat → Fn) : m__law_either call = sSeq (sSet 3 (eNew aNil)) (sSeq (sSet 4 (eNew aNil)) (sWhile (tVal (eC (.bl true))) (eitB call))) := rfl
abbrev eenv (l : Str) (t : List Nat) (i qb qh : Nat) (x : Option D) : DE.Env := [some (.str l), some (.str (S' t)), some (.int (i : Nat)), some (.ref qb), some (.ref qh), x]
abbrev lstD (ps : List Pt) : Cell := .lst (toDs ps)
/-- what the loop gives -/
def EitRes (l : Str) (t : List Nat) (i0 : Nat) (s0 : Store) (r : RS) : Prop :=
    (∃ (p : Pt) (j : Nat) (s' : Store), r = .ret (.tup [toD p, .int (j : Nat)]) s' ∧ s0 <+: s' ∧ i0 < j ∧ j ≤ t.length ∧ okP l p = true ∧ depD (toD p) ≤ j - i0 + 1 ∧ CloseHd (t.drop j) ∧
      ∀ st, ∃ b', Go l.cps.toList br0 st (t.drop i0) b' st (t.drop j) ∧ closeB b' = some (md p)) ∨
    (∃ s' : Store, r = .ret .non s' ∧ s0 <+: s' ∧ ∀ st, Dead l.cps.toList br0 st (t.drop i0))
section
variable (l : Str) (t : List Nat) (ht : okT t)
include ht
theorem cutj (i : Nat) (s : Store) : cutD (.str (S' t)) (some (i : Int)) (some (((i : Nat) : Int) + 1)) s = .ok (.str (S' ((t.drop i).take 1))) s := cut1 ht
theorem e5_stay (call : Nat → Fn) (j qb qh : Nat) (P : D) (s : Store) (h : (t.drop j).take 1 = [38]) : eit5 call (eenv l t (j + 1) qb qh (some (.tup [P, .int (j : Nat)]))) s = .next (eenv l t (j + 1) qb qh (some (.tup [P, .int (j : Nat)]))) s := by
  have x2 : ixD (.tup [P, .int (j : Nat)]) (.int 1) s = .ok (.int (j : Nat)) s := ixD_t1
  have c1 := cutj t ht j s
  have q := eq_txt (s := s) (i := j) (n := 1) ht true lit_amp
  rw [decide_eq_true h] at q
  simp [eit5, bodyF, env0, sSeq, sSet, sIf, sRet, sRetN, sExpr, sPass, sRaise, sBad, eVar, eC, eTup, eLst, aCons, aNil, eCall, ar, DE.e2, eAnd, eOr, eNot, eIf, eNeg, tVal, tAndM, tOrM, tNotM, tYesM, eChain, isiD, tyOf, isTy, eM1, oNone, oSome, eCut, R.bind_ok, R.bind_exc, R.bindS_ok, R.bindS_exc, RS.bind_next, RS.bind_ret, RS.bind_exc, LINE, ofS_inj, ofS_ok, eqD_int, eqD_ss, inD3_ss, inD2_ss, x2, c1, q]
theorem e5_go (call : Nat → Fn) (j qb qh : Nat) (P : D) (s : Store) (h : ¬ (t.drop j).take 1 = [38]) : eit5 call (eenv l t (j + 1) qb qh (some (.tup [P, .int (j : Nat)]))) s = eitS call (eenv l t (j + 1) qb qh (some (.tup [P, .int (j : Nat)]))) s := by
  have x2 : ixD (.tup [P, .int (j : Nat)]) (.int 1) s = .ok (.int (j : Nat)) s := ixD_t1
  have c1 := cutj t ht j s
  have q := eq_txt (s := s) (i := j) (n := 1) ht true lit_amp
  rw [decide_eq_false h] at q
  unfold eit5
  generalize eitS call = SS
  simp [bodyF, env0, sSeq, sSet, sIf, sRet, sRetN, sExpr, sPass, sRaise, sBad, eVar, eC, eTup, eLst, aCons, aNil, eCall, ar, DE.e2, eAnd, eOr, eNot, eIf, eNeg, tVal, tAndM, tOrM, tNotM, tYesM, eChain, isiD, tyOf, isTy, eM1, oNone, oSome, eCut, R.bind_ok, R.bind_exc, R.bindS_ok, R.bindS_exc, RS.bind_next, RS.bind_ret, RS.bind_exc, LINE, ofS_inj, ofS_ok, eqD_int, eqD_ss, inD3_ss, inD2_ss, x2, c1, q]
theorem two_in (j : Nat) (s : Store) (b : Bool) (hb : ((t.drop j).take 1 = [38] ∨ (t.drop j).take 1 = [124]) ↔ b = true) : inD true (.str (S' ((t.drop j).take 1))) (.lst [.str (Str.ofString "&"), .str (Str.ofString "|")]) s = .ok (.bl (!b)) s := by
  have := inLs true (S' ((t.drop j).take 1)) [Str.ofString "&", Str.ofString "|"] s (ht.drop _ _) (by
    intro w hw
    simp only [List.mem_cons, List.not_mem_nil, or_false] at hw
    rcases hw with rfl | rfl <;> exact ofS_ok _)
  simp only [List.map_cons, List.map_nil] at this
  rw [this]
  have e : decide (S' ((t.drop j).take 1) ∈ [Str.ofString "&", Str.ofString "|"]) = b := by
    rw [lit_amp, lit_bar]
    have h2 : (S' ((t.drop j).take 1) ∈ [S' [38], S' [124]]) ↔ b = true := by
      simp only [List.mem_cons, List.not_mem_nil, or_false, S'_inj]
      exact hb
    cases b with
    | true => exact decide_eq_true (h2.mpr rfl)
    | false => exact decide_eq_false fun q => by have := h2.mp q; cases this
  rw [e]
  rfl
theorem e6_stay (call : Nat → Fn) (j qb qh : Nat) (P : D) (s : Store) (h : (t.drop j).take 1 = [38] ∨ (t.drop j).take 1 = [124]) : eit6 call (eenv l t (j + 1) qb qh (some (.tup [P, .int (j : Nat)]))) s = .next (eenv l t (j + 1) qb qh (some (.tup [P, .int (j : Nat)]))) s := by
  have x2 : ixD (.tup [P, .int (j : Nat)]) (.int 1) s = .ok (.int (j : Nat)) s := ixD_t1
  have c1 := cutj t ht j s
  have q := two_in t ht j s true ⟨fun _ => rfl, fun _ => h⟩
  simp [eit6, bodyF, env0, sSeq, sSet, sIf, sRet, sRetN, sExpr, sPass, sRaise, sBad, eVar, eC, eTup, eLst, aCons, aNil, eCall, ar, DE.e2, eAnd, eOr, eNot, eIf, eNeg, tVal, tAndM, tOrM, tNotM, tYesM, eChain, isiD, tyOf, isTy, eM1, oNone, oSome, eCut, R.bind_ok, R.bind_exc, R.bindS_ok, R.bindS_exc, RS.bind_next, RS.bind_ret, RS.bind_exc, LINE, ofS_inj, ofS_ok, eqD_int, eqD_ss, inD3_ss, inD2_ss, x2, c1, q]
theorem e6_ret (call : Nat → Fn) (j qb qh : Nat) (P Q : D) (s : Store) (h : ¬ ((t.drop j).take 1 = [38] ∨ (t.drop j).take 1 = [124])) (e : call i__law_of [.str (Str.ofString "or"), .ref qb] s = .ok Q s) : eit6 call (eenv l t (j + 1) qb qh (some (.tup [P, .int (j : Nat)]))) s = .ret (.tup [Q, .int (j : Nat)]) s := by
  have x2 : ixD (.tup [P, .int (j : Nat)]) (.int 1) s = .ok (.int (j : Nat)) s := ixD_t1
  have c1 := cutj t ht j s
  have q := two_in t ht j s false ⟨fun q => absurd q h, fun q => by cases q⟩
  simp [eit6, bodyF, env0, sSeq, sSet, sIf, sRet, sRetN, sExpr, sPass, sRaise, sBad, eVar, eC, eTup, eLst, aCons, aNil, eCall, ar, DE.e2, eAnd, eOr, eNot, eIf, eNeg, tVal, tAndM, tOrM, tNotM, tYesM, eChain, isiD, tyOf, isTy, eM1, oNone, oSome, eCut, R.bind_ok, R.bind_exc, R.bindS_ok, R.bindS_exc, RS.bind_next, RS.bind_ret, RS.bind_exc, LINE, ofS_inj, ofS_ok, eqD_int, eqD_ss, inD3_ss, inD2_ss, x2, c1, q, e]
omit ht in
theorem eS_ok (call : Nat → Fn) (j qb qh : Nat) (x : D) (P : Pt) (bs : List Pt) (s : Store) (hb : s[qb]? = some (lstD bs)) (hbl : bs.length ≤ 1000) (e : call i__law_of [.str (Str.ofString "and"), .ref qh] s = .ok (toD P) s) :
    eitS call (eenv l t j qb qh (some x)) s = .next (eenv l t j qb s.length (some x)) (s.set qb (lstD (bs ++ [P])) ++ [lstD []]) := by
  obtain ⟨a1, a2⟩ := ap_toD hb hbl P
  generalize toD P = Q at *
  simp [eitS, bodyF, env0, sSeq, sSet, sIf, sRet, sRetN, sExpr, sPass, sRaise, sBad, eVar, eC, eTup, eLst, aCons, aNil, eCall, ar, DE.e2, eAnd, eOr, eNot, eIf, eNeg, tVal, tAndM, tOrM, tNotM, tYesM, eChain, isiD, tyOf, isTy, eM1, oNone, oSome, eCut, R.bind_ok, R.bind_exc, R.bindS_ok, R.bindS_exc, RS.bind_next, RS.bind_ret, RS.bind_exc, LINE, ofS_inj, ofS_ok, eqD_int, eqD_ss, inD3_ss, inD2_ss, eLM, a1, a2, e, eNew, toDs]
end
section
variable (l : Str) (hL : LetF l) (t : List Nat) (ht : okT t) (h150 : t.length ≤ 150) (k : Nat)
include hL ht h150
theorem either_loop (hH : HalfOk l t (k + 1)) (i0 : Nat) (s0 : Store) : ∀ (n ih i : Nat) (s : Store) (qb qh : Nat) (bs hs : List Pt) (x : Option D), t.length + 1 - i ≤ n → i0 ≤ ih → ih ≤ i → i ≤ t.length → wt (t.drop i) + 2 ≤ k + 1 → s0 <+: s → s0.length ≤ qb → s0.length ≤ qh → qb ≠ qh →
    s[qb]? = some (lstD bs) → s[qh]? = some (lstD hs) → okPs l bs = true → okPs l hs = true →
    2 * bs.length ≤ ih - i0 → (∀ p ∈ bs, depD (toD p) + 2 * bs.length ≤ (ih - i0) + 2) → 2 * hs.length ≤ i - ih → (∀ p ∈ hs, depD (toD p) + 2 * hs.length ≤ (i - ih) + 2) →
    (∀ st, Go l.cps.toList br0 st (t.drop i0) ⟨bs.map md, hs.map md, [], 0⟩ st (t.drop i)) → EitRes l t i0 s0 (sWhile (tVal (eC (.bl true))) (eitB (fns (k + 1))) (eenv l t i qb qh x) s) := by
  intro n
  induction n with
  | zero => intro ih i s qb qh bs hs x hn h1 h2 h3; omega
  | succ n IH =>
    intro ih i s qb qh bs hs x hn h1 h2 h3 hw hp hqb hqh hne hb hh hob hoh hbl hbd hhl hhd hg
    rw [sWhile_eq]
    have ec : (tVal (eC (.bl true))) (eenv l t i qb qh x) s = .ok true s := rfl
    rw [ec]
    simp only [R.bindS_ok, if_true]
    rcases hH i s h3 hw with ⟨p, j, s1, e, hs1, g1, g2, g3, g4, g6, g5⟩ | ⟨s1, e, hs1, g5⟩
    · have hb1 := get_pre hs1 hb
      have hh1 := get_pre hs1 hh
      obtain ⟨a1, a2⟩ := ap_toD hh1 (by omega) p
      have hltb := lt_of_get hb1
      have hlth := lt_of_get hh1
      have E1 : eit1 (fns (k + 1)) (eenv l t i qb qh x) s = .next (eenv l t i qb qh (some (.tup [toD p, .int (j : Nat)]))) s1 := by
        generalize fns (k + 1) = call at *
        simp [eit1, bodyF, env0, sSeq, sSet, sIf, sRet, sRetN, sExpr, sPass, sRaise, sBad, eVar, eC, eTup, eLst, aCons, aNil, eCall, ar, DE.e2, eAnd, eOr, eNot, eIf, eNeg, tVal, tAndM, tOrM, tNotM, tYesM, eChain, isiD, tyOf, isTy, eM1, oNone, oSome, eCut, R.bind_ok, R.bind_exc, R.bindS_ok, R.bindS_exc, RS.bind_next, RS.bind_ret, RS.bind_exc, LINE, ofS_inj, ofS_ok, eqD_int, eqD_ss, inD3_ss, inD2_ss, e]
      have E2 : eit2 (eenv l t i qb qh (some (.tup [toD p, .int (j : Nat)]))) s1 = .next (eenv l t i qb qh (some (.tup [toD p, .int (j : Nat)]))) s1 := by
        simp [eit2, bodyF, env0, sSeq, sSet, sIf, sRet, sRetN, sExpr, sPass, sRaise, sBad, eVar, eC, eTup, eLst, aCons, aNil, eCall, ar, DE.e2, eAnd, eOr, eNot, eIf, eNeg, tVal, tAndM, tOrM, tNotM, tYesM, eChain, isiD, tyOf, isTy, eM1, oNone, oSome, eCut, R.bind_ok, R.bind_exc, R.bindS_ok, R.bindS_exc, RS.bind_next, RS.bind_ret, RS.bind_exc, LINE, ofS_inj, ofS_ok, eqD_int, eqD_ss, inD3_ss, inD2_ss, isD, isNon]
      have hs2 : (s1.set qh (lstD (hs ++ [p])))[qb]? = some (lstD bs) := by rw [get_set_ne hne]; exact hb1
      have hs3 : (s1.set qh (lstD (hs ++ [p])))[qh]? = some (lstD (hs ++ [p])) := get_set_eq hlth
      have E3 : eit3 (eenv l t i qb qh (some (.tup [toD p, .int (j : Nat)]))) s1 = .next (eenv l t i qb qh (some (.tup [toD p, .int (j : Nat)]))) (s1.set qh (lstD (hs ++ [p]))) := by
        have x0 : ixD (.tup [toD p, .int (j : Nat)]) (.int 0) s1 = .ok (toD p) s1 := ixD_t0
        generalize hz : lstD (hs ++ [p]) = Z at *
        have a1 : apD (.ref qh) (toD p) s1 = .ok .non (s1.set qh Z) := by rw [a1, ← hz]
        generalize toD p = P at *
        simp [eit3, bodyF, env0, sSeq, sSet, sIf, sRet, sRetN, sExpr, sPass, sRaise, sBad, eVar, eC, eTup, eLst, aCons, aNil, eCall, ar, DE.e2, eAnd, eOr, eNot, eIf, eNeg, tVal, tAndM, tOrM, tNotM, tYesM, eChain, isiD, tyOf, isTy, eM1, oNone, oSome, eCut, R.bind_ok, R.bind_exc, R.bindS_ok, R.bindS_exc, RS.bind_next, RS.bind_ret, RS.bind_exc, LINE, ofS_inj, ofS_ok, eqD_int, eqD_ss, inD3_ss, inD2_ss, eLM, a1, a2, x0]
      have E4 : eit4 (eenv l t i qb qh (some (.tup [toD p, .int (j : Nat)]))) (s1.set qh (lstD (hs ++ [p]))) = .next (eenv l t (j + 1) qb qh (some (.tup [toD p, .int (j : Nat)]))) (s1.set qh (lstD (hs ++ [p]))) := by
        have x2 : ∀ s, ixD (.tup [toD p, .int (j : Nat)]) (.int 1) s = .ok (.int (j : Nat)) s := fun s => ixD_t1
        simp [eit4, bodyF, env0, sSeq, sSet, sIf, sRet, sRetN, sExpr, sPass, sRaise, sBad, eVar, eC, eTup, eLst, aCons, aNil, eCall, ar, DE.e2, eAnd, eOr, eNot, eIf, eNeg, tVal, tAndM, tOrM, tNotM, tYesM, eChain, isiD, tyOf, isTy, eM1, oNone, oSome, eCut, R.bind_ok, R.bind_exc, R.bindS_ok, R.bindS_exc, RS.bind_next, RS.bind_ret, RS.bind_exc, LINE, ofS_inj, ofS_ok, eqD_int, eqD_ss, inD3_ss, inD2_ss, x2, addD_int]
      have hp2 : s0 <+: s1.set qh (lstD (hs ++ [p])) := prefix_set (hp.trans hs1) hqh
      have hoh2 : okPs l (hs ++ [p]) = true := okPs_app.mpr ⟨hoh, by simp [okPs, g3]⟩
      have hne2 : hs ++ [p] ≠ [] := by simp
      have hlen2 : (hs ++ [p]).length = hs.length + 1 := by simp
      have hhd2 : ∀ y ∈ hs ++ [p], depD (toD y) + 2 * (hs ++ [p]).length ≤ (j + 1 - ih) + 2 := fun y hy => by
        rw [hlen2]
        rcases List.mem_append.mp hy with hy | hy
        · have := hhd y hy
          omega
        · have : y = p := by simpa using hy
          subst this
          omega
      -- the half within the bracket
      have hG : ∀ st, ∃ C, Go l.cps.toList br0 st (t.drop i0) ⟨bs.map md, hs.map md, C, 0⟩ st (t.drop j) ∧ ofParts .row C = some (md p) := fun st => by
        obtain ⟨C, gg, eC'⟩ := g5 ⟨bs.map md, hs.map md, [], 0⟩ st rfl rfl
        exact ⟨C, (hg st).trans gg, eC'⟩
      have hend : ∀ C, ofParts .row C = some (md p) → endHalf ⟨bs.map md, hs.map md, C, 0⟩ = some ⟨bs.map md, (hs ++ [p]).map md, [], 0⟩ := fun C eC' => by
        have := half_of (b := ⟨bs.map md, hs.map md, [], 0⟩) eC'
        rw [this]
        simp
      have hbr : ∀ C, ofParts .row C = some (md p) → endBranch ⟨bs.map md, hs.map md, C, 0⟩ = some ⟨(bs ++ [ofP .and (hs ++ [p])]).map md, [], [], 0⟩ := fun C eC' => by
        unfold endBranch
        rw [hend C eC']
        simp only [Option.bind_some]
        rw [ofP_of .and hne2]
        simp
      have eand : fns (k + 1) i__law_of [.str (Str.ofString "and"), .ref qh] (s1.set qh (lstD (hs ++ [p]))) = .ok (toD (ofP .and (hs ++ [p]))) (s1.set qh (lstD (hs ++ [p]))) := ev_of k .and (hs ++ [p]) hne2 qh _ hs3
      -- a branch ends: the store, the branches
      have hX : s0 <+: (s1.set qh (lstD (hs ++ [p]))).set qb (lstD (bs ++ [ofP .and (hs ++ [p])])) ++ [lstD []] := (prefix_set hp2 hqb).trans (List.prefix_append _ _)
      have hlen3 : ((s1.set qh (lstD (hs ++ [p]))).set qb (lstD (bs ++ [ofP .and (hs ++ [p])]))).length = s1.length := by simp
      have hXb : ((s1.set qh (lstD (hs ++ [p]))).set qb (lstD (bs ++ [ofP .and (hs ++ [p])])) ++ [lstD []])[qb]? = some (lstD (bs ++ [ofP .and (hs ++ [p])])) := by
        rw [get_app (by rw [hlen3]; exact hltb), get_set_eq (by simpa using hltb)]
      have hXh : ((s1.set qh (lstD (hs ++ [p]))).set qb (lstD (bs ++ [ofP .and (hs ++ [p])])) ++ [lstD []])[s1.length]? = some (lstD []) := by
        have := get_app_eq (s := (s1.set qh (lstD (hs ++ [p]))).set qb (lstD (bs ++ [ofP .and (hs ++ [p])]))) (c := lstD [])
        rw [hlen3] at this
        exact this
      have hdand : depD (toD (ofP .and (hs ++ [p]))) ≤ j + 1 - ih := ofP_dep2 .and hne2 hhd2
      have hoand : okP l (ofP .and (hs ++ [p])) = true := ofP_ok .and hne2 (by rw [hlen2]; omega) hoh2
      have hob2 : okPs l (bs ++ [ofP .and (hs ++ [p])]) = true := okPs_app.mpr ⟨hob, by simp [okPs, hoand]⟩
      have hlenb : (bs ++ [ofP .and (hs ++ [p])]).length = bs.length + 1 := by simp
      have hbd2 : ∀ y ∈ bs ++ [ofP .and (hs ++ [p])], depD (toD y) + 2 * (bs ++ [ofP .and (hs ++ [p])]).length ≤ (j + 1 - i0) + 2 := fun y hy => by
        rw [hlenb]
        rcases List.mem_append.mp hy with hy | hy
        · have := hbd y hy
          omega
        · have : y = ofP .and (hs ++ [p]) := by simpa using hy
          subst this
          omega
      have E5 : ¬ (t.drop j).take 1 = [38] → eit5 (fns (k + 1)) (eenv l t (j + 1) qb qh (some (.tup [toD p, .int (j : Nat)]))) (s1.set qh (lstD (hs ++ [p]))) = .next (eenv l t (j + 1) qb s1.length (some (.tup [toD p, .int (j : Nat)]))) ((s1.set qh (lstD (hs ++ [p]))).set qb (lstD (bs ++ [ofP .and (hs ++ [p])])) ++ [lstD []]) := fun h38 => by
        rw [e5_go l t ht (fns (k + 1)) j qb qh (toD p) _ h38, eS_ok l t (fns (k + 1)) (j + 1) qb qh (.tup [toD p, .int (j : Nat)]) (ofP .and (hs ++ [p])) bs (s1.set qh (lstD (hs ++ [p]))) hs2 (by omega) eand]
        simp
      rcases g6 with g6 | ⟨c, r, g6, hc⟩
      · -- the text's end
        have t0 : (t.drop j).take 1 = [] := by rw [g6]; rfl
        have eor : fns (k + 1) i__law_of [.str (Str.ofString "or"), .ref qb] ((s1.set qh (lstD (hs ++ [p]))).set qb (lstD (bs ++ [ofP .and (hs ++ [p])])) ++ [lstD []]) = .ok (toD (ofP .or (bs ++ [ofP .and (hs ++ [p])]))) _ := ev_of k .or _ (by simp) qb _ hXb
        have E6 := e6_ret l t ht (fns (k + 1)) j qb s1.length (toD p) _ _ (by rw [t0]; simp) eor
        refine .inl ⟨ofP .or (bs ++ [ofP .and (hs ++ [p])]), j, _, ?_, hX, by omega, g2, ofP_ok .or (by simp) (by rw [hlenb]; omega) hob2, ?_, .inl g6, fun st => ?_⟩
        · unfold eitB
          rw [(seq_to E1).trans ((seq_to E2).trans ((seq_to E3).trans ((seq_to E4).trans ((seq_to (E5 (by rw [t0]; simp))).trans E6))))]
          rfl
        · have := ofP_dep2 .or (by simp) hbd2
          omega
        · obtain ⟨C, gg, eC'⟩ := hG st
          refine ⟨_, gg, ?_⟩
          unfold closeB
          rw [hbr C eC']
          exact ofP_of .or (by simp)
      · have t0 : (t.drop j).take 1 = [c] := by rw [g6]; rfl
        have hj := drop_len g6
        have hr := drop_succ g6
        by_cases c38 : c = 38
        · subst c38
          have E5' := e5_stay l t ht (fns (k + 1)) j qb qh (toD p) (s1.set qh (lstD (hs ++ [p]))) t0
          have E6 := e6_stay l t ht (fns (k + 1)) j qb qh (toD p) (s1.set qh (lstD (hs ++ [p]))) (.inl t0)
          have hb' : eitB (fns (k + 1)) (eenv l t i qb qh x) s = .next (eenv l t (j + 1) qb qh (some (.tup [toD p, .int (j : Nat)]))) (s1.set qh (lstD (hs ++ [p]))) := by
            unfold eitB
            exact (seq_to E1).trans ((seq_to E2).trans ((seq_to E3).trans ((seq_to E4).trans ((seq_to E5').trans E6))))
          rw [hb', loopB_next]
          refine IH ih (j + 1) _ qb qh bs (hs ++ [p]) _ (by omega) h1 (by omega) (by omega) (by have := wt_drop t i (j + 1) (by omega); omega) hp2 hqb hqh hne hs2 hs3 hob hoh2 hbl hbd (by rw [hlen2]; omega) hhd2 (fun st => ?_)
          obtain ⟨C, gg, eC'⟩ := hG st
          rw [g6] at gg
          rw [hr]
          exact gg.trans (and_step (hend C eC'))
        · by_cases c124 : c = 124
          · subst c124
            have E6 := e6_stay l t ht (fns (k + 1)) j qb s1.length (toD p) ((s1.set qh (lstD (hs ++ [p]))).set qb (lstD (bs ++ [ofP .and (hs ++ [p])])) ++ [lstD []]) (.inr t0)
            have hb' : eitB (fns (k + 1)) (eenv l t i qb qh x) s = .next (eenv l t (j + 1) qb s1.length (some (.tup [toD p, .int (j : Nat)]))) ((s1.set qh (lstD (hs ++ [p]))).set qb (lstD (bs ++ [ofP .and (hs ++ [p])])) ++ [lstD []]) := by
              unfold eitB
              exact (seq_to E1).trans ((seq_to E2).trans ((seq_to E3).trans ((seq_to E4).trans ((seq_to (E5 (by rw [t0]; simp))).trans E6))))
            rw [hb', loopB_next]
            refine IH (j + 1) (j + 1) _ qb s1.length (bs ++ [ofP .and (hs ++ [p])]) [] _ (by omega) (by omega) (Nat.le_refl _) (by omega) (by have := wt_drop t i (j + 1) (by omega); omega) hX hqb (by have := (hp.trans hs1).length_le; omega) (by omega) hXb hXh hob2 rfl (by rw [hlenb]; omega) hbd2 (by simp) (by simp) (fun st => ?_)
            obtain ⟨C, gg, eC'⟩ := hG st
            rw [g6] at gg
            rw [hr]
            exact gg.trans (or_step (hbr C eC'))
          · have c41 : c = 41 := by omega
            subst c41
            have eor : fns (k + 1) i__law_of [.str (Str.ofString "or"), .ref qb] ((s1.set qh (lstD (hs ++ [p]))).set qb (lstD (bs ++ [ofP .and (hs ++ [p])])) ++ [lstD []]) = .ok (toD (ofP .or (bs ++ [ofP .and (hs ++ [p])]))) _ := ev_of k .or _ (by simp) qb _ hXb
            have E6 := e6_ret l t ht (fns (k + 1)) j qb s1.length (toD p) _ _ (by rw [t0]; simp) eor
            refine .inl ⟨ofP .or (bs ++ [ofP .and (hs ++ [p])]), j, _, ?_, hX, by omega, g2, ofP_ok .or (by simp) (by rw [hlenb]; omega) hob2, ?_, .inr ⟨r, g6⟩, fun st => ?_⟩
            · unfold eitB
              rw [(seq_to E1).trans ((seq_to E2).trans ((seq_to E3).trans ((seq_to E4).trans ((seq_to (E5 (by rw [t0]; simp))).trans E6))))]
              rfl
            · have := ofP_dep2 .or (by simp) hbd2
              omega
            · obtain ⟨C, gg, eC'⟩ := hG st
              refine ⟨_, gg, ?_⟩
              unfold closeB
              rw [hbr C eC']
              exact ofP_of .or (by simp)
    · have E1 : eit1 (fns (k + 1)) (eenv l t i qb qh x) s = .next (eenv l t i qb qh (some .non)) s1 := by
        generalize fns (k + 1) = call at *
        simp [eit1, bodyF, env0, sSeq, sSet, sIf, sRet, sRetN, sExpr, sPass, sRaise, sBad, eVar, eC, eTup, eLst, aCons, aNil, eCall, ar, DE.e2, eAnd, eOr, eNot, eIf, eNeg, tVal, tAndM, tOrM, tNotM, tYesM, eChain, isiD, tyOf, isTy, eM1, oNone, oSome, eCut, R.bind_ok, R.bind_exc, R.bindS_ok, R.bindS_exc, RS.bind_next, RS.bind_ret, RS.bind_exc, LINE, ofS_inj, ofS_ok, eqD_int, eqD_ss, inD3_ss, inD2_ss, e]
      have E2 : eit2 (eenv l t i qb qh (some .non)) s1 = .ret .non s1 := by
        simp [eit2, bodyF, env0, sSeq, sSet, sIf, sRet, sRetN, sExpr, sPass, sRaise, sBad, eVar, eC, eTup, eLst, aCons, aNil, eCall, ar, DE.e2, eAnd, eOr, eNot, eIf, eNeg, tVal, tAndM, tOrM, tNotM, tYesM, eChain, isiD, tyOf, isTy, eM1, oNone, oSome, eCut, R.bind_ok, R.bind_exc, R.bindS_ok, R.bindS_exc, RS.bind_next, RS.bind_ret, RS.bind_exc, LINE, ofS_inj, ofS_ok, eqD_int, eqD_ss, inD3_ss, inD2_ss, isD, isNon]
      refine .inr ⟨s1, ?_, hp.trans hs1, fun st => dead_go (hg st) (g5 _ st rfl rfl)⟩
      unfold eitB
      rw [(seq_to E1).trans (seq_stop E2)]
      rfl
theorem either_step (hH : HalfOk l t (k + 1)) : EithOk l t (k + 2) := by
  intro i s hi hw
  have e1 : sSet 3 (eNew aNil) (env0 6 [.str l, .str (S' t), .int (i : Nat)]) s = .next [some (.str l), some (.str (S' t)), some (.int (i : Nat)), some (.ref s.length), none, none] (s ++ [.lst []]) := by
    simp [bodyF, env0, sSeq, sSet, sIf, sRet, sRetN, sExpr, sPass, sRaise, sBad, eVar, eC, eTup, eLst, aCons, aNil, eCall, ar, DE.e2, eAnd, eOr, eNot, eIf, eNeg, tVal, tAndM, tOrM, tNotM, tYesM, eChain, isiD, tyOf, isTy, eM1, oNone, oSome, eCut, R.bind_ok, R.bind_exc, R.bindS_ok, R.bindS_exc, RS.bind_next, RS.bind_ret, RS.bind_exc, LINE, ofS_inj, ofS_ok, eqD_int, eqD_ss, inD3_ss, inD2_ss, eNew, env0]
  have e2 : sSet 4 (eNew aNil) [some (.str l), some (.str (S' t)), some (.int (i : Nat)), some (.ref s.length), none, none] (s ++ [.lst []]) = .next (eenv l t i s.length (s.length + 1) none) (s ++ [.lst []] ++ [.lst []]) := by
    simp [bodyF, env0, sSeq, sSet, sIf, sRet, sRetN, sExpr, sPass, sRaise, sBad, eVar, eC, eTup, eLst, aCons, aNil, eCall, ar, DE.e2, eAnd, eOr, eNot, eIf, eNeg, tVal, tAndM, tOrM, tNotM, tYesM, eChain, isiD, tyOf, isTy, eM1, oNone, oSome, eCut, R.bind_ok, R.bind_exc, R.bindS_ok, R.bindS_exc, RS.bind_next, RS.bind_ret, RS.bind_exc, LINE, ofS_inj, ofS_ok, eqD_int, eqD_ss, inD3_ss, inD2_ss, eNew]
  have lp := either_loop l hL t ht h150 k hH i s (t.length + 1 - i) i i (s ++ [.lst []] ++ [.lst []]) s.length (s.length + 1) [] [] none (Nat.le_refl _) (Nat.le_refl _) (Nat.le_refl _) hi (by omega) (by rw [List.append_assoc]; exact List.prefix_append _ _) (Nat.le_refl _) (by omega) (by omega) (by simp [toDs]) (by
      have : (s ++ [Cell.lst []]).length = s.length + 1 := by simp
      rw [← this, get_app_eq]
      simp [toDs]) rfl rfl (by simp) (by simp) (by simp) (by simp) (fun st => .refl _ _ _)
  have hm : ∀ r s', sWhile (tVal (eC (.bl true))) (eitB (fns (k + 1))) (eenv l t i s.length (s.length + 1) none) (s ++ [.lst []] ++ [.lst []]) = .ret r s' → fns (k + 2) i__law_either [.str l, .str (S' t), .int (i : Nat)] s = .ok r s' := fun r s' h => by
    rw [e__law_either, m_either_eq]
    exact body_ret ((seq_to e1).trans ((seq_to e2).trans h))
  rcases lp with ⟨p, j, s', e, r1, r2, r3, r4, r5, r6, r7⟩ | ⟨s', e, r1, r2⟩
  · exact .inl ⟨p, j, s', hm _ _ e, r1, r2, r3, r4, r5, r6, r7⟩
  · exact .inr ⟨s', hm _ _ e, r1, r2⟩
theorem all_ok : ∀ k : Nat, ItemOk l t k ∧ HalfOk l t k ∧ EithOk l t k
  | 0 => ⟨fun i s _ h => by omega, fun i s _ h => by omega, fun i s _ h => by omega⟩
  | 1 => by
    have h0 := all_ok 0
    exact ⟨item_step l hL.lf t ht 0 h0.1 h0.2.2, half_step l hL t ht h150 0 h0.1, fun i s _ h => by omega⟩
  | k + 2 => by
    have h0 := all_ok (k + 1)
    exact ⟨item_step l hL.lf t ht (k + 1) h0.1 h0.2.2, half_step l hL t ht h150 (k + 1) h0.1, either_step l hL t ht h150 k h0.2.1⟩
end
end G
/-! K3E: due, told -/
namespace G
open PySem PySem.Spec PyProof.Rows L2 DE PySem.StrLaws
/-- what is due of a text -/
def DueD (l : Str) (t : List Nat) : D := match readT l.cps.toList t with
  | none => kindD 4
  | some m => if 60 < m.2 then kindD 3 else toD m.1
theorem kind1 : kindD 1 = .lst [.str (Str.ofString "letters")] := rfl
theorem kind3 : kindD 3 = .lst [.str (Str.ofString "great")] := rfl
theorem kind4 : kindD 4 = .lst [.str (Str.ofString "text")] := rfl
theorem dead_read {l t : List Nat} (h : Dead l br0 [] t) : readT l t = none := h _ (Nat.le_refl _)
mutual
theorem eqv_reflK : ∀ p : Pt, PyData.eqv (pyOf (toD p)) (pyOf (toD p)) = true
  | .non => by simp [toD, pyOf, pyOfs, PyData.eqv, PyData.eqvAll]
  | .emp => by simp [toD, pyOf, pyOfs, PyData.eqv, PyData.eqvAll]
  | .sg c => by simp [toD, pyOf, pyOfs, PyData.eqv, PyData.eqvAll]
  | .un u p => by
    have := eqv_reflK p
    simp [toD, pyOf, pyOfs, PyData.eqv, PyData.eqvAll, this]
  | .nary w ps => by
    have := eqv_reflKs ps
    simp [toD, pyOf, pyOfs, PyData.eqv, PyData.eqvAll, this]
theorem eqv_reflKs : ∀ ps : List Pt, PyData.eqvAll (pyOfs (toDs ps)) (pyOfs (toDs ps)) = true
  | [] => by simp [toDs, pyOfs, PyData.eqvAll]
  | p :: ps => by
    have h1 := eqv_reflK p
    have h2 := eqv_reflKs ps
    simp [toDs, pyOfs, PyData.eqvAll, h1, h2]
end
theorem eqD_refl {l : Str} (hl : strOk' l = true) {p : Pt} (h : okP l p = true) (hs : depD (toD p) ≤ 190) (s : Store) (neg : Bool) : eqD neg (toD p) (toD p) s = .ok (.bl (!neg)) s := by
  have h1 := lay_toD hl p h
  have hr : res s (toD p) = some (toD p) := sub_pure _ _ h1.2
  have he : eqv (toD p) (toD p) = true := eqv_reflK p
  unfold eqD
  rw [hr]
  simp only [he]
  rw [if_pos ⟨h1.1, h1.1, hs⟩]
  cases neg <;> rfl
/-- what is equal to itself wherever it stands -/
def Self (d : D) : Prop := ∀ (s : Store) (neg : Bool), eqD neg d d s = .ok (.bl (!neg)) s
theorem self_kind (c : Nat) : Self (kindD c) := fun s neg => by
  have : ∃ a : String, kindD c = .lst [.str (Str.ofString a)] := by
    unfold kindD kw
    split
    · exact ⟨"letters", rfl⟩
    · exact ⟨"pattern", rfl⟩
    · exact ⟨"great", rfl⟩
    · exact ⟨"text", rfl⟩
    · exact ⟨"room", rfl⟩
  obtain ⟨a, e⟩ := this
  rw [e, eqD_kind]
  cases neg <;> simp
section
variable (l : Str) (hL : LetF l) (t : List Nat) (ht : okT t)
include hL ht
theorem ev_due (h150 : t.length ≤ 150) (k : Nat) (hk : wt t + 3 ≤ k) (hk2 : t.length + 1 ≤ k) (s : Store) : (∃ s', fns (k + 1) i__law_due [.str l, .str (S' t)] s = .ok (DueD l t) s') ∧ Self (DueD l t) := by
  have hlen := lenD_S (s := s) ht
  rcases (all_ok l hL t ht h150 k).2.2 0 s (Nat.zero_le _) (by rw [List.drop_zero]; exact hk) with ⟨p, j, s', e, _, h1, h2, h3, h4, h5, h6⟩ | ⟨s', e, _, h6⟩
  · rw [List.drop_zero] at h6
    obtain ⟨b', g, ec⟩ := h6 []
    have e : fns k i__law_either [.str l, .str (S' t), .int 0] s = .ok (.tup [toD p, .int (j : Nat)]) s' := e
    have x0 : ixD (.tup [toD p, .int (j : Nat)]) (.int 0) s' = .ok (toD p) s' := ixD_t0
    have x2 : ixD (.tup [toD p, .int (j : Nat)]) (.int 1) s' = .ok (.int (j : Nat)) s' := ixD_t1
    have hlen := lenD_S (s := s') ht
    have p1 : sSet 2 (eCall (ar 3 (fns k i__law_either)) (aCons (eVar 0) (aCons (eVar 1) (aCons (eC (.int 0)) aNil)))) (env0 3 [.str l, .str (S' t)]) s = .next [some (.str l), some (.str (S' t)), some (.tup [toD p, .int (j : Nat)])] s' := by
      generalize fns k = call at *
      simp [bodyF, env0, sSeq, sSet, sIf, sRet, sRetN, sExpr, sPass, sRaise, sBad, eVar, eC, eTup, eLst, aCons, aNil, eCall, ar, DE.e2, eAnd, eOr, eNot, eIf, eNeg, tVal, tAndM, tOrM, tNotM, tYesM, eChain, isiD, tyOf, isTy, eM1, oNone, oSome, eCut, R.bind_ok, R.bind_exc, R.bindS_ok, R.bindS_exc, RS.bind_next, RS.bind_ret, RS.bind_exc, LINE, ofS_inj, ofS_ok, eqD_int, eqD_ss, inD3_ss, inD2_ss, e]
    rcases h5 with h5 | ⟨r, h5⟩
    · have hj : j = t.length := by have := drop_nil h5; omega
      subst hj
      rw [h5] at g
      have hr : readT l.cps.toList t = some (md p) := read_of_go g ec
      have hdep : depD (toD p) ≤ t.length + 1 := by omega
      have hself : Self (toD p) := fun s neg => eqD_refl hL.sok h3 (by omega) s neg
      have hz := ev_size k p s' h3 (by omega)
      have hD : DueD l t = if 60 < siz p then kindD 3 else toD p := by unfold DueD; rw [hr]; rfl
      have hlt : ltD (.int (t.length : Nat)) (.int (t.length : Nat)) s' = .ok (.bl false) s' := by simp [ltD, cmpI]
      have p2 : sIf (tOrM (tVal (DE.e2 (isD false) (eVar 2) (eC .non))) (tVal (DE.e2 ltD (DE.e2 ixD (eVar 2) (eC (.int 1))) (eCall lenD (aCons (eVar 1) aNil)))))
          (sRet (eLst (aCons (eC (.str "text")) aNil))) sPass [some (.str l), some (.str (S' t)), some (.tup [toD p, .int (t.length : Nat)])] s' = .next [some (.str l), some (.str (S' t)), some (.tup [toD p, .int (t.length : Nat)])] s' := by
        generalize t.length = n at *
        simp [bodyF, env0, sSeq, sSet, sIf, sRet, sRetN, sExpr, sPass, sRaise, sBad, eVar, eC, eTup, eLst, aCons, aNil, eCall, ar, DE.e2, eAnd, eOr, eNot, eIf, eNeg, tVal, tAndM, tOrM, tNotM, tYesM, eChain, isiD, tyOf, isTy, eM1, oNone, oSome, eCut, R.bind_ok, R.bind_exc, R.bindS_ok, R.bindS_exc, RS.bind_next, RS.bind_ret, RS.bind_exc, LINE, ofS_inj, ofS_ok, eqD_int, eqD_ss, inD3_ss, inD2_ss, isD, isNon, x2, hlen, hlt]
      by_cases h60 : 60 < siz p
      · rw [hD, if_pos h60]
        refine ⟨⟨s', ?_⟩, self_kind 3⟩
        have h60' : (60 : Int) < (siz p : Nat) := by omega
        have hgt : gtD (.int (siz p : Nat)) (.int 60) s' = .ok (.bl true) s' := by simp only [gtD, cmpI, decide_eq_true h60']
        rw [e__law_due, kind3]
        refine body_ret ((seq_to p1).trans ((seq_to p2).trans (seq_stop ?_)))
        generalize fns k = call at *
        generalize toD p = P at *
        generalize siz p = Z at *
        simp [bodyF, env0, sSeq, sSet, sIf, sRet, sRetN, sExpr, sPass, sRaise, sBad, eVar, eC, eTup, eLst, aCons, aNil, eCall, ar, DE.e2, eAnd, eOr, eNot, eIf, eNeg, tVal, tAndM, tOrM, tNotM, tYesM, eChain, isiD, tyOf, isTy, eM1, oNone, oSome, eCut, R.bind_ok, R.bind_exc, R.bindS_ok, R.bindS_exc, RS.bind_next, RS.bind_ret, RS.bind_exc, LINE, ofS_inj, ofS_ok, eqD_int, eqD_ss, inD3_ss, inD2_ss, x0, hz, hgt]
      · rw [hD, if_neg h60]
        refine ⟨⟨s', ?_⟩, hself⟩
        have h60' : ¬ (60 : Int) < (siz p : Nat) := by omega
        have hgt : gtD (.int (siz p : Nat)) (.int 60) s' = .ok (.bl false) s' := by simp only [gtD, cmpI, decide_eq_false h60']
        rw [e__law_due]
        refine body_ret ((seq_to p1).trans ((seq_to p2).trans ((seq_to (env1 := [some (.str l), some (.str (S' t)), some (.tup [toD p, .int (t.length : Nat)])]) (s1 := s') ?_).trans ?_)))
        · generalize fns k = call at *
          generalize toD p = P at *
          generalize siz p = Z at *
          simp [bodyF, env0, sSeq, sSet, sIf, sRet, sRetN, sExpr, sPass, sRaise, sBad, eVar, eC, eTup, eLst, aCons, aNil, eCall, ar, DE.e2, eAnd, eOr, eNot, eIf, eNeg, tVal, tAndM, tOrM, tNotM, tYesM, eChain, isiD, tyOf, isTy, eM1, oNone, oSome, eCut, R.bind_ok, R.bind_exc, R.bindS_ok, R.bindS_exc, RS.bind_next, RS.bind_ret, RS.bind_exc, LINE, ofS_inj, ofS_ok, eqD_int, eqD_ss, inD3_ss, inD2_ss, x0, hz, hgt]
        · simp [bodyF, env0, sSeq, sSet, sIf, sRet, sRetN, sExpr, sPass, sRaise, sBad, eVar, eC, eTup, eLst, aCons, aNil, eCall, ar, DE.e2, eAnd, eOr, eNot, eIf, eNeg, tVal, tAndM, tOrM, tNotM, tYesM, eChain, isiD, tyOf, isTy, eM1, oNone, oSome, eCut, R.bind_ok, R.bind_exc, R.bindS_ok, R.bindS_exc, RS.bind_next, RS.bind_ret, RS.bind_exc, LINE, ofS_inj, ofS_ok, eqD_int, eqD_ss, inD3_ss, inD2_ss, x0]
    · have hj := drop_len h5
      have hr : readT l.cps.toList t = none := dead_read (dead_go g (by rw [h5]; exact dead_step (by unfold stepB; simp)))
      have hD : DueD l t = kindD 4 := by unfold DueD; rw [hr]
      rw [hD]
      refine ⟨⟨s', ?_⟩, self_kind 4⟩
      have hj' : (j : Int) < (t.length : Nat) := by omega
      have hlt : ltD (.int (j : Nat)) (.int (t.length : Nat)) s' = .ok (.bl true) s' := by simp only [ltD, cmpI, decide_eq_true hj']
      rw [e__law_due, kind4]
      refine body_ret ((seq_to p1).trans (seq_stop ?_))
      generalize t.length = n at *
      simp [bodyF, env0, sSeq, sSet, sIf, sRet, sRetN, sExpr, sPass, sRaise, sBad, eVar, eC, eTup, eLst, aCons, aNil, eCall, ar, DE.e2, eAnd, eOr, eNot, eIf, eNeg, tVal, tAndM, tOrM, tNotM, tYesM, eChain, isiD, tyOf, isTy, eM1, oNone, oSome, eCut, R.bind_ok, R.bind_exc, R.bindS_ok, R.bindS_exc, RS.bind_next, RS.bind_ret, RS.bind_exc, LINE, ofS_inj, ofS_ok, eqD_int, eqD_ss, inD3_ss, inD2_ss, isD, isNon, x2, hlen, hlt]
  · rw [List.drop_zero] at h6
    have hr : readT l.cps.toList t = none := dead_read (h6 [])
    have hD : DueD l t = kindD 4 := by unfold DueD; rw [hr]
    rw [hD]
    refine ⟨⟨s', ?_⟩, self_kind 4⟩
    have e : fns k i__law_either [.str l, .str (S' t), .int 0] s = .ok .non s' := e
    have p1 : sSet 2 (eCall (ar 3 (fns k i__law_either)) (aCons (eVar 0) (aCons (eVar 1) (aCons (eC (.int 0)) aNil)))) (env0 3 [.str l, .str (S' t)]) s = .next [some (.str l), some (.str (S' t)), some .non] s' := by
      generalize fns k = call at *
      simp [bodyF, env0, sSeq, sSet, sIf, sRet, sRetN, sExpr, sPass, sRaise, sBad, eVar, eC, eTup, eLst, aCons, aNil, eCall, ar, DE.e2, eAnd, eOr, eNot, eIf, eNeg, tVal, tAndM, tOrM, tNotM, tYesM, eChain, isiD, tyOf, isTy, eM1, oNone, oSome, eCut, R.bind_ok, R.bind_exc, R.bindS_ok, R.bindS_exc, RS.bind_next, RS.bind_ret, RS.bind_exc, LINE, ofS_inj, ofS_ok, eqD_int, eqD_ss, inD3_ss, inD2_ss, e]
    rw [e__law_due, kind4]
    refine body_ret ((seq_to p1).trans (seq_stop ?_))
    simp [bodyF, env0, sSeq, sSet, sIf, sRet, sRetN, sExpr, sPass, sRaise, sBad, eVar, eC, eTup, eLst, aCons, aNil, eCall, ar, DE.e2, eAnd, eOr, eNot, eIf, eNeg, tVal, tAndM, tOrM, tNotM, tYesM, eChain, isiD, tyOf, isTy, eM1, oNone, oSome, eCut, R.bind_ok, R.bind_exc, R.bindS_ok, R.bindS_exc, RS.bind_next, RS.bind_ret, RS.bind_exc, LINE, ofS_inj, ofS_ok, eqD_int, eqD_ss, inD3_ss, inD2_ss, isD, isNon]
omit hL ht in
theorem told_exc {k : Nat} {a b : D} {s s' : Store} {c : Nat} (h1 : 1 ≤ c) (h5 : c ≤ 5) (h : fns k i_read [a, b] s = .exc c s') : fns (k + 1) i__law_told [a, b] s = .ok (kindD c) s' := by
  rw [e__law_told]
  generalize fns k = call at *
  simp [m__law_told, bodyF, env0, sSeq, sSet, sIf, sRet, sRetN, sExpr, sPass, sRaise, sBad, eVar, eC, eTup, eLst, aCons, aNil, eCall, ar, DE.e2, eAnd, eOr, eNot, eIf, eNeg, tVal, tAndM, tOrM, tNotM, tYesM, eChain, isiD, tyOf, isTy, eM1, oNone, oSome, eCut, R.bind_ok, R.bind_exc, R.bindS_ok, R.bindS_exc, RS.bind_next, RS.bind_ret, RS.bind_exc, LINE, ofS_inj, ofS_ok, eqD_int, eqD_ss, inD3_ss, inD2_ss, sTry, h, h1, h5]
omit hL ht in
theorem told_ok {k : Nat} {a b v : D} {s s' : Store} (h : fns k i_read [a, b] s = .ok v s') : fns (k + 1) i__law_told [a, b] s = .ok v s' := by
  rw [e__law_told]
  generalize fns k = call at *
  simp [m__law_told, bodyF, env0, sSeq, sSet, sIf, sRet, sRetN, sExpr, sPass, sRaise, sBad, eVar, eC, eTup, eLst, aCons, aNil, eCall, ar, DE.e2, eAnd, eOr, eNot, eIf, eNeg, tVal, tAndM, tOrM, tNotM, tYesM, eChain, isiD, tyOf, isTy, eM1, oNone, oSome, eCut, R.bind_ok, R.bind_exc, R.bindS_ok, R.bindS_exc, RS.bind_next, RS.bind_ret, RS.bind_exc, LINE, ofS_inj, ofS_ok, eqD_int, eqD_ss, inD3_ss, inD2_ss, sTry, h]
theorem ev_told (k : Nat) (hk : 8 ≤ k) (s : Store) : ∃ s', fns k i__law_told [.str l, .str (S' t)] s = .ok (DueD l t) s' := by
  obtain ⟨k, rfl⟩ : ∃ j, k = j + 8 := ⟨k - 8, by omega⟩
  rcases ev_read k l hL t ht s with ⟨e, h⟩ | ⟨m, s', e, h60, h⟩
  · cases er : readT l.cps.toList t with
    | none =>
      rw [er] at e
      obtain ⟨s', e⟩ := e
      refine ⟨s', ?_⟩
      unfold DueD
      rw [er]
      exact told_exc (by decide) (by decide) e
    | some m =>
      rw [er] at e
      obtain ⟨d, s', e, rfl⟩ := e
      refine ⟨s', ?_⟩
      have := h m er
      unfold DueD
      rw [er]
      simp only
      rw [if_neg (by omega)]
      exact told_ok e
  · refine ⟨s', ?_⟩
    unfold DueD
    rw [e]
    simp only
    rw [if_pos h60]
    exact told_exc (by decide) (by decide) h
end
theorem read_letters (k : Nat) (a b : D) (s : Store) (ha : pl a = true) (hn : letOk a = false) : fns (k + 3) i_read [a, b] s = .exc 1 s := by
  have := ev_need_l k a s ha
  rw [hn] at this
  rw [e_read]
  generalize fns (k + 2) = call at *
  simp [m_read, bodyF, env0, sSeq, sSet, sIf, sRet, sRetN, sExpr, sPass, sRaise, sBad, eVar, eC, eTup, eLst, aCons, aNil, eCall, ar, DE.e2, eAnd, eOr, eNot, eIf, eNeg, tVal, tAndM, tOrM, tNotM, tYesM, eChain, isiD, tyOf, isTy, eM1, oNone, oSome, eCut, R.bind_ok, R.bind_exc, R.bindS_ok, R.bindS_exc, RS.bind_next, RS.bind_ret, RS.bind_exc, LINE, ofS_inj, ofS_ok, eqD_int, eqD_ss, inD3_ss, inD2_ss, this]
theorem told_letters (k : Nat) (hk : 4 ≤ k) (a b : D) (s : Store) (ha : pl a = true) (hn : letOk a = false) : fns k i__law_told [a, b] s = .ok (kindD 1) s := by
  obtain ⟨k, rfl⟩ : ∃ j, k = j + 4 := ⟨k - 4, by omega⟩
  exact told_exc (by decide) (by decide) (read_letters k a b s ha hn)
end G
/-! K3F: texts put together -/
namespace G
open PySem PySem.Spec PyProof.Rows L2 DE PySem.StrLaws
def dS (t : List Nat) : D := .str (S' t)
theorem fold_app (z : List Nat) : ∀ (k : Nat) (a : Array Nat), ((List.replicate k z.toArray).foldl (· ++ ·) a) = (a.toList ++ (List.replicate k z).flatten).toArray
  | 0, a => by simp
  | k + 1, a => by
    rw [List.replicate_succ, List.foldl_cons, fold_app z k]
    simp [List.replicate_succ]
theorem rep_S (k : Int) (z : List Nat) : repS k (S' z) = S' (List.replicate k.toNat z).flatten := by
  unfold repS
  show (⟨_⟩ : Str) = ⟨_⟩
  rw [show (S' z).cps = z.toArray from rfl, fold_app]
  simp
theorem rep_one (n c : Nat) : (List.replicate n [c]).flatten = List.replicate n c := by
  induction n with
  | zero => rfl
  | succ n ih => rw [List.replicate_succ, List.flatten_cons, ih]; rfl
theorem mul_S {k : Int} {c : Nat} {s : Store} (h : 0 ≤ k ∧ k ≤ 1000) : mulD (dS [c]) (.int k) s = .ok (dS (List.replicate k.toNat c)) s := by
  show (@ite (R D) (0 ≤ k ∧ k ≤ 100000 ∧ (S' [c]).length ≤ 100) (Classical.propDecidable _) (.ok (.str (repS k (S' [c]))) s) .bad) = _
  rw [if_pos ⟨h.1, by omega, by rw [S'_len]; simp⟩, rep_S, rep_one]
  rfl
theorem add_dS {a b : List Nat} {s : Store} (h : a.length + b.length ≤ 1000) : addD (dS a) (dS b) s = .ok (dS (a ++ b)) s := add_S h
theorem cutS_to (t : List Nat) (i : Nat) (s : Store) (h : t.length ≤ 1000) : cutD (dS t) none (some (i : Int)) s = .ok (dS (t.take i)) s := by
  have e : HT.sIx t.length t.length (some (i : Int)) = min i t.length := by
    simp only [HT.sIx]
    rw [if_neg (by omega)]
    rfl
  show (if (S' t).length ≤ LINE then (R.ok (D.str ⟨(cutL (S' t).cps.toList none (some (i : Int))).toArray⟩) s : R D) else .bad) = _
  rw [if_pos (by rw [S'_len]; unfold LINE; omega), S'_cps]
  unfold cutL
  rw [e, show HT.sIx t.length 0 none = 0 from rfl, List.drop_zero, Nat.sub_zero]
  have : t.take (min i t.length) = t.take i := by rw [List.take_eq_take_iff]; omega
  rw [this]
  rfl
theorem cutS_from (t : List Nat) (i : Nat) (s : Store) (h : t.length ≤ 1000) : cutD (dS t) (some (i : Int)) none s = .ok (dS (t.drop i)) s := by
  have e : HT.sIx t.length 0 (some (i : Int)) = min i t.length := by
    simp only [HT.sIx]
    rw [if_neg (by omega)]
    rfl
  show (if (S' t).length ≤ LINE then (R.ok (D.str ⟨(cutL (S' t).cps.toList (some (i : Int)) none).toArray⟩) s : R D) else .bad) = _
  rw [if_pos (by rw [S'_len]; unfold LINE; omega), S'_cps]
  unfold cutL
  rw [e, show HT.sIx t.length t.length none = t.length from rfl, List.take_of_length_le (by rw [List.length_drop]; omega)]
  have : t.drop (min i t.length) = t.drop i := by
    by_cases h : i ≤ t.length
    · rw [Nat.min_eq_left h]
    · rw [Nat.min_eq_right (by omega), List.drop_length, List.drop_eq_nil_of_le (by omega)]
  rw [this]
  rfl
theorem cutL_to4 (xs : List D) (s : Store) : cutD (.lst xs) none (some 4) s = .ok (.lst (xs.take 4)) s := by
  have e : HT.sIx xs.length xs.length (some 4) = min 4 xs.length := rfl
  show R.ok (D.lst (cutL xs none (some 4))) s = _
  unfold cutL
  rw [e, show HT.sIx xs.length 0 none = 0 from rfl, List.drop_zero, Nat.sub_zero]
  have : xs.take (min 4 xs.length) = xs.take 4 := by rw [List.take_eq_take_iff]; omega
  rw [this]
theorem cutL_from4 (xs : List D) (s : Store) : cutD (.lst xs) (some 4) none s = .ok (.lst (xs.drop 4)) s := by
  have e : HT.sIx xs.length 0 (some 4) = min 4 xs.length := rfl
  show R.ok (D.lst (cutL xs (some 4) none)) s = _
  unfold cutL
  rw [e, show HT.sIx xs.length xs.length none = xs.length from rfl, List.take_of_length_le (by rw [List.length_drop]; omega)]
  have : xs.drop (min 4 xs.length) = xs.drop 4 := by
    by_cases h : 4 ≤ xs.length
    · rw [Nat.min_eq_left h]
    · rw [Nat.min_eq_right (by omega), List.drop_length, List.drop_eq_nil_of_le (by omega)]
  rw [this]
theorem cut_but2 (xs : List D) (x y : D) (s : Store) : cutD (.lst (xs ++ [x, y])) none (some (-2)) s = .ok (.lst xs) s := by
  have hl : (xs ++ [x, y]).length = xs.length + 2 := by simp
  have e : HT.sIx (xs ++ [x, y]).length (xs ++ [x, y]).length (some (-2)) = xs.length := by
    rw [hl]
    show (if (-2 : Int) < 0 then ((-2 : Int) + ((xs.length + 2 : Nat) : Int)).toNat else min (-2 : Int).toNat (xs.length + 2)) = _
    rw [if_pos (by decide)]
    omega
  show R.ok (D.lst (cutL (xs ++ [x, y]) none (some (-2)))) s = _
  unfold cutL
  rw [e, show HT.sIx (xs ++ [x, y]).length 0 none = 0 from rfl, List.drop_zero, Nat.sub_zero, List.take_left]
theorem cut_last (xs : List D) (x : D) (s : Store) : cutD (.lst (xs ++ [x])) none (some (-1)) s = .ok (.lst xs) s := by
  rw [cut_but1]
  simp
theorem ix_last (xs : List D) (x : D) (s : Store) : ixD (.lst (xs ++ [x])) (.int (-1)) s = .ok x s := by
  have := last_ix (xs := xs ++ [x]) (by simp) s
  rw [this]
  simp
theorem ix_l2 (xs : List D) (x y : D) (s : Store) : ixD (.lst (xs ++ [x, y])) (.int (-2)) s = .ok x s ∧ ixD (.lst (xs ++ [x, y])) (.int (-1)) s = .ok y s := by
  constructor
  · have e : atI (xs ++ [x, y]) (-2) = some x := by
      unfold atI ixN
      rw [if_neg (by decide), if_pos (by simp; omega)]
      show (xs ++ [x, y])[(-2 + ((xs ++ [x, y]).length : Int)).toNat]? = _
      have e1 : (-2 + ((xs ++ [x, y]).length : Int)).toNat = xs.length := by
        rw [List.length_append]
        simp
        omega
      rw [e1]
      simp
    simp [ixD, rdS, e]
  · have := ix_last (xs ++ [x]) y s
    simpa using this
/-! ### measures -/
structure Tx' (t : List Nat) (n w : Nat) : Prop where
  len : t.length ≤ n
  wt : wt t ≤ w
  sg : ∀ c ∈ t, c < 128
theorem Tx'.app {a b : List Nat} {n w m v : Nat} (h : Tx' a n w) (h2 : Tx' b m v) : Tx' (a ++ b) (n + m) (w + v) :=
  ⟨by rw [List.length_append]; have := h.len; have := h2.len; omega, by rw [wt_app]; have := h.wt; have := h2.wt; omega, fun c hc => by
    rcases List.mem_append.mp hc with hc | hc
    · exact h.sg c hc
    · exact h2.sg c hc⟩
theorem wt_rep {c : Nat} (k : Nat) : wt (List.replicate k c) = k * ((if c = 40 then 3 else 0) + (if c = 33 then 1 else 0)) := by
  induction k with
  | zero => simp [wt]
  | succ k ih => rw [List.replicate_succ, wt_cons, ih, Nat.add_mul]; omega
theorem tx_rep {c : Nat} (h : c < 128) (k n w : Nat) (hn : k ≤ n) (hw : wt (List.replicate k c) ≤ w) : Tx' (List.replicate k c) n w :=
  ⟨by rw [List.length_replicate]; exact hn, hw, fun x hx => by rw [List.mem_replicate] at hx; omega⟩
/-- some texts: all of their signs, their weight -/
structure Txs' (ts : List (List Nat)) (n w : Nat) : Prop where
  len : (ts.map (·.length)).sum ≤ n
  wt : (ts.map wt).sum ≤ w
  sg : ∀ t ∈ ts, ∀ c ∈ t, c < 128
theorem Txs'.mono {ts : List (List Nat)} {n w m v : Nat} (h : Txs' ts n w) (hn : n ≤ m) (hw : w ≤ v) : Txs' ts m v := ⟨Nat.le_trans h.len hn, Nat.le_trans h.wt hw, h.sg⟩
theorem Txs'.add {ts : List (List Nat)} {t : List Nat} {n w m v : Nat} (h : Txs' ts n w) (h2 : Tx' t m v) : Txs' (ts ++ [t]) (n + m) (w + v) :=
  ⟨by simp only [List.map_append, List.sum_append, List.map_cons, List.map_nil, List.sum_cons, List.sum_nil]; have := h.len; have := h2.len; omega, by simp only [List.map_append, List.sum_append, List.map_cons, List.map_nil, List.sum_cons, List.sum_nil]; have := h.wt; have := h2.wt; omega, fun x hx => by
    rcases List.mem_append.mp hx with hx | hx
    · exact h.sg x hx
    · have : x = t := by simpa using hx
      subst this
      exact h2.sg⟩
theorem Txs'.flat {ts : List (List Nat)} {n w : Nat} (h : Txs' ts n w) : Tx' ts.flatten n w := by
  refine ⟨?_, ?_, fun c hc => ?_⟩
  · rw [List.length_flatten]; exact h.len
  · have e : ∀ ts : List (List Nat), G.wt ts.flatten = (ts.map G.wt).sum := fun ts => by
      induction ts with
      | nil => rfl
      | cons t ts ih => rw [List.flatten_cons, wt_app, ih, List.map_cons, List.sum_cons]
    rw [e]; exact h.wt
  · obtain ⟨t, ht, hc⟩ := List.mem_flatten.mp hc
    exact h.sg t ht c hc
theorem split2 {α : Type} (xs : List α) (h : 2 ≤ xs.length) : ∃ r a b, xs = r ++ [a, b] := by
  refine ⟨xs.take (xs.length - 2), xs[xs.length - 2], xs[xs.length - 1], ?_⟩
  have h1 : xs.drop (xs.length - 2) = [xs[xs.length - 2], xs[xs.length - 1]] := by
    rw [List.drop_eq_getElem_cons (by omega)]
    have e : xs.length - 2 + 1 = xs.length - 1 := by omega
    rw [e, List.drop_eq_getElem_cons (by omega)]
    have e2 : xs.length - 1 + 1 = xs.length := by omega
    rw [e2, List.drop_length]
  rw [← h1, List.take_append_drop]
theorem split1 {α : Type} (xs : List α) (h : xs ≠ []) : ∃ r a, xs = r ++ [a] := ⟨xs.dropLast, xs.getLast h, (List.dropLast_concat_getLast h).symm⟩
theorem Txs'.two {r : List (List Nat)} {a b : List Nat} {n w : Nat} (h : Txs' (r ++ [a, b]) n w) : ∃ n1 w1 n2 w2 n3 w3, Txs' r n1 w1 ∧ Tx' a n2 w2 ∧ Tx' b n3 w3 ∧ n1 + n2 + n3 ≤ n ∧ w1 + w2 + w3 ≤ w := by
  refine ⟨_, _, _, _, _, _, ⟨Nat.le_refl _, Nat.le_refl _, fun t ht => h.sg t (List.mem_append_left _ ht)⟩, ⟨Nat.le_refl _, Nat.le_refl _, h.sg a (by simp)⟩, ⟨Nat.le_refl _, Nat.le_refl _, h.sg b (by simp)⟩, ?_, ?_⟩
  · have := h.len
    simp only [List.map_append, List.sum_append, List.map_cons, List.map_nil, List.sum_cons, List.sum_nil] at this
    omega
  · have := h.wt
    simp only [List.map_append, List.sum_append, List.map_cons, List.map_nil, List.sum_cons, List.sum_nil] at this
    omega
theorem Txs'.one {r : List (List Nat)} {a : List Nat} {n w : Nat} (h : Txs' (r ++ [a]) n w) : ∃ n1 w1 n2 w2, Txs' r n1 w1 ∧ Tx' a n2 w2 ∧ n1 + n2 ≤ n ∧ w1 + w2 ≤ w := by
  refine ⟨_, _, _, _, ⟨Nat.le_refl _, Nat.le_refl _, fun t ht => h.sg t (List.mem_append_left _ ht)⟩, ⟨Nat.le_refl _, Nat.le_refl _, h.sg a (by simp)⟩, ?_, ?_⟩
  · have := h.len
    simp only [List.map_append, List.sum_append, List.map_cons, List.map_nil, List.sum_cons, List.sum_nil] at this
    omega
  · have := h.wt
    simp only [List.map_append, List.sum_append, List.map_cons, List.map_nil, List.sum_cons, List.sum_nil] at this
    omega
theorem addL {ts us : List (List Nat)} {s : Store} (h : ts.length + us.length ≤ 1000) : addD (.lst (ts.map dS)) (.lst (us.map dS)) s = .ok (.lst ((ts ++ us).map dS)) s := by
  rw [addD_lst (by simpa using h), List.map_append]
theorem eq_nilL (ts : List (List Nat)) (h : ∀ t ∈ ts, ∀ c ∈ t, c < 128) (s : Store) (neg : Bool) : eqD neg (.lst (ts.map dS)) (.lst []) s = .ok (.bl (if neg then !ts.isEmpty else ts.isEmpty)) s := by
  have hm : ts.map dS = (ts.map S').map D.str := by rw [List.map_map]; rfl
  have e1 : res s (.lst (ts.map dS)) = some (.lst (ts.map dS)) := by
    show sub _ _ = _
    simp only [sub]
    rw [hm, strs_sub]
    rfl
  have e2 : res s (.lst []) = some (.lst []) := by simp [sub, subs]
  have hl : layDs (ts.map dS) = true := by
    rw [hm]
    exact strs_lay _ fun w hw => by
      obtain ⟨t, ht, rfl⟩ := List.mem_map.mp hw
      unfold strOk' S'
      rw [List.all_toArray, List.all_eq_true]
      intro c hc
      have := h t ht c hc
      simp
      omega
  have hd : depDs (ts.map dS) ≤ 1 := depDs_le fun d hd => by
    obtain ⟨t, _, rfl⟩ := List.mem_map.mp hd
    simp [dS, depD]
  have e3 : eqv (.lst (ts.map dS)) (.lst []) = ts.isEmpty := by
    cases ts with
    | nil => simp [eqv, pyOf, pyOfs, PyData.eqv, PyData.eqvAll]
    | cons x xs => simp [eqv, pyOf, pyOfs, PyData.eqv, PyData.eqvAll]
  unfold eqD
  rw [e1, e2]
  simp only [layD, hl, layDs, depD, e3]
  rw [if_pos ⟨trivial, trivial, by omega⟩]
/-- one of some texts by its place -/
theorem sep3 (i : Int) (s : Store) (h0 : 0 ≤ i) (h : i < 3) : ∃ u, ixD (.lst [.str (Str.ofString ""), .str (Str.ofString "|"), .str (Str.ofString "&")]) (.int i) s = .ok (dS u) s ∧ Tx' u 1 0 := by
  rw [ix3 _ _ _ _ _ h0 h]
  rw [lit_nil, lit_bar, lit_amp]
  split
  · exact ⟨[], rfl, by decide, by decide, by simp⟩
  · split
    · exact ⟨[124], rfl, by decide, by decide, by simp⟩
    · exact ⟨[38], rfl, by decide, by decide, by simp⟩
theorem sep2 (i : Int) (s : Store) (h0 : 0 ≤ i) (h : i < 2) : ∃ u, ixD (.lst [.str (Str.ofString "&"), .str (Str.ofString "|")]) (.int i) s = .ok (dS u) s ∧ Tx' u 1 0 := by
  rw [ix2 _ _ _ _ h0 h]
  rw [lit_bar, lit_amp]
  split
  · exact ⟨[38], rfl, by decide, by decide, by simp⟩
  · exact ⟨[124], rfl, by decide, by decide, by simp⟩
theorem six (i : Int) (s : Store) (h0 : 0 ≤ i) (h : i < 6) : ∃ u, ixD (.lst [.str (Str.ofString "()"), .str (Str.ofString "[]"), .str (Str.ofString "(())"), .str (Str.ofString "([])*"), .str (Str.ofString "()**"), .str (Str.ofString "!()")]) (.int i) s = .ok (dS u) s ∧ Tx' u 5 6 := by
  have l1 : Str.ofString "()" = S' [40, 41] := by decide +kernel
  have l2 : Str.ofString "[]" = S' [91, 93] := by decide +kernel
  have l3 : Str.ofString "(())" = S' [40, 40, 41, 41] := by decide +kernel
  have l4 : Str.ofString "([])*" = S' [40, 91, 93, 41, 42] := by decide +kernel
  have l5 : Str.ofString "()**" = S' [40, 41, 42, 42] := by decide +kernel
  have l6 : Str.ofString "!()" = S' [33, 40, 41] := by decide +kernel
  obtain ⟨x, hx, e⟩ := ixD_int (xs := [.str (Str.ofString "()"), .str (Str.ofString "[]"), .str (Str.ofString "(())"), .str (Str.ofString "([])*"), .str (Str.ofString "()**"), .str (Str.ofString "!()")]) (i := i) (s := s) h0 (by simpa using h)
  rw [e]
  simp only [List.mem_cons, List.not_mem_nil, or_false] at hx
  rcases hx with rfl | rfl | rfl | rfl | rfl | rfl
  · exact ⟨_, by rw [l1]; rfl, by decide, by decide, by simp⟩
  · exact ⟨_, by rw [l2]; rfl, by decide, by decide, by simp⟩
  · exact ⟨_, by rw [l3]; rfl, by decide, by decide, by simp⟩
  · exact ⟨_, by rw [l4]; rfl, by decide, by decide, by simp⟩
  · exact ⟨_, by rw [l5]; rfl, by decide, by decide, by simp⟩
  · exact ⟨_, by rw [l6]; rfl, by decide, by decide, by simp⟩
theorem dlp : D.str (Str.ofString "(") = dS [40] := by rw [lit_lp]; rfl
theorem drp : D.str (Str.ofString ")") = dS [41] := by rw [lit_rp]; rfl
theorem dst : D.str (Str.ofString "*") = dS [42] := by rw [lit_star]; rfl
theorem dba : D.str (Str.ofString "!") = dS [33] := by rw [lit_bang]; rfl
theorem ev_grown {l : Str} (hL : LetF l) (k : Nat) (ts : List (List Nat)) (n w : Nat) (h : Txs' ts n w) (hn : n ≤ 400) (hl : ts.length ≤ 400) (c : Int) (s : Store) :
    ∃ ts', fns (k + 1) i__law_grown [.str l, .lst (ts.map dS), .int c] s = .ok (.lst (ts'.map dS)) s ∧ Txs' ts' (n + 5) (w + 6) ∧ ts'.length ≤ ts.length + 1 := by
  rw [e__law_grown]
  have hk : 0 ≤ c % 9 ∧ c % 9 < 9 := ⟨Int.emod_nonneg _ (by decide), Int.emod_lt_of_pos _ (by decide)⟩
  have hll : lenD [.lst (ts.map dS)] s = .ok (.int ts.length) s := by rw [lenD_lst, List.length_map]
  have se := eq_nilL ts h.sg s true
  have p0 : sSet 3 (DE.e2 fdivD (eVar 2) (eC (.int 9))) (env0 4 [.str l, .lst (ts.map dS), .int c]) s = .next [some (.str l), some (.lst (ts.map dS)), some (.int c), some (.int (c / 9))] s := by
    simp [bodyF, env0, sSeq, sSet, sIf, sRet, sRetN, sExpr, sPass, sRaise, sBad, eVar, eC, eTup, eLst, aCons, aNil, eCall, ar, DE.e2, eAnd, eOr, eNot, eIf, eNeg, tVal, tAndM, tOrM, tNotM, tYesM, eChain, isiD, tyOf, isTy, eM1, oNone, oSome, eCut, R.bind_ok, R.bind_exc, R.bindS_ok, R.bindS_exc, RS.bind_next, RS.bind_ret, RS.bind_exc, LINE, ofS_inj, ofS_ok, eqD_int, eqD_ss, inD3_ss, inD2_ss, fdivD_int, env0]
  have m9 : modD (.int c) (.int 9) s = .ok (.int (c % 9)) s := modD_int (by decide)
  have t40 : Tx' [40] 1 3 := ⟨by decide, by decide, by simp⟩
  have t41 : Tx' [41] 1 0 := ⟨by decide, by decide, by simp⟩
  by_cases h4 : c % 9 = 4 ∧ 1 < ts.length
  · obtain ⟨h4, h1⟩ := h4
    obtain ⟨r, a, b, rfl⟩ := split2 ts (by omega)
    obtain ⟨n1, w1, n2, w2, n3, w3, t1, t2, t3, hn', hw'⟩ := h.two
    obtain ⟨u, eu, tu⟩ := sep3 (c / 9 % 3) s (Int.emod_nonneg _ (by decide)) (Int.emod_lt_of_pos _ (by decide))
    have hm : (r ++ [a, b]).map dS = r.map dS ++ [dS a, dS b] := by simp
    have c1 := cut_but2 (r.map dS) (dS a) (dS b) s
    have ⟨i1, i2⟩ := ix_l2 (r.map dS) (dS a) (dS b) s
    rw [← hm] at c1 i1 i2
    have A1 := add_dS (a := [40]) (b := a) (s := s) (by have := t2.len; simp; omega)
    have A2 := add_dS (a := [40] ++ a) (b := u) (s := s) (by have := t2.len; have := tu.len; simp; omega)
    have A3 := add_dS (a := [40] ++ a ++ u) (b := b) (s := s) (by have := t2.len; have := tu.len; have := t3.len; simp; omega)
    have A4 := add_dS (a := [40] ++ a ++ u ++ b) (b := [41]) (s := s) (by have := t2.len; have := tu.len; have := t3.len; simp; omega)
    have A5 : addD (.lst (r.map dS)) (.lst [dS ([40] ++ a ++ u ++ b ++ [41])]) s = .ok (.lst ((r ++ [[40] ++ a ++ u ++ b ++ [41]]).map dS)) s := addL (us := [[40] ++ a ++ u ++ b ++ [41]]) (by simp at hl ⊢; omega)
    have tt := ((((t40.app t2).app tu).app t3).app t41)
    refine ⟨r ++ [[40] ++ a ++ u ++ b ++ [41]], ?_, (t1.add tt).mono (by omega) (by omega), by simp⟩
    have e4 : eqD false (.int (c % 9)) (.int 4) s = .ok (.bl true) s := by rw [eqD_int, decide_eq_true h4]; rfl
    have h1' : (1 : Int) < ((r ++ [a, b]).length : Nat) := by omega
    have g1 : gtD (.int ((r ++ [a, b]).length : Nat)) (.int 1) s = .ok (.bl true) s := by simp only [gtD, cmpI, decide_eq_true h1']
    refine body_ret ((seq_to p0).trans (seq_stop ?_))
    rw [← dlp] at A1
    rw [← drp] at A4
    generalize ((r ++ [[40] ++ a ++ u ++ b ++ [41]]).map dS) = XX at *
    generalize dS ([40] ++ a ++ u ++ b ++ [41]) = Y5 at *
    generalize dS ([40] ++ a ++ u ++ b) = Y4 at *
    generalize dS ([40] ++ a ++ u) = Y3 at *
    generalize dS ([40] ++ a) = Y2 at *
    generalize ((r ++ [a, b]).map dS) = TT at *
    generalize (r ++ [a, b]).length = nn at *
    generalize r.map dS = RR at *
    generalize dS a = da at *
    generalize dS b = db at *
    simp [bodyF, env0, sSeq, sSet, sIf, sRet, sRetN, sExpr, sPass, sRaise, sBad, eVar, eC, eTup, eLst, aCons, aNil, eCall, ar, DE.e2, eAnd, eOr, eNot, eIf, eNeg, tVal, tAndM, tOrM, tNotM, tYesM, eChain, isiD, tyOf, isTy, eM1, oNone, oSome, eCut, R.bind_ok, R.bind_exc, R.bindS_ok, R.bindS_exc, RS.bind_next, RS.bind_ret, RS.bind_exc, LINE, ofS_inj, ofS_ok, eqD_int, eqD_ss, inD3_ss, inD2_ss, m9, e4, hll, g1, c1, i1, i2, modD_int, eu, A1, A2, A3, A4, A5]
  have q4 : ¬ (c % 9 = 4 ∧ (1 : Int) < ts.length) := fun ⟨a, b⟩ => h4 ⟨a, by omega⟩
  have G4 : (tAndM (tVal (DE.e2 (eqD false) (DE.e2 modD (eVar 2) (eC (.int 9))) (eC (.int 4)))) (tVal (DE.e2 gtD (eCall lenD (aCons (eVar 1) aNil)) (eC (.int 1))))) [some (.str l), some (.lst (ts.map dS)), some (.int c), some (.int (c / 9))] s = .ok false s := by
    generalize D.lst (ts.map dS) = TT at *
    by_cases g1 : c % 9 = 4
    · have g2 : ¬ (1 : Int) < ts.length := fun q => q4 ⟨g1, q⟩
      have e : gtD (.int (ts.length : Nat)) (.int 1) s = .ok (.bl false) s := by simp only [gtD, cmpI, decide_eq_false g2]
      generalize ts.length = nn at *
      simp [bodyF, env0, sSeq, sSet, sIf, sRet, sRetN, sExpr, sPass, sRaise, sBad, eVar, eC, eTup, eLst, aCons, aNil, eCall, ar, DE.e2, eAnd, eOr, eNot, eIf, eNeg, tVal, tAndM, tOrM, tNotM, tYesM, eChain, isiD, tyOf, isTy, eM1, oNone, oSome, eCut, R.bind_ok, R.bind_exc, R.bindS_ok, R.bindS_exc, RS.bind_next, RS.bind_ret, RS.bind_exc, LINE, ofS_inj, ofS_ok, eqD_int, eqD_ss, inD3_ss, inD2_ss, m9, g1, hll, e]
    · simp [bodyF, env0, sSeq, sSet, sIf, sRet, sRetN, sExpr, sPass, sRaise, sBad, eVar, eC, eTup, eLst, aCons, aNil, eCall, ar, DE.e2, eAnd, eOr, eNot, eIf, eNeg, tVal, tAndM, tOrM, tNotM, tYesM, eChain, isiD, tyOf, isTy, eM1, oNone, oSome, eCut, R.bind_ok, R.bind_exc, R.bindS_ok, R.bindS_exc, RS.bind_next, RS.bind_ret, RS.bind_exc, LINE, ofS_inj, ofS_ok, eqD_int, eqD_ss, inD3_ss, inD2_ss, m9, g1]
  by_cases h5 : c % 9 = 5 ∧ 1 < ts.length
  · obtain ⟨h5, h1⟩ := h5
    obtain ⟨r, a, b, rfl⟩ := split2 ts (by omega)
    obtain ⟨n1, w1, n2, w2, n3, w3, t1, t2, t3, hn', hw'⟩ := h.two
    obtain ⟨u, eu, tu⟩ := sep2 (c / 9 % 2) s (Int.emod_nonneg _ (by decide)) (Int.emod_lt_of_pos _ (by decide))
    have hr3 : 0 ≤ c / 9 % 3 ∧ c / 9 % 3 < 3 := ⟨Int.emod_nonneg _ (by decide), Int.emod_lt_of_pos _ (by decide)⟩
    have M1 := mul_S (k := c / 9 % 3) (c := 42) (s := s) ⟨hr3.1, by omega⟩
    have tm : Tx' (List.replicate (c / 9 % 3).toNat 42) 2 0 := tx_rep (by decide) _ _ _ (by omega) (by rw [wt_rep]; simp)
    generalize List.replicate (c / 9 % 3).toNat 42 = m at *
    have hm : (r ++ [a, b]).map dS = r.map dS ++ [dS a, dS b] := by simp
    have c1 := cut_but2 (r.map dS) (dS a) (dS b) s
    have ⟨i1, i2⟩ := ix_l2 (r.map dS) (dS a) (dS b) s
    rw [← hm] at c1 i1 i2
    have A1 := add_dS (a := [40]) (b := a) (s := s) (by have := t2.len; simp; omega)
    have A2 := add_dS (a := [40] ++ a) (b := u) (s := s) (by have := t2.len; have := tu.len; simp; omega)
    have A3 := add_dS (a := [40] ++ a ++ u) (b := b) (s := s) (by have := t2.len; have := tu.len; have := t3.len; simp; omega)
    have A4 := add_dS (a := [40] ++ a ++ u ++ b) (b := [41]) (s := s) (by have := t2.len; have := tu.len; have := t3.len; simp; omega)
    have A6 := add_dS (a := [40] ++ a ++ u ++ b ++ [41]) (b := m) (s := s) (by have := t2.len; have := tu.len; have := t3.len; have := tm.len; simp; omega)
    have A5 : addD (.lst (r.map dS)) (.lst [dS ([40] ++ a ++ u ++ b ++ [41] ++ m)]) s = .ok (.lst ((r ++ [[40] ++ a ++ u ++ b ++ [41] ++ m]).map dS)) s := addL (us := [[40] ++ a ++ u ++ b ++ [41] ++ m]) (by simp at hl ⊢; omega)
    have tt := (((((t40.app t2).app tu).app t3).app t41).app tm)
    refine ⟨r ++ [[40] ++ a ++ u ++ b ++ [41] ++ m], ?_, (t1.add tt).mono (by omega) (by omega), by simp⟩
    have e5 : eqD false (.int (c % 9)) (.int 5) s = .ok (.bl true) s := by rw [eqD_int, decide_eq_true h5]; rfl
    have h1' : (1 : Int) < ((r ++ [a, b]).length : Nat) := by omega
    have g1 : gtD (.int ((r ++ [a, b]).length : Nat)) (.int 1) s = .ok (.bl true) s := by simp only [gtD, cmpI, decide_eq_true h1']
    refine body_ret ((seq_to p0).trans ((seq_to (env1 := [some (.str l), some (.lst ((r ++ [a, b]).map dS)), some (.int c), some (.int (c / 9))]) (s1 := s) (by unfold sIf; rw [G4]; rfl)).trans (seq_stop ?_)))
    rw [← dlp] at A1
    rw [← drp] at A4
    rw [← dst] at M1
    clear G4
    generalize ((r ++ [[40] ++ a ++ u ++ b ++ [41] ++ m]).map dS) = XX at *
    generalize dS ([40] ++ a ++ u ++ b ++ [41] ++ m) = Y6 at *
    generalize dS ([40] ++ a ++ u ++ b ++ [41]) = Y5 at *
    generalize dS ([40] ++ a ++ u ++ b) = Y4 at *
    generalize dS ([40] ++ a ++ u) = Y3 at *
    generalize dS ([40] ++ a) = Y2 at *
    generalize ((r ++ [a, b]).map dS) = TT at *
    generalize (r ++ [a, b]).length = nn at *
    generalize r.map dS = RR at *
    generalize dS a = da at *
    generalize dS b = db at *
    simp [bodyF, env0, sSeq, sSet, sIf, sRet, sRetN, sExpr, sPass, sRaise, sBad, eVar, eC, eTup, eLst, aCons, aNil, eCall, ar, DE.e2, eAnd, eOr, eNot, eIf, eNeg, tVal, tAndM, tOrM, tNotM, tYesM, eChain, isiD, tyOf, isTy, eM1, oNone, oSome, eCut, R.bind_ok, R.bind_exc, R.bindS_ok, R.bindS_exc, RS.bind_next, RS.bind_ret, RS.bind_exc, LINE, ofS_inj, ofS_ok, eqD_int, eqD_ss, inD3_ss, inD2_ss, m9, e5, hll, g1, c1, i1, i2, modD_int, eu, A1, A2, A3, A4, A5, M1, A6]
  have q5 : ¬ (c % 9 = 5 ∧ (1 : Int) < ts.length) := fun ⟨a, b⟩ => h5 ⟨a, by omega⟩
  have G5 : (tAndM (tVal (DE.e2 (eqD false) (DE.e2 modD (eVar 2) (eC (.int 9))) (eC (.int 5)))) (tVal (DE.e2 gtD (eCall lenD (aCons (eVar 1) aNil)) (eC (.int 1))))) [some (.str l), some (.lst (ts.map dS)), some (.int c), some (.int (c / 9))] s = .ok false s := by
    clear G4
    generalize D.lst (ts.map dS) = TT at *
    by_cases g1 : c % 9 = 5
    · have g2 : ¬ (1 : Int) < ts.length := fun q => q5 ⟨g1, q⟩
      have e : gtD (.int (ts.length : Nat)) (.int 1) s = .ok (.bl false) s := by simp only [gtD, cmpI, decide_eq_false g2]
      generalize ts.length = nn at *
      simp [bodyF, env0, sSeq, sSet, sIf, sRet, sRetN, sExpr, sPass, sRaise, sBad, eVar, eC, eTup, eLst, aCons, aNil, eCall, ar, DE.e2, eAnd, eOr, eNot, eIf, eNeg, tVal, tAndM, tOrM, tNotM, tYesM, eChain, isiD, tyOf, isTy, eM1, oNone, oSome, eCut, R.bind_ok, R.bind_exc, R.bindS_ok, R.bindS_exc, RS.bind_next, RS.bind_ret, RS.bind_exc, LINE, ofS_inj, ofS_ok, eqD_int, eqD_ss, inD3_ss, inD2_ss, m9, g1, hll, e]
    · simp [bodyF, env0, sSeq, sSet, sIf, sRet, sRetN, sExpr, sPass, sRaise, sBad, eVar, eC, eTup, eLst, aCons, aNil, eCall, ar, DE.e2, eAnd, eOr, eNot, eIf, eNeg, tVal, tAndM, tOrM, tNotM, tYesM, eChain, isiD, tyOf, isTy, eM1, oNone, oSome, eCut, R.bind_ok, R.bind_exc, R.bindS_ok, R.bindS_exc, RS.bind_next, RS.bind_ret, RS.bind_exc, LINE, ofS_inj, ofS_ok, eqD_int, eqD_ss, inD3_ss, inD2_ss, m9, g1]
  have pre : ∀ (X : DE.SM) (r : RS), X [some (.str l), some (.lst (ts.map dS)), some (.int c), some (.int (c / 9))] s = r → ∀ A B : DE.SM, sSeq (sIf (tAndM (tVal (DE.e2 (eqD false) (DE.e2 modD (eVar 2) (eC (.int 9))) (eC (.int 4)))) (tVal (DE.e2 gtD (eCall lenD (aCons (eVar 1) aNil)) (eC (.int 1))))) A sPass)
      (sSeq (sIf (tAndM (tVal (DE.e2 (eqD false) (DE.e2 modD (eVar 2) (eC (.int 9))) (eC (.int 5)))) (tVal (DE.e2 gtD (eCall lenD (aCons (eVar 1) aNil)) (eC (.int 1))))) B sPass) X) [some (.str l), some (.lst (ts.map dS)), some (.int c), some (.int (c / 9))] s = r := fun X r hX A B => by
    have a1 : ∀ A : DE.SM, sIf (tAndM (tVal (DE.e2 (eqD false) (DE.e2 modD (eVar 2) (eC (.int 9))) (eC (.int 4)))) (tVal (DE.e2 gtD (eCall lenD (aCons (eVar 1) aNil)) (eC (.int 1))))) A sPass [some (.str l), some (.lst (ts.map dS)), some (.int c), some (.int (c / 9))] s = .next [some (.str l), some (.lst (ts.map dS)), some (.int c), some (.int (c / 9))] s := fun A => by unfold sIf; rw [G4]; rfl
    have a2 : ∀ A : DE.SM, sIf (tAndM (tVal (DE.e2 (eqD false) (DE.e2 modD (eVar 2) (eC (.int 9))) (eC (.int 5)))) (tVal (DE.e2 gtD (eCall lenD (aCons (eVar 1) aNil)) (eC (.int 1))))) A sPass [some (.str l), some (.lst (ts.map dS)), some (.int c), some (.int (c / 9))] s = .next [some (.str l), some (.lst (ts.map dS)), some (.int c), some (.int (c / 9))] s := fun A => by unfold sIf; rw [G5]; rfl
    exact (seq_to (a1 A)).trans ((seq_to (a2 B)).trans hX)
  clear G4 G5 q4 q5 h4 h5
  by_cases h6 : (c % 9 = 6 ∨ c % 9 = 7) ∧ ts ≠ []
  · obtain ⟨h67, hne⟩ := h6
    obtain ⟨r, a, rfl⟩ := split1 ts hne
    obtain ⟨n1, w1, n2, w2, t1, t2, hn', hw'⟩ := h.one
    have hm : (r ++ [a]).map dS = r.map dS ++ [dS a] := by simp
    have c1 := cut_last (r.map dS) (dS a) s
    have i1 := ix_last (r.map dS) (dS a) s
    rw [← hm] at c1 i1
    have hem : (r ++ [a]).isEmpty = false := by simp
    rw [hem] at se
    by_cases h6 : c % 9 = 6
    · have hr3 : 0 ≤ c / 9 % 3 ∧ c / 9 % 3 < 3 := ⟨Int.emod_nonneg _ (by decide), Int.emod_lt_of_pos _ (by decide)⟩
      have M1 := mul_S (k := 1 + c / 9 % 3) (c := 33) (s := s) ⟨by omega, by omega⟩
      have tm : Tx' (List.replicate (1 + c / 9 % 3).toNat 33) 3 3 := tx_rep (by decide) _ _ _ (by omega) (by rw [wt_rep]; simp; omega)
      generalize List.replicate (1 + c / 9 % 3).toNat 33 = m at *
      have A1 := add_dS (a := m) (b := a) (s := s) (by have := t2.len; have := tm.len; omega)
      have A5 : addD (.lst (r.map dS)) (.lst [dS (m ++ a)]) s = .ok (.lst ((r ++ [m ++ a]).map dS)) s := addL (us := [m ++ a]) (by simp at hl ⊢; omega)
      refine ⟨r ++ [m ++ a], ?_, (t1.add (tm.app t2)).mono (by omega) (by omega), by simp⟩
      refine body_ret ((seq_to p0).trans (pre _ _ (seq_stop ?_) _ _))
      rw [← dba] at M1
      clear pre p0
      generalize ((r ++ [m ++ a]).map dS) = XX at *
      generalize dS (m ++ a) = Y1 at *
      generalize ((r ++ [a]).map dS) = TT at *
      generalize r.map dS = RR at *
      generalize dS a = da at *
      simp [bodyF, env0, sSeq, sSet, sIf, sRet, sRetN, sExpr, sPass, sRaise, sBad, eVar, eC, eTup, eLst, aCons, aNil, eCall, ar, DE.e2, eAnd, eOr, eNot, eIf, eNeg, tVal, tAndM, tOrM, tNotM, tYesM, eChain, isiD, tyOf, isTy, eM1, oNone, oSome, eCut, R.bind_ok, R.bind_exc, R.bindS_ok, R.bindS_exc, RS.bind_next, RS.bind_ret, RS.bind_exc, LINE, ofS_inj, ofS_ok, eqD_int, eqD_ss, inD3_ss, inD2_ss, m9, h6, se, c1, i1, modD_int, addD_int, M1, A1, A5]
    · have h7 : c % 9 = 7 := by rcases h67 with h | h; exact absurd h h6; exact h
      have hr3 : 0 ≤ c / 9 % 4 ∧ c / 9 % 4 < 4 := ⟨Int.emod_nonneg _ (by decide), Int.emod_lt_of_pos _ (by decide)⟩
      have M1 := mul_S (k := c / 9 % 4) (c := 42) (s := s) ⟨hr3.1, by omega⟩
      have tm : Tx' (List.replicate (c / 9 % 4).toNat 42) 3 0 := tx_rep (by decide) _ _ _ (by omega) (by rw [wt_rep]; simp)
      generalize List.replicate (c / 9 % 4).toNat 42 = m at *
      have A1 := add_dS (a := [40]) (b := a) (s := s) (by have := t2.len; simp; omega)
      have A2 := add_dS (a := [40] ++ a) (b := [41]) (s := s) (by have := t2.len; simp; omega)
      have A3 := add_dS (a := [40] ++ a ++ [41]) (b := m) (s := s) (by have := t2.len; have := tm.len; simp; omega)
      have A5 : addD (.lst (r.map dS)) (.lst [dS ([40] ++ a ++ [41] ++ m)]) s = .ok (.lst ((r ++ [[40] ++ a ++ [41] ++ m]).map dS)) s := addL (us := [[40] ++ a ++ [41] ++ m]) (by simp at hl ⊢; omega)
      refine ⟨r ++ [[40] ++ a ++ [41] ++ m], ?_, (t1.add (((t40.app t2).app t41).app tm)).mono (by omega) (by omega), by simp⟩
      have e6 : sIf (tAndM (tVal (DE.e2 (eqD false) (DE.e2 modD (eVar 2) (eC (.int 9))) (eC (.int 6)))) (tVal (DE.e2 (eqD true) (eVar 1) (eLst aNil))))
        (sRet (DE.e2 addD (eCut (eVar 1) oNone (oSome (eNeg (eC (.int 1))))) (eLst (aCons (DE.e2 addD (DE.e2 mulD (eC (.str "!")) (DE.e2 addD (eC (.int 1)) (DE.e2 modD (eVar 3) (eC (.int 3))))) (DE.e2 ixD (eVar 1) (eNeg (eC (.int 1))))) aNil)))) sPass
        [some (.str l), some (.lst ((r ++ [a]).map dS)), some (.int c), some (.int (c / 9))] s = .next [some (.str l), some (.lst ((r ++ [a]).map dS)), some (.int c), some (.int (c / 9))] s := by
        generalize D.lst ((r ++ [a]).map dS) = TT at *
        simp [bodyF, env0, sSeq, sSet, sIf, sRet, sRetN, sExpr, sPass, sRaise, sBad, eVar, eC, eTup, eLst, aCons, aNil, eCall, ar, DE.e2, eAnd, eOr, eNot, eIf, eNeg, tVal, tAndM, tOrM, tNotM, tYesM, eChain, isiD, tyOf, isTy, eM1, oNone, oSome, eCut, R.bind_ok, R.bind_exc, R.bindS_ok, R.bindS_exc, RS.bind_next, RS.bind_ret, RS.bind_exc, LINE, ofS_inj, ofS_ok, eqD_int, eqD_ss, inD3_ss, inD2_ss, m9, h6]
      refine body_ret ((seq_to p0).trans (pre _ _ ((seq_to e6).trans (seq_stop ?_)) _ _))
      rw [← dlp] at A1
      rw [← drp] at A2
      rw [← dst] at M1
      clear pre p0 e6
      generalize ((r ++ [[40] ++ a ++ [41] ++ m]).map dS) = XX at *
      generalize dS ([40] ++ a ++ [41] ++ m) = Y1 at *
      generalize dS ([40] ++ a ++ [41]) = Y2 at *
      generalize dS ([40] ++ a) = Y3 at *
      generalize ((r ++ [a]).map dS) = TT at *
      generalize r.map dS = RR at *
      generalize dS a = da at *
      simp [bodyF, env0, sSeq, sSet, sIf, sRet, sRetN, sExpr, sPass, sRaise, sBad, eVar, eC, eTup, eLst, aCons, aNil, eCall, ar, DE.e2, eAnd, eOr, eNot, eIf, eNeg, tVal, tAndM, tOrM, tNotM, tYesM, eChain, isiD, tyOf, isTy, eM1, oNone, oSome, eCut, R.bind_ok, R.bind_exc, R.bindS_ok, R.bindS_exc, RS.bind_next, RS.bind_ret, RS.bind_exc, LINE, ofS_inj, ofS_ok, eqD_int, eqD_ss, inD3_ss, inD2_ss, m9, h7, se, c1, i1, modD_int, addD_int, M1, A1, A2, A3, A5]
  have G6 : ∀ q : Int, q = 6 ∨ q = 7 → (tAndM (tVal (DE.e2 (eqD false) (DE.e2 modD (eVar 2) (eC (.int 9))) (eC (.int q)))) (tVal (DE.e2 (eqD true) (eVar 1) (eLst aNil)))) [some (.str l), some (.lst (ts.map dS)), some (.int c), some (.int (c / 9))] s = .ok false s := fun q hq => by
    clear pre p0
    by_cases g1 : c % 9 = q
    · have hem : ts = [] := Classical.byContradiction fun g => h6 ⟨by omega, g⟩
      have hem2 : ts.isEmpty = true := by rw [hem]; rfl
      rw [hem2] at se
      generalize D.lst (ts.map dS) = TT at *
      simp [bodyF, env0, sSeq, sSet, sIf, sRet, sRetN, sExpr, sPass, sRaise, sBad, eVar, eC, eTup, eLst, aCons, aNil, eCall, ar, DE.e2, eAnd, eOr, eNot, eIf, eNeg, tVal, tAndM, tOrM, tNotM, tYesM, eChain, isiD, tyOf, isTy, eM1, oNone, oSome, eCut, R.bind_ok, R.bind_exc, R.bindS_ok, R.bindS_exc, RS.bind_next, RS.bind_ret, RS.bind_exc, LINE, ofS_inj, ofS_ok, eqD_int, eqD_ss, inD3_ss, inD2_ss, m9, g1, se]
    · generalize D.lst (ts.map dS) = TT at *
      simp [bodyF, env0, sSeq, sSet, sIf, sRet, sRetN, sExpr, sPass, sRaise, sBad, eVar, eC, eTup, eLst, aCons, aNil, eCall, ar, DE.e2, eAnd, eOr, eNot, eIf, eNeg, tVal, tAndM, tOrM, tNotM, tYesM, eChain, isiD, tyOf, isTy, eM1, oNone, oSome, eCut, R.bind_ok, R.bind_exc, R.bindS_ok, R.bindS_exc, RS.bind_next, RS.bind_ret, RS.bind_exc, LINE, ofS_inj, ofS_ok, eqD_int, eqD_ss, inD3_ss, inD2_ss, m9, g1]
  have a6 : ∀ A : DE.SM, sIf (tAndM (tVal (DE.e2 (eqD false) (DE.e2 modD (eVar 2) (eC (.int 9))) (eC (.int 6)))) (tVal (DE.e2 (eqD true) (eVar 1) (eLst aNil)))) A sPass [some (.str l), some (.lst (ts.map dS)), some (.int c), some (.int (c / 9))] s = .next [some (.str l), some (.lst (ts.map dS)), some (.int c), some (.int (c / 9))] s := fun A => by unfold sIf; rw [G6 6 (.inl rfl)]; rfl
  have a7 : ∀ A : DE.SM, sIf (tAndM (tVal (DE.e2 (eqD false) (DE.e2 modD (eVar 2) (eC (.int 9))) (eC (.int 7)))) (tVal (DE.e2 (eqD true) (eVar 1) (eLst aNil)))) A sPass [some (.str l), some (.lst (ts.map dS)), some (.int c), some (.int (c / 9))] s = .next [some (.str l), some (.lst (ts.map dS)), some (.int c), some (.int (c / 9))] s := fun A => by unfold sIf; rw [G6 7 (.inr rfl)]; rfl
  by_cases h8 : c % 9 = 8
  · obtain ⟨u, eu, tu⟩ := six (c / 9 % 6) s (Int.emod_nonneg _ (by decide)) (Int.emod_lt_of_pos _ (by decide))
    have A5 : addD (.lst (ts.map dS)) (.lst [dS u]) s = .ok (.lst ((ts ++ [u]).map dS)) s := addL (us := [u]) (by simp; omega)
    refine ⟨ts ++ [u], ?_, h.add tu, by simp⟩
    refine body_ret ((seq_to p0).trans (pre _ _ ((seq_to (a6 _)).trans ((seq_to (a7 _)).trans (seq_stop ?_))) _ _))
    clear pre p0 a6 a7 G6
    generalize ((ts ++ [u]).map dS) = XX at *
    generalize dS u = U at *
    generalize (ts.map dS) = TT at *
    simp [bodyF, env0, sSeq, sSet, sIf, sRet, sRetN, sExpr, sPass, sRaise, sBad, eVar, eC, eTup, eLst, aCons, aNil, eCall, ar, DE.e2, eAnd, eOr, eNot, eIf, eNeg, tVal, tAndM, tOrM, tNotM, tYesM, eChain, isiD, tyOf, isTy, eM1, oNone, oSome, eCut, R.bind_ok, R.bind_exc, R.bindS_ok, R.bindS_exc, RS.bind_next, RS.bind_ret, RS.bind_exc, LINE, ofS_inj, ofS_ok, eqD_int, eqD_ss, inD3_ss, inD2_ss, m9, h8, modD_int, eu, A5]
  · have hL1 := hL.len
    have eL : lenD [.str l] s = .ok (.int l.length) s := lenD_str (by omega)
    obtain ⟨g, hg, eg⟩ := let_ix hL (i := c / 9 % (l.length : Int)) s (Int.emod_nonneg _ (by omega)) (Int.emod_lt_of_pos _ (by omega))
    have em : modD (.int (c / 9)) (.int l.length) s = .ok (.int (c / 9 % l.length)) s := modD_int (by omega)
    have hz := hL.lf.az g hg
    have tu : Tx' [g] 1 0 := ⟨by simp, by rw [wt_cons, if_neg (by omega), if_neg (by omega)]; simp [wt], fun x hx => by have : x = g := by simpa using hx
                                                                                                                        omega⟩
    have A5 : addD (.lst (ts.map dS)) (.lst [dS [g]]) s = .ok (.lst ((ts ++ [[g]]).map dS)) s := addL (us := [[g]]) (by simp; omega)
    have eg : ixD (.str l) (.int (c / 9 % (l.length : Int))) s = .ok (dS [g]) s := eg
    refine ⟨ts ++ [[g]], ?_, (h.add tu).mono (by omega) (by omega), by simp⟩
    have e8 : sIf (tVal (DE.e2 (eqD false) (DE.e2 modD (eVar 2) (eC (.int 9))) (eC (.int 8))))
      (sRet (DE.e2 addD (eVar 1) (eLst (aCons (DE.e2 ixD (eLst (aCons (eC (.str "()")) (aCons (eC (.str "[]")) (aCons (eC (.str "(())")) (aCons (eC (.str "([])*")) (aCons (eC (.str "()**")) (aCons (eC (.str "!()")) aNil))))))) (DE.e2 modD (eVar 3) (eC (.int 6)))) aNil)))) sPass
      [some (.str l), some (.lst (ts.map dS)), some (.int c), some (.int (c / 9))] s = .next [some (.str l), some (.lst (ts.map dS)), some (.int c), some (.int (c / 9))] s := by
      clear pre p0 a6 a7 G6
      generalize D.lst (ts.map dS) = TT at *
      simp [bodyF, env0, sSeq, sSet, sIf, sRet, sRetN, sExpr, sPass, sRaise, sBad, eVar, eC, eTup, eLst, aCons, aNil, eCall, ar, DE.e2, eAnd, eOr, eNot, eIf, eNeg, tVal, tAndM, tOrM, tNotM, tYesM, eChain, isiD, tyOf, isTy, eM1, oNone, oSome, eCut, R.bind_ok, R.bind_exc, R.bindS_ok, R.bindS_exc, RS.bind_next, RS.bind_ret, RS.bind_exc, LINE, ofS_inj, ofS_ok, eqD_int, eqD_ss, inD3_ss, inD2_ss, m9, h8]
    refine body_ret ((seq_to p0).trans (pre _ _ ((seq_to (a6 _)).trans ((seq_to (a7 _)).trans ((seq_to e8).trans ?_))) _ _))
    clear pre p0 a6 a7 G6 e8
    generalize ((ts ++ [[g]]).map dS) = XX at *
    generalize dS [g] = U at *
    generalize (ts.map dS) = TT at *
    generalize l.length = ll at *
    simp [bodyF, env0, sSeq, sSet, sIf, sRet, sRetN, sExpr, sPass, sRaise, sBad, eVar, eC, eTup, eLst, aCons, aNil, eCall, ar, DE.e2, eAnd, eOr, eNot, eIf, eNeg, tVal, tAndM, tOrM, tNotM, tYesM, eChain, isiD, tyOf, isTy, eM1, oNone, oSome, eCut, R.bind_ok, R.bind_exc, R.bindS_ok, R.bindS_exc, RS.bind_next, RS.bind_ret, RS.bind_exc, LINE, ofS_inj, ofS_ok, eqD_int, eqD_ss, inD3_ss, inD2_ss, eL, em, eg, A5]
end G
/-! K3G: texts with one sign changed -/
namespace G
open PySem PySem.Spec PyProof.Rows L2 DE PySem.StrLaws
theorem lets_str : ((List.range 26).all fun a => (List.range 12).all fun st => (List.range 4).all fun n => SM.cps.toList.any fun c => !(letsF a (n + 1) (st + 1)).cps.toList.contains c) = true := by decide +kernel
theorem lets_strange (c : Int) : ∃ g ∈ SM.cps.toList, g ∉ (lets c).cps.toList := by
  have h4 : 0 ≤ c % 4 ∧ c % 4 < 4 := ⟨Int.emod_nonneg _ (by decide), Int.emod_lt_of_pos _ (by decide)⟩
  have h12 : 0 ≤ c / 104 % 12 ∧ c / 104 % 12 < 12 := ⟨Int.emod_nonneg _ (by decide), Int.emod_lt_of_pos _ (by decide)⟩
  have h26 : 0 ≤ c / 4 % 26 ∧ c / 4 % 26 < 26 := ⟨Int.emod_nonneg _ (by decide), Int.emod_lt_of_pos _ (by decide)⟩
  have h := lets_str
  rw [List.all_eq_true] at h
  have h := h (c / 4 % 26).toNat (List.mem_range.mpr (by omega))
  rw [List.all_eq_true] at h
  have h := h (c / 104 % 12).toNat (List.mem_range.mpr (by omega))
  rw [List.all_eq_true] at h
  have h := h (c % 4).toNat (List.mem_range.mpr (by omega))
  rw [List.any_eq_true] at h
  obtain ⟨g, hg, h⟩ := h
  have e1 : (c % 4).toNat + 1 = (1 + c % 4).toNat := by omega
  have e2 : (c / 104 % 12).toNat + 1 = (1 + c / 104 % 12).toNat := by omega
  rw [e1, e2] at h
  exact ⟨g, hg, by unfold lets; simpa using h⟩
theorem SM_az : ∀ g ∈ SM.cps.toList, 97 ≤ g ∧ g ≤ 122 := fun g hg => by
  have := List.all_eq_true.mp az g hg
  simpa using this
theorem ixS (u : List Nat) (i : Int) (s : Store) (h : u.length ≤ 1000) (h0 : 0 ≤ i) (hi : i < u.length) : ∃ c ∈ u, ixD (dS u) (.int i) s = .ok (dS [c]) s := by
  have hn : i.toNat < u.length := by omega
  have hd := List.drop_eq_getElem_cons hn
  have := ix_txt u i.toNat u[i.toNat] (u.drop (i.toNat + 1)) s h hd
  have e : ((i.toNat : Nat) : Int) = i := by omega
  rw [e] at this
  exact ⟨_, List.getElem_mem hn, this⟩
def endB : List Nat → Bool
  | [] => true
  | c :: _ => decide (c = 124 ∨ c = 38 ∨ c = 41)
theorem endB_iff (t : List Nat) : EndHd t ↔ endB t = true := by
  cases t with
  | nil => exact ⟨fun _ => rfl, fun _ => .inl rfl⟩
  | cons c r => simp [endB, EndHd]
theorem Tx'.put {t : List Nat} {n w : Nat} (h : Tx' t n w) {u : List Nat} {m v : Nat} (hu : Tx' u m v) (i j : Nat) (hij : i ≤ j) : Tx' (t.take i ++ u ++ t.drop j) (n + m) (w + v) := by
  have e := congrArg G.wt (List.take_append_drop i t)
  rw [wt_app] at e
  have d := wt_drop t i j hij
  refine ⟨?_, ?_, fun c hc => ?_⟩
  · have := h.len
    have := hu.len
    simp only [List.length_append, List.length_take, List.length_drop]
    omega
  · have := h.wt
    have := hu.wt
    rw [wt_app, wt_app]
    omega
  · rcases List.mem_append.mp hc with hc | hc
    · rcases List.mem_append.mp hc with hc | hc
      · exact h.sg c (List.mem_of_mem_take hc)
      · exact hu.sg c hc
    · exact h.sg c (List.mem_of_mem_drop hc)
theorem Tx'.okT {t : List Nat} {n w : Nat} (h : Tx' t n w) (hn : n ≤ 400) : okT t := ⟨Nat.le_trans h.len hn, fun c hc => by have := h.sg c hc; omega⟩
theorem str_dS (l : Str) : D.str l = dS l.cps.toList := by rw [dS, S'_of]
theorem ev_edited {l : Str} (hL : LetF l) (hx : ∃ g ∈ SM.cps.toList, g ∉ l.cps.toList) (k : Nat) (t : List Nat) (n w : Nat) (h : Tx' t n w) (hn : n ≤ 300) (c : Int) (s : Store) :
    ∃ t', fns (k + 1) i__law_edited [.str l, dS t, .int c] s = .ok (dS t') s ∧ Tx' t' (n + 1) (w + 3) := by
  rw [e__law_edited]
  have ht : okT t := h.okT (by omega)
  have hlen := lenD_S (s := s) ht
  have hL1 := hL.len
  have hLl : l.cps.toList.length = l.length := rfl
  have htl := h.len
  -- the number
  obtain ⟨N, hN0, p1⟩ : ∃ N : Int, 0 ≤ N ∧ sSet 3 (DE.e2 modD (DE.e2 mulD (eCall absD (aCons (eVar 2) aNil)) (eC (.int 48271))) (eC (.int 1000003))) (env0 11 [.str l, dS t, .int c]) s = .next [some (.str l), some (dS t), some (.int c), some (.int N), none, none, none, none, none, none, none] s := by
    have e1 : absD [.int c] s = .ok (.int (if c < 0 then -c else c)) s := rfl
    generalize (if c < 0 then -c else c) = a at e1
    have e2 : mulD (.int a) (.int 48271) s = .ok (.int (a * 48271)) s := by
      unfold mulD
      simp only
      rw [if_pos (.inr (by unfold BIG; omega))]
    have e3 : modD (.int (a * 48271)) (.int 1000003) s = .ok (.int (a * 48271 % 1000003)) s := modD_int (by omega)
    refine ⟨a * 48271 % 1000003, Int.emod_nonneg _ (by omega), ?_⟩
    generalize a * 48271 = b at *
    generalize b % 1000003 = d at *
    simp [bodyF, env0, sSeq, sSet, sIf, sRet, sRetN, sExpr, sPass, sRaise, sBad, eVar, eC, eTup, eLst, aCons, aNil, eCall, ar, DE.e2, eAnd, eOr, eNot, eIf, eNeg, tVal, tAndM, tOrM, tNotM, tYesM, eChain, isiD, tyOf, isTy, eM1, oNone, oSome, eCut, R.bind_ok, R.bind_exc, R.bindS_ok, R.bindS_exc, RS.bind_next, RS.bind_ret, RS.bind_exc, LINE, ofS_inj, ofS_ok, eqD_int, eqD_ss, inD3_ss, inD2_ss, e1, e2, e3, env0]
  -- the others
  obtain ⟨Y, hY, hYm, p2⟩ : ∃ Y : List D, 0 < Y.length ∧ (∀ x ∈ Y, ∃ g, x = dS [g] ∧ g < 128 ∧ 97 ≤ g) ∧ sSet 4 (eLc (itV' (eC (.str "abcdefghijklmnopqrstuvwxyz"))) (.one 7) [7] (tVal (DE.e2 (inD true) (eVar 7) (eVar 0))) (eVar 7)) [some (.str l), some (dS t), some (.int c), some (.int N), none, none, none, none, none, none, none] s = .next [some (.str l), some (dS t), some (.int c), some (.int N), some (.lst Y), none, none, none, none, none, none] s := by
    have e := fun (Z : Str) (hZ : Z.cps.toList.length ≤ 1000) => eLc_by (t := .one 7) (vs := [7]) (tt := (tVal (DE.e2 (inD true) (eVar 7) (eVar 0)))) (em := eVar 7) (im := itV' (eC (.str Z))) (env := [some (.str l), some (dS t), some (.int c), some (.int N), none, none, none, none, none, none, none]) (s := s) (fun g => .str ⟨#[g]⟩) (fun g => !decide (g ∈ l.cps.toList)) (fun g => .str ⟨#[g]⟩) Z.cps.toList (by simp [itV', bodyF, env0, sSeq, sSet, sIf, sRet, sRetN, sExpr, sPass, sRaise, sBad, eVar, eC, eTup, eLst, aCons, aNil, eCall, ar, DE.e2, eAnd, eOr, eNot, eIf, eNeg, tVal, tAndM, tOrM, tNotM, tYesM, eChain, isiD, tyOf, isTy, eM1, oNone, oSome, eCut, R.bind_ok, R.bind_exc, R.bindS_ok, R.bindS_exc, RS.bind_next, RS.bind_ret, RS.bind_exc, LINE, ofS_inj, ofS_ok, eqD_int, eqD_ss, inD3_ss, inD2_ss, DE.signs]) hZ (fun g hg => by
      refine ⟨_, rfl, ?_, fun _ => ?_⟩
      · simp [bodyF, env0, sSeq, sSet, sIf, sRet, sRetN, sExpr, sPass, sRaise, sBad, eVar, eC, eTup, eLst, aCons, aNil, eCall, ar, DE.e2, eAnd, eOr, eNot, eIf, eNeg, tVal, tAndM, tOrM, tNotM, tYesM, eChain, isiD, tyOf, isTy, eM1, oNone, oSome, eCut, R.bind_ok, R.bind_exc, R.bindS_ok, R.bindS_exc, RS.bind_next, RS.bind_ret, RS.bind_exc, LINE, ofS_inj, ofS_ok, eqD_int, eqD_ss, inD3_ss, inD2_ss, wipeE, inD]
      · simp [bodyF, env0, sSeq, sSet, sIf, sRet, sRetN, sExpr, sPass, sRaise, sBad, eVar, eC, eTup, eLst, aCons, aNil, eCall, ar, DE.e2, eAnd, eOr, eNot, eIf, eNeg, tVal, tAndM, tOrM, tNotM, tYesM, eChain, isiD, tyOf, isTy, eM1, oNone, oSome, eCut, R.bind_ok, R.bind_exc, R.bindS_ok, R.bindS_exc, RS.bind_next, RS.bind_ret, RS.bind_exc, LINE, ofS_inj, ofS_ok, eqD_int, eqD_ss, inD3_ss, inD2_ss, wipeE])
    have hl : SM.cps.toList.length = 26 := SM_len
    have e := e SM (by omega)
    obtain ⟨g0, hg0, hg1⟩ := hx
    refine ⟨(SM.cps.toList.filter (fun g => !decide (g ∈ l.cps.toList))).map (fun g => D.str ⟨#[g]⟩), ?_, fun x hx => ?_, ?_⟩
    · rw [List.length_map]
      exact List.length_pos_of_mem (List.mem_filter.mpr ⟨hg0, by simpa using hg1⟩)
    · obtain ⟨g, hg, rfl⟩ := List.mem_map.mp hx
      have := SM_az g (List.mem_filter.mp hg).1
      exact ⟨g, rfl, by omega, this.1⟩
    · have es : Str.ofString "abcdefghijklmnopqrstuvwxyz" = SM := rfl
      simp only [es]
      unfold sSet
      rw [e]
      rfl
  have m7 : modD (.int (N / 7)) (.int (Y.length : Nat)) s = .ok (.int (N / 7 % (Y.length : Nat))) s := modD_int (by omega)
  obtain ⟨x, hxm, ex⟩ := ixD_int (xs := Y) (i := N / 7 % (Y.length : Nat)) (s := s) (Int.emod_nonneg _ (by omega)) (Int.emod_lt_of_pos _ (by omega))
  obtain ⟨o, rfl, ho, ho2⟩ := hYm x hxm
  have p3 : sSet 5 (DE.e2 ixD (eVar 4) (DE.e2 modD (DE.e2 fdivD (eVar 3) (eC (.int 7))) (eCall lenD (aCons (eVar 4) aNil)))) [some (.str l), some (dS t), some (.int c), some (.int N), some (.lst Y), none, none, none, none, none, none] s = .next [some (.str l), some (dS t), some (.int c), some (.int N), some (.lst Y), some (dS [o]), none, none, none, none, none] s := by
    have hYl : lenD [.lst Y] s = .ok (.int Y.length) s := lenD_lst
    generalize Y.length = yl at *
    simp [bodyF, env0, sSeq, sSet, sIf, sRet, sRetN, sExpr, sPass, sRaise, sBad, eVar, eC, eTup, eLst, aCons, aNil, eCall, ar, DE.e2, eAnd, eOr, eNot, eIf, eNeg, tVal, tAndM, tOrM, tNotM, tYesM, eChain, isiD, tyOf, isTy, eM1, oNone, oSome, eCut, R.bind_ok, R.bind_exc, R.bindS_ok, R.bindS_exc, RS.bind_next, RS.bind_ret, RS.bind_exc, LINE, ofS_inj, ofS_ok, eqD_int, eqD_ss, inD3_ss, inD2_ss, fdivD_int, hYl, m7, ex]
  -- what may be put in
  obtain ⟨u, hu, hul, hu0, p4⟩ : ∃ u : List Nat, (∀ x ∈ u, x < 128) ∧ u.length ≤ 100 ∧ 0 < u.length ∧ sSet 6 (DE.e2 addD (DE.e2 addD (DE.e2 addD (DE.e2 addD (eC (.str "()[]|&!*")) (eVar 0)) (eC (.str " A-"))) (eVar 5)) (eVar 5)) [some (.str l), some (dS t), some (.int c), some (.int N), some (.lst Y), some (dS [o]), none, none, none, none, none] s = .next [some (.str l), some (dS t), some (.int c), some (.int N), some (.lst Y), some (dS [o]), some (dS u), none, none, none, none] s := by
    have l1 : D.str (Str.ofString "()[]|&!*") = dS [40, 41, 91, 93, 124, 38, 33, 42] := by
      have : Str.ofString "()[]|&!*" = S' [40, 41, 91, 93, 124, 38, 33, 42] := by decide +kernel
      rw [this]; rfl
    have l2 : D.str (Str.ofString " A-") = dS [32, 65, 45] := by
      have : Str.ofString " A-" = S' [32, 65, 45] := by decide +kernel
      rw [this]; rfl
    have A1 := add_dS (a := [40, 41, 91, 93, 124, 38, 33, 42]) (b := l.cps.toList) (s := s) (by simp only [List.length_cons, List.length_nil]; omega)
    have A2 := add_dS (a := [40, 41, 91, 93, 124, 38, 33, 42] ++ l.cps.toList) (b := [32, 65, 45]) (s := s) (by simp only [List.length_append, List.length_cons, List.length_nil]; omega)
    have A3 := add_dS (a := [40, 41, 91, 93, 124, 38, 33, 42] ++ l.cps.toList ++ [32, 65, 45]) (b := [o]) (s := s) (by simp only [List.length_append, List.length_cons, List.length_nil]; omega)
    have A4 := add_dS (a := [40, 41, 91, 93, 124, 38, 33, 42] ++ l.cps.toList ++ [32, 65, 45] ++ [o]) (b := [o]) (s := s) (by simp only [List.length_append, List.length_cons, List.length_nil]; omega)
    refine ⟨[40, 41, 91, 93, 124, 38, 33, 42] ++ l.cps.toList ++ [32, 65, 45] ++ [o] ++ [o], fun x hx => ?_, by simp only [List.length_append, List.length_cons, List.length_nil]; omega, by simp only [List.length_append, List.length_cons, List.length_nil]; omega, ?_⟩
    · simp only [List.mem_append, List.mem_cons, List.not_mem_nil, or_false] at hx
      rcases hx with (((hx | hx) | hx) | hx) | hx
      · omega
      · have := hL.lf.az x hx; omega
      · omega
      · omega
      · omega
    · rw [← l1, ← str_dS] at A1
      rw [← l2] at A2
      generalize dS ([40, 41, 91, 93, 124, 38, 33, 42] ++ l.cps.toList ++ [32, 65, 45] ++ [o] ++ [o]) = Y5 at *
      generalize dS ([40, 41, 91, 93, 124, 38, 33, 42] ++ l.cps.toList ++ [32, 65, 45] ++ [o]) = Y4 at *
      generalize dS ([40, 41, 91, 93, 124, 38, 33, 42] ++ l.cps.toList ++ [32, 65, 45]) = Y3 at *
      generalize dS ([40, 41, 91, 93, 124, 38, 33, 42] ++ l.cps.toList) = Y2 at *
      generalize dS [o] = O at *
      simp [bodyF, env0, sSeq, sSet, sIf, sRet, sRetN, sExpr, sPass, sRaise, sBad, eVar, eC, eTup, eLst, aCons, aNil, eCall, ar, DE.e2, eAnd, eOr, eNot, eIf, eNeg, tVal, tAndM, tOrM, tNotM, tYesM, eChain, isiD, tyOf, isTy, eM1, oNone, oSome, eCut, R.bind_ok, R.bind_exc, R.bindS_ok, R.bindS_exc, RS.bind_next, RS.bind_ret, RS.bind_exc, LINE, ofS_inj, ofS_ok, eqD_int, eqD_ss, inD3_ss, inD2_ss, A1, A2, A3, A4]
  obtain ⟨g, hg, eg⟩ := ixS u (N / 15 % (u.length : Nat)) s (by omega) (Int.emod_nonneg _ (by omega)) (Int.emod_lt_of_pos _ (by omega))
  have hgs := hu g hg
  have hulen : lenD [dS u] s = .ok (.int u.length) s := lenD_str (by rw [S'_len]; omega)
  have m15 : modD (.int (N / 15)) (.int (u.length : Nat)) s = .ok (.int (N / 15 % (u.length : Nat))) s := modD_int (by omega)
  have p5 : sSet 7 (DE.e2 ixD (eVar 6) (DE.e2 modD (DE.e2 fdivD (eVar 3) (eC (.int 15))) (eCall lenD (aCons (eVar 6) aNil)))) [some (.str l), some (dS t), some (.int c), some (.int N), some (.lst Y), some (dS [o]), some (dS u), none, none, none, none] s = .next [some (.str l), some (dS t), some (.int c), some (.int N), some (.lst Y), some (dS [o]), some (dS u), some (dS [g]), none, none, none] s := by
    generalize u.length = ul at *
    generalize dS u = U at *
    simp [bodyF, env0, sSeq, sSet, sIf, sRet, sRetN, sExpr, sPass, sRaise, sBad, eVar, eC, eTup, eLst, aCons, aNil, eCall, ar, DE.e2, eAnd, eOr, eNot, eIf, eNeg, tVal, tAndM, tOrM, tNotM, tYesM, eChain, isiD, tyOf, isTy, eM1, oNone, oSome, eCut, R.bind_ok, R.bind_exc, R.bindS_ok, R.bindS_exc, RS.bind_next, RS.bind_ret, RS.bind_exc, LINE, ofS_inj, ofS_ok, eqD_int, eqD_ss, inD3_ss, inD2_ss, fdivD_int, hulen, m15, eg]
  obtain ⟨A, hA, p6⟩ : ∃ A : Nat, A ≤ t.length ∧ sSet 8 (DE.e2 modD (DE.e2 fdivD (eVar 3) (eC (.int 300))) (DE.e2 addD (eCall lenD (aCons (eVar 1) aNil)) (eC (.int 1)))) [some (.str l), some (dS t), some (.int c), some (.int N), some (.lst Y), some (dS [o]), some (dS u), some (dS [g]), none, none, none] s = .next [some (.str l), some (dS t), some (.int c), some (.int N), some (.lst Y), some (dS [o]), some (dS u), some (dS [g]), some (.int (A : Nat)), none, none] s := by
    have h0 := Int.emod_nonneg (N / 300) (show ((t.length : Nat) : Int) + 1 ≠ 0 by omega)
    have h1 := Int.emod_lt_of_pos (N / 300) (show (0 : Int) < ((t.length : Nat) : Int) + 1 by omega)
    have em : modD (.int (N / 300)) (.int (((t.length : Nat) : Int) + 1)) s = .ok (.int (N / 300 % (((t.length : Nat) : Int) + 1))) s := modD_int (by omega)
    refine ⟨(N / 300 % (((t.length : Nat) : Int) + 1)).toNat, by omega, ?_⟩
    have e : (((N / 300 % (((t.length : Nat) : Int) + 1)).toNat : Nat) : Int) = N / 300 % (((t.length : Nat) : Int) + 1) := by omega
    rw [e]
    have hlen : lenD [dS t] s = .ok (.int (t.length : Nat)) s := hlen
    generalize t.length = tl at *
    generalize dS t = T at *
    simp [bodyF, env0, sSeq, sSet, sIf, sRet, sRetN, sExpr, sPass, sRaise, sBad, eVar, eC, eTup, eLst, aCons, aNil, eCall, ar, DE.e2, eAnd, eOr, eNot, eIf, eNeg, tVal, tAndM, tOrM, tNotM, tYesM, eChain, isiD, tyOf, isTy, eM1, oNone, oSome, eCut, R.bind_ok, R.bind_exc, R.bindS_ok, R.bindS_exc, RS.bind_next, RS.bind_ret, RS.bind_exc, LINE, ofS_inj, ofS_ok, eqD_int, eqD_ss, inD3_ss, inD2_ss, fdivD_int, hlen, addD_int, em]
  -- the three ways
  have pq : ∀ X : DE.SM, ∀ r, X [some (.str l), some (dS t), some (.int c), some (.int N), some (.lst Y), some (dS [o]), some (dS u), some (dS [g]), some (.int (A : Nat)), none, none] s = .ret r s → bodyF 11 (sSeq (sSet 3 (DE.e2 modD (DE.e2 mulD (eCall absD (aCons (eVar 2) aNil)) (eC (.int 48271))) (eC (.int 1000003))))
  (sSeq (sSet 4 (eLc (itV' (eC (.str "abcdefghijklmnopqrstuvwxyz"))) (.one 7) [7] (tVal (DE.e2 (inD true) (eVar 7) (eVar 0))) (eVar 7)))
  (sSeq (sSet 5 (DE.e2 ixD (eVar 4) (DE.e2 modD (DE.e2 fdivD (eVar 3) (eC (.int 7))) (eCall lenD (aCons (eVar 4) aNil)))))
  (sSeq (sSet 6 (DE.e2 addD (DE.e2 addD (DE.e2 addD (DE.e2 addD (eC (.str "()[]|&!*")) (eVar 0)) (eC (.str " A-"))) (eVar 5)) (eVar 5)))
  (sSeq (sSet 7 (DE.e2 ixD (eVar 6) (DE.e2 modD (DE.e2 fdivD (eVar 3) (eC (.int 15))) (eCall lenD (aCons (eVar 6) aNil)))))
  (sSeq (sSet 8 (DE.e2 modD (DE.e2 fdivD (eVar 3) (eC (.int 300))) (DE.e2 addD (eCall lenD (aCons (eVar 1) aNil)) (eC (.int 1))))) X)))))) [.str l, dS t, .int c] s = .ok r s := fun X r hX =>
    body_ret ((seq_to p1).trans ((seq_to p2).trans ((seq_to p3).trans ((seq_to p4).trans ((seq_to p5).trans ((seq_to p6).trans hX))))))
  clear p1 p2 p3 p4 p5 p6
  have m5 : modD (.int N) (.int 5) s = .ok (.int (N % 5)) s := modD_int (by decide)
  have m3 : modD (.int N) (.int 3) s = .ok (.int (N % 3)) s := modD_int (by decide)
  have tg : ∀ k : Nat, k ≤ 1 → Tx' (List.replicate k g) 1 3 := fun k hk => by
    refine tx_rep hgs k 1 3 hk ?_
    have h01 : k = 0 ∨ k = 1 := by omega
    rw [wt_rep]
    rcases h01 with rfl | rfl
    · omega
    · split <;> split <;> omega
  by_cases g5 : N % 5 = 4
  · -- a ! ahead of a mark or of the end
    let ks : List Nat := (List.range (t.length + 1)).filter fun k => endB (t.drop k)
    have e := eLc_by (t := .one 10) (vs := [10]) (tt := (tVal (DE.e2 (inD false) (eCut (eVar 1) (oSome (eVar 10)) (oSome (DE.e2 addD (eVar 10) (eC (.int 1))))) (eLst (aCons (eC (.str "")) (aCons (eC (.str "|")) (aCons (eC (.str "&")) (aCons (eC (.str ")")) aNil)))))))) (em := eVar 10) (im := itR1 (aCons (DE.e2 addD (eCall lenD (aCons (eVar 1) aNil)) (eC (.int 1))) aNil))
      (env := [some (.str l), some (dS t), some (.int c), some (.int N), some (.lst Y), some (dS [o]), some (dS u), some (dS [g]), some (.int (A : Nat)), none, none]) (s := s) (fun k : Nat => .int (0 + (k : Nat))) (fun k => endB (t.drop k)) (fun k : Nat => .int (k : Nat)) (List.range (t.length + 1)) (by
        have hlen : lenD [dS t] s = .ok (.int (t.length : Nat)) s := hlen
        have hr : rangeL 0 ((t.length + 1 : Nat) : Int) = (List.range (t.length + 1)).map (fun k : Nat => D.int (0 + (k : Nat))) := by
          unfold rangeL
          rw [Int.sub_zero, Int.toNat_natCast]
        rw [← hr]
        refine itR1_ok ?_ (by omega)
        generalize dS t = T at *
        generalize t.length = tl at *
        simp [bodyF, env0, sSeq, sSet, sIf, sRet, sRetN, sExpr, sPass, sRaise, sBad, eVar, eC, eTup, eLst, aCons, aNil, eCall, ar, DE.e2, eAnd, eOr, eNot, eIf, eNeg, tVal, tAndM, tOrM, tNotM, tYesM, eChain, isiD, tyOf, isTy, eM1, oNone, oSome, eCut, R.bind_ok, R.bind_exc, R.bindS_ok, R.bindS_exc, RS.bind_next, RS.bind_ret, RS.bind_exc, LINE, ofS_inj, ofS_ok, eqD_int, eqD_ss, inD3_ss, inD2_ss, hlen, addD_int]) (by rw [List.length_range]; omega) (fun k hk => by
        have c1 := cut1 (i := k) (s := s) ht
        have e1 := end_in (i := k) (s := s) ht (endB (t.drop k)) (endB_iff _) false
        refine ⟨_, rfl, ?_, fun _ => ?_⟩
        · have c1 : cutD (dS t) (some (k : Int)) (some ((k : Int) + 1)) s = .ok (.str (S' ((t.drop k).take 1))) s := c1
          generalize endB (t.drop k) = bb at *
          generalize dS t = T at *
          simp [bodyF, env0, sSeq, sSet, sIf, sRet, sRetN, sExpr, sPass, sRaise, sBad, eVar, eC, eTup, eLst, aCons, aNil, eCall, ar, DE.e2, eAnd, eOr, eNot, eIf, eNeg, tVal, tAndM, tOrM, tNotM, tYesM, eChain, isiD, tyOf, isTy, eM1, oNone, oSome, eCut, R.bind_ok, R.bind_exc, R.bindS_ok, R.bindS_exc, RS.bind_next, RS.bind_ret, RS.bind_exc, LINE, ofS_inj, ofS_ok, eqD_int, eqD_ss, inD3_ss, inD2_ss, wipeE, addD_int, c1, e1]
        · simp [bodyF, env0, sSeq, sSet, sIf, sRet, sRetN, sExpr, sPass, sRaise, sBad, eVar, eC, eTup, eLst, aCons, aNil, eCall, ar, DE.e2, eAnd, eOr, eNot, eIf, eNeg, tVal, tAndM, tOrM, tNotM, tYesM, eChain, isiD, tyOf, isTy, eM1, oNone, oSome, eCut, R.bind_ok, R.bind_exc, R.bindS_ok, R.bindS_exc, RS.bind_next, RS.bind_ret, RS.bind_exc, LINE, ofS_inj, ofS_ok, eqD_int, eqD_ss, inD3_ss, inD2_ss, wipeE])
    have hne : 0 < ((((List.range (t.length + 1)).filter fun k => endB (t.drop k)).map fun k : Nat => D.int (k : Nat))).length := by
      rw [List.length_map]
      exact List.length_pos_of_mem (a := t.length) (List.mem_filter.mpr ⟨List.mem_range.mpr (by omega), by rw [List.drop_length]; rfl⟩)
    have hmem : ∀ x ∈ (((List.range (t.length + 1)).filter fun k => endB (t.drop k)).map fun k : Nat => D.int (k : Nat)), ∃ k : Nat, x = .int (k : Nat) ∧ k ≤ t.length := fun x hx => by
      obtain ⟨k, hk, rfl⟩ := List.mem_map.mp hx
      exact ⟨k, rfl, by have := List.mem_range.mp (List.mem_filter.mp hk).1; omega⟩
    generalize (((List.range (t.length + 1)).filter fun k => endB (t.drop k)).map fun k : Nat => D.int (k : Nat)) = MK at *
    have hml : lenD [.lst MK] s = .ok (.int MK.length) s := lenD_lst
    have mm : modD (.int (N / 5)) (.int (MK.length : Nat)) s = .ok (.int (N / 5 % (MK.length : Nat))) s := modD_int (by omega)
    obtain ⟨x, hxm, ex⟩ := ixD_int (xs := MK) (i := N / 5 % (MK.length : Nat)) (s := s) (Int.emod_nonneg _ (by omega)) (Int.emod_lt_of_pos _ (by omega))
    obtain ⟨j, rfl, hj⟩ := hmem x hxm
    have k1 := cutS_to t j s (by omega)
    have k2 := cutS_from t j s (by omega)
    have A1 := add_dS (a := t.take j) (b := [33]) (s := s) (by simp; omega)
    have A2 := add_dS (a := t.take j ++ [33]) (b := t.drop j) (s := s) (by simp; omega)
    refine ⟨t.take j ++ [33] ++ t.drop j, pq _ _ (seq_stop ?_), ?_⟩
    · rw [← dba] at A1
      generalize MK.length = ml at *
      generalize dS (t.take j ++ [33] ++ t.drop j) = Y3 at *
      generalize dS (t.take j ++ [33]) = Y2 at *
      generalize dS (t.take j) = Y1 at *
      generalize dS (t.drop j) = Y0 at *
      generalize dS t = T at *
      clear pq
      simp [bodyF, env0, sSeq, sSet, sIf, sRet, sRetN, sExpr, sPass, sRaise, sBad, eVar, eC, eTup, eLst, aCons, aNil, eCall, ar, DE.e2, eAnd, eOr, eNot, eIf, eNeg, tVal, tAndM, tOrM, tNotM, tYesM, eChain, isiD, tyOf, isTy, eM1, oNone, oSome, eCut, R.bind_ok, R.bind_exc, R.bindS_ok, R.bindS_exc, RS.bind_next, RS.bind_ret, RS.bind_exc, LINE, ofS_inj, ofS_ok, eqD_int, eqD_ss, inD3_ss, inD2_ss, m5, g5, e, fdivD_int, hml, mm, ex, k1, k2, A1, A2]
    · have := h.put (u := [33]) (m := 1) (v := 1) ⟨by simp, by decide, by simp⟩ j j (Nat.le_refl _)
      exact ⟨this.len, by have := this.wt; omega, this.sg⟩
  · have z5 : sIf (tVal (DE.e2 (eqD false) (DE.e2 modD (eVar 3) (eC (.int 5))) (eC (.int 4))))
      (sSeq (sSet 9 (eLc (itR1 (aCons (DE.e2 addD (eCall lenD (aCons (eVar 1) aNil)) (eC (.int 1))) aNil)) (.one 10) [10] (tVal (DE.e2 (inD false) (eCut (eVar 1) (oSome (eVar 10)) (oSome (DE.e2 addD (eVar 10) (eC (.int 1))))) (eLst (aCons (eC (.str "")) (aCons (eC (.str "|")) (aCons (eC (.str "&")) (aCons (eC (.str ")")) aNil))))))) (eVar 10)))
      (sSeq (sSet 8 (DE.e2 ixD (eVar 9) (DE.e2 modD (DE.e2 fdivD (eVar 3) (eC (.int 5))) (eCall lenD (aCons (eVar 9) aNil)))))
      (sRet (DE.e2 addD (DE.e2 addD (eCut (eVar 1) oNone (oSome (eVar 8))) (eC (.str "!"))) (eCut (eVar 1) (oSome (eVar 8)) oNone))))) sPass
      [some (.str l), some (dS t), some (.int c), some (.int N), some (.lst Y), some (dS [o]), some (dS u), some (dS [g]), some (.int (A : Nat)), none, none] s = .next [some (.str l), some (dS t), some (.int c), some (.int N), some (.lst Y), some (dS [o]), some (dS u), some (dS [g]), some (.int (A : Nat)), none, none] s := by
      clear pq
      simp [bodyF, env0, sSeq, sSet, sIf, sRet, sRetN, sExpr, sPass, sRaise, sBad, eVar, eC, eTup, eLst, aCons, aNil, eCall, ar, DE.e2, eAnd, eOr, eNot, eIf, eNeg, tVal, tAndM, tOrM, tNotM, tYesM, eChain, isiD, tyOf, isTy, eM1, oNone, oSome, eCut, R.bind_ok, R.bind_exc, R.bindS_ok, R.bindS_exc, RS.bind_next, RS.bind_ret, RS.bind_exc, LINE, ofS_inj, ofS_ok, eqD_int, eqD_ss, inD3_ss, inD2_ss, m5, g5]
    have k1 := cutS_to t A s (by omega)
    by_cases g3 : N % 3 = 0
    · have k2 := cutS_from t A s (by omega)
      have A1 := add_dS (a := t.take A) (b := [g]) (s := s) (by simp; omega)
      have A2 := add_dS (a := t.take A ++ [g]) (b := t.drop A) (s := s) (by simp; omega)
      have tp := h.put (tg 1 (Nat.le_refl _)) A A (Nat.le_refl _)
      refine ⟨t.take A ++ [g] ++ t.drop A, pq _ _ ((seq_to z5).trans (seq_stop ?_)), tp⟩
      clear pq z5
      generalize dS (t.take A ++ [g] ++ t.drop A) = Y3 at *
      generalize dS (t.take A ++ [g]) = Y2 at *
      generalize dS (t.take A) = Y1 at *
      generalize dS (t.drop A) = Y0 at *
      generalize dS t = T at *
      generalize dS [g] = DG at *
      simp [bodyF, env0, sSeq, sSet, sIf, sRet, sRetN, sExpr, sPass, sRaise, sBad, eVar, eC, eTup, eLst, aCons, aNil, eCall, ar, DE.e2, eAnd, eOr, eNot, eIf, eNeg, tVal, tAndM, tOrM, tNotM, tYesM, eChain, isiD, tyOf, isTy, eM1, oNone, oSome, eCut, R.bind_ok, R.bind_exc, R.bindS_ok, R.bindS_exc, RS.bind_next, RS.bind_ret, RS.bind_exc, LINE, ofS_inj, ofS_ok, eqD_int, eqD_ss, inD3_ss, inD2_ss, m3, g3, k1, k2, A1, A2]
    · have k2 : cutD (dS t) (some ((A : Int) + 1)) none s = .ok (dS (t.drop (A + 1))) s := cutS_from t (A + 1) s (by omega)
      have h3 : 0 ≤ N % 3 ∧ N % 3 < 3 := ⟨Int.emod_nonneg _ (by decide), Int.emod_lt_of_pos _ (by decide)⟩
      have M1 := mul_S (k := N % 3 - 1) (c := g) (s := s) ⟨by omega, by omega⟩
      have tp := h.put (tg (N % 3 - 1).toNat (by omega)) A (A + 1) (by omega)
      have tl := (tg (N % 3 - 1).toNat (by omega)).len
      generalize List.replicate (N % 3 - 1).toNat g = m at *
      have A1 := add_dS (a := t.take A) (b := m) (s := s) (by simp; omega)
      have A2 := add_dS (a := t.take A ++ m) (b := t.drop (A + 1)) (s := s) (by simp; omega)
      refine ⟨t.take A ++ m ++ t.drop (A + 1), pq _ _ ((seq_to z5).trans ((seq_to (env1 := [some (.str l), some (dS t), some (.int c), some (.int N), some (.lst Y), some (dS [o]), some (dS u), some (dS [g]), some (.int (A : Nat)), none, none]) (s1 := s) ?_).trans ?_)), tp⟩
      · clear pq z5
        generalize dS t = T at *
        simp [bodyF, env0, sSeq, sSet, sIf, sRet, sRetN, sExpr, sPass, sRaise, sBad, eVar, eC, eTup, eLst, aCons, aNil, eCall, ar, DE.e2, eAnd, eOr, eNot, eIf, eNeg, tVal, tAndM, tOrM, tNotM, tYesM, eChain, isiD, tyOf, isTy, eM1, oNone, oSome, eCut, R.bind_ok, R.bind_exc, R.bindS_ok, R.bindS_exc, RS.bind_next, RS.bind_ret, RS.bind_exc, LINE, ofS_inj, ofS_ok, eqD_int, eqD_ss, inD3_ss, inD2_ss, m3, g3]
      · clear pq z5
        generalize dS (t.take A ++ m ++ t.drop (A + 1)) = Y3 at *
        generalize dS (t.take A ++ m) = Y2 at *
        generalize dS (t.take A) = Y1 at *
        generalize dS (t.drop (A + 1)) = Y0 at *
        generalize dS t = T at *
        generalize dS [g] = DG at *
        generalize dS m = DM at *
        simp [bodyF, env0, sSeq, sSet, sIf, sRet, sRetN, sExpr, sPass, sRaise, sBad, eVar, eC, eTup, eLst, aCons, aNil, eCall, ar, DE.e2, eAnd, eOr, eNot, eIf, eNeg, tVal, tAndM, tOrM, tNotM, tYesM, eChain, isiD, tyOf, isTy, eM1, oNone, oSome, eCut, R.bind_ok, R.bind_exc, R.bindS_ok, R.bindS_exc, RS.bind_next, RS.bind_ret, RS.bind_exc, LINE, ofS_inj, ofS_ok, eqD_int, eqD_ss, inD3_ss, inD2_ss, m3, k1, k2, M1, A1, A2, subD_int, addD_int]
end G
/-! K3H: the odd texts -/
namespace G
open PySem PySem.Spec PyProof.Rows L2 DE PySem.StrLaws
def WhT (l : Str) (t : List Nat) (p : Pt) : Prop := ∀ (st : List Br) (r : List Nat), Ends2 r → ∃ b', Go l.cps.toList br0 st (t ++ r) b' st r ∧ closeB b' = some (md p)
theorem open_head {l : Str} {b : Br} {st : List Br} {t : List Nat} (h : HeadOk t) : Go l.cps.toList b st (40 :: t) br0 (b :: st) t := by
  obtain ⟨c, u, rfl, h1, h2⟩ := h
  exact open_go (by simp [h2])
theorem at_brk {l : Str} {t : List Nat} {p : Pt} (h : WhT l t p) (hh : HeadOk t) (b : Br) (st : List Br) (r : List Nat) (hr : NoStar r) : Go l.cps.toList b st (40 :: (t ++ 41 :: r)) (putB b (md p) 0) st r := by
  obtain ⟨b1, g, e⟩ := h (b :: st) (41 :: r) (.inr ⟨41, r, rfl, .inl rfl⟩)
  have g2 := close_go (l := l.cps.toList) (b := b) (st := st) (r := r) e
  have hs : stars r = 0 := stars_rep hr 0
  rw [hs, List.drop_zero] at g2
  exact (open_head (hh.app _)).trans (g.trans g2)
theorem wh_brk {l : Str} {t : List Nat} {p : Pt} (h : WhT l t p) (hh : HeadOk t) : WhT l (40 :: (t ++ [41])) p := fun st r hr => by
  have g := at_brk h hh br0 st r hr.ns
  refine ⟨putB br0 (md p) 0, ?_, by simp [putB, br0, closeB, endBranch, endHalf, ofParts, towN, md]⟩
  have e : 40 :: (t ++ [41]) ++ r = 40 :: (t ++ 41 :: r) := by simp
  rw [e]
  exact g
def brk (n : Nat) (t : List Nat) : List Nat := List.replicate n 40 ++ t ++ List.replicate n 41
theorem brk_succ (n : Nat) (t : List Nat) : brk (n + 1) t = 40 :: (brk n t ++ [41]) := by
  unfold brk
  have e : List.replicate (n + 1) 41 = List.replicate n 41 ++ [41] := List.replicate_succ'
  rw [e, List.replicate_succ]
  simp
theorem brk_ok {l : Str} {t : List Nat} {p : Pt} (h : WhT l t p) (hh : HeadOk t) : ∀ n : Nat, WhT l (brk n t) p ∧ HeadOk (brk n t)
  | 0 => by simpa [brk] using And.intro h hh
  | n + 1 => by
    obtain ⟨a, b⟩ := brk_ok h hh n
    rw [brk_succ]
    exact ⟨wh_brk a b, 40, _, rfl, by decide, by decide⟩
theorem read_wh {l : Str} {t : List Nat} {p : Pt} (h : WhT l t p) : readT l.cps.toList t = some (md p) := by
  obtain ⟨b', g, e⟩ := h [] [] (.inl rfl)
  rw [List.append_nil] at g
  exact read_of_go g e
theorem wh_tx {l : Str} (hL : LF l.cps.toList) {p : Pt} (h : okP l p = true) : WhT l (tx p) p := (all_go hL (siz p) p (Nat.le_refl _) h).1
theorem okPs_rep {l : Str} {p : Pt} (h : okP l p = true) (n : Nat) : okPs l (List.replicate n p) = true := okPs_mem.mpr fun q hq => by
  rw [List.mem_replicate] at hq
  rw [hq.2]
  exact h
theorem sizs_rep (p : Pt) : ∀ n : Nat, sizs (List.replicate n p) = n * siz p
  | 0 => by simp [sizs]
  | n + 1 => by rw [List.replicate_succ, sizs, sizs_rep p n, Nat.add_mul]; omega
theorem tx_row (g n : Nat) : tx (.nary .row (List.replicate n (.sg g))) = List.replicate n g := by
  rw [tx]
  have e : (txs .row (List.replicate n (.sg g))).flatten = List.replicate n g := by
    rw [txs_map, List.map_replicate]
    have : inBr (brW .row (ki (.sg g))) (tx (.sg g)) = [g] := by simp [inBr, brW, ki, tx]
    rw [this, rep_one]
  exact (flat_join _).trans e
theorem tx_nots (g : Nat) : ∀ n : Nat, tx (towN .not n (.sg g)) = List.replicate n 33 ++ [g] ∧ brU .not (ki (towN .not n (.sg g))) = false
  | 0 => by simp [towN, tx, brU, ki]
  | n + 1 => by
    obtain ⟨a, b⟩ := tx_nots g n
    refine ⟨?_, by simp [towN, ki, kiU, brU]⟩
    show tx (.un .not (towN .not n (.sg g))) = _
    rw [tx, b, a, List.replicate_succ]
    rfl
theorem tx_manys (g : Nat) : ∀ n : Nat, tx (towN .many n (.sg g)) = [g] ++ List.replicate n 42 ∧ brU .many (ki (towN .many n (.sg g))) = false
  | 0 => by simp [towN, tx, brU, ki]
  | n + 1 => by
    obtain ⟨a, b⟩ := tx_manys g n
    refine ⟨?_, by simp [towN, ki, kiU, brU]⟩
    show tx (.un .many (towN .many n (.sg g))) = _
    have e : List.replicate (n + 1) 42 = List.replicate n 42 ++ [42] := List.replicate_succ'
    rw [tx, b, a, e]
    simp [inBr]
theorem due_of {l : Str} {t : List Nat} {p : Pt} (h : readT l.cps.toList t = some (md p)) : DueD l t = if 60 < siz p then kindD 3 else toD p := by
  unfold DueD
  rw [h]
  rfl
theorem two_sg {l : Str} (hL : LF l.cps.toList) {g : Nat} (hg : g ∈ l.cps.toList) : readT l.cps.toList (brk 199 [g] ++ [g]) = some (md (.nary .row [.sg g, .sg g])) := by
  have ho : okP l (.sg g) = true := by simpa [okP] using hg
  have hz := hL.az g hg
  have h1 : WhT l [g] (.sg g) := wh_tx hL ho
  have hh : HeadOk [g] := ⟨g, [], rfl, by omega, by omega⟩
  obtain ⟨a, b⟩ := brk_ok h1 hh 198
  have g1 := at_brk a b br0 [] [g] hh.ns
  have g2 := (at_atom hL (.sg g) ho rfl) 0 (putB br0 (md (.sg g)) 0) [] [] (by simp [NoStar])
  have e1 : brk 199 [g] ++ [g] = 40 :: (brk 198 [g] ++ 41 :: [g]) := by rw [brk_succ]; simp
  have e2 : inBr false (tx (.sg g)) ++ (List.replicate 0 42 ++ []) = [g] := by simp [inBr, tx]
  rw [e2] at g2
  rw [e1]
  refine read_of_go (g1.trans g2) ?_
  simp [putB, br0, closeB, endBranch, endHalf, ofParts, towN, md, siz, sizs]
/-! ### what read tells of what is none -/
theorem told_none (k : Nat) (hk : 8 ≤ k) {l : Str} (hL : LetF l) (d : D) (s : Store) (h : d = .non ∨ d = .int 7 ∨ ∃ x, d = .lst [x]) : ∃ s', fns k i__law_told [.str l, d] s = .ok (kindD 4) s' := by
  obtain ⟨k, rfl⟩ : ∃ j, k = j + 4 := ⟨k - 4, by omega⟩
  refine ⟨s, told_exc (by decide) (by decide) ?_⟩
  have n1 : fns (k + 2) i_need_letters [.str l] s = .ok .non s := by
    have := ev_need_l k (.str l) s hL.pl
    rw [hL.ok] at this
    exact this
  have n2 := ev_need (k + 1) false s
  rw [e_read]
  generalize fns (k + 2) = call at *
  rcases h with rfl | rfl | ⟨x, rfl⟩ <;> simp [m_read, bodyF, env0, sSeq, sSet, sIf, sRet, sRetN, sExpr, sPass, sRaise, sBad, eVar, eC, eTup, eLst, aCons, aNil, eCall, ar, DE.e2, eAnd, eOr, eNot, eIf, eNeg, tVal, tAndM, tOrM, tNotM, tYesM, eChain, isiD, tyOf, isTy, eM1, oNone, oSome, eCut, R.bind_ok, R.bind_exc, R.bindS_ok, R.bindS_exc, RS.bind_next, RS.bind_ret, RS.bind_exc, LINE, ofS_inj, ofS_ok, eqD_int, eqD_ss, inD3_ss, inD2_ss, n1, n2]
theorem told_long (k : Nat) (hk : 8 ≤ k) {l : Str} (hL : LetF l) (t : List Nat) (h : 400 < t.length) (h2 : t.length ≤ 1000) (s : Store) : ∃ s', fns k i__law_told [.str l, dS t] s = .ok (kindD 3) s' := by
  obtain ⟨k, rfl⟩ : ∃ j, k = j + 4 := ⟨k - 4, by omega⟩
  refine ⟨s, told_exc (by decide) (by decide) ?_⟩
  have n1 : fns (k + 2) i_need_letters [.str l] s = .ok .non s := by
    have := ev_need_l k (.str l) s hL.pl
    rw [hL.ok] at this
    exact this
  have hlen : lenD [dS t] s = .ok (.int (t.length : Nat)) s := lenD_str (by rw [S'_len]; exact h2)
  have h' : (400 : Int) < (t.length : Nat) := by omega
  have hg : gtD (.int (t.length : Nat)) (.int 400) s = .ok (.bl true) s := by simp only [gtD, cmpI, decide_eq_true h']
  have hi : isiD "str" (eVar 1) [some (.str l), some (dS t), none] s = .ok (.bl true) s := by simp [bodyF, env0, sSeq, sSet, sIf, sRet, sRetN, sExpr, sPass, sRaise, sBad, eVar, eC, eTup, eLst, aCons, aNil, eCall, ar, DE.e2, eAnd, eOr, eNot, eIf, eNeg, tVal, tAndM, tOrM, tNotM, tYesM, eChain, isiD, tyOf, isTy, eM1, oNone, oSome, eCut, R.bind_ok, R.bind_exc, R.bindS_ok, R.bindS_exc, RS.bind_next, RS.bind_ret, RS.bind_exc, LINE, ofS_inj, ofS_ok, eqD_int, eqD_ss, inD3_ss, inD2_ss, dS]
  have p1 : sExpr (eCall (ar 1 (fns (k + 2) i_need_letters)) (aCons (eVar 0) aNil)) [some (.str l), some (dS t), none] s = .next [some (.str l), some (dS t), none] s := by
    generalize fns (k + 2) = call at *
    simp [bodyF, env0, sSeq, sSet, sIf, sRet, sRetN, sExpr, sPass, sRaise, sBad, eVar, eC, eTup, eLst, aCons, aNil, eCall, ar, DE.e2, eAnd, eOr, eNot, eIf, eNeg, tVal, tAndM, tOrM, tNotM, tYesM, eChain, isiD, tyOf, isTy, eM1, oNone, oSome, eCut, R.bind_ok, R.bind_exc, R.bindS_ok, R.bindS_exc, RS.bind_next, RS.bind_ret, RS.bind_exc, LINE, ofS_inj, ofS_ok, eqD_int, eqD_ss, inD3_ss, inD2_ss, n1]
  rw [e_read]
  refine body_exc ((seq_to p1).trans ?_)
  have p2 : sIf (tAndM (tVal (isiD "str" (eVar 1))) (tVal (DE.e2 gtD (eCall lenD (aCons (eVar 1) aNil)) (eC (.int 400))))) (sRaise 3) sPass [some (.str l), some (dS t), none] s = .exc 3 s := by
    unfold sIf tAndM
    have e1 : tVal (isiD "str" (eVar 1)) [some (.str l), some (dS t), none] s = .ok true s := by unfold tVal; rw [hi]; rfl
    rw [e1]
    generalize t.length = tl at *
    generalize dS t = T at *
    simp [bodyF, env0, sSeq, sSet, sIf, sRet, sRetN, sExpr, sPass, sRaise, sBad, eVar, eC, eTup, eLst, aCons, aNil, eCall, ar, DE.e2, eAnd, eOr, eNot, eIf, eNeg, tVal, tAndM, tOrM, tNotM, tYesM, eChain, isiD, tyOf, isTy, eM1, oNone, oSome, eCut, R.bind_ok, R.bind_exc, R.bindS_ok, R.bindS_exc, RS.bind_next, RS.bind_ret, RS.bind_exc, LINE, ofS_inj, ofS_ok, eqD_int, eqD_ss, inD3_ss, inD2_ss, hlen, hg]
  unfold sSeq
  rw [p2]
  rfl
structure Odd (l : Str) (tx due : D) : Prop where
  told : ∀ (k : Nat) (s : Store), 8 ≤ k → ∃ s', fns k i__law_told [.str l, tx] s = .ok due s'
  self : Self due
theorem odd_txt {l : Str} (hL : LetF l) {t : List Nat} {p : Pt} (ht : okT t) (h : readT l.cps.toList t = some (md p)) (ho : okP l p = true) (hd : depD (toD p) ≤ 190) : Odd l (dS t) (if 60 < siz p then kindD 3 else toD p) :=
  ⟨fun k s hk => by
    have := ev_told l hL t ht k hk s
    rw [due_of h] at this
    exact this, by
    split
    · exact self_kind 3
    · exact fun s neg => eqD_refl hL.sok ho hd s neg⟩
theorem rep_okT {g n : Nat} (h : g < 0x110000) (hn : n ≤ 400) : okT (List.replicate n g) := ⟨by simpa using hn, fun c hc => by rw [List.mem_replicate] at hc; rw [hc.2]; exact h⟩
theorem dep_rep {l : Str} (g n : Nat) : depD (toD (.nary .row (List.replicate n (.sg g)))) ≤ 4 := by
  have hm : depDs (toDs (List.replicate n (.sg g))) ≤ 1 := depDs_le fun d hd2 => by
    rw [toDs_map] at hd2
    obtain ⟨x, hx, rfl⟩ := List.mem_map.mp hd2
    rw [List.mem_replicate] at hx
    rw [hx.2]
    simp [toD, depD, depDs]
  simp only [toD, depD, depDs]
  omega
/-- the eleven -/
def odds (g : Nat) : List D :=
  [.tup [dS (List.replicate 401 g), kindD 3], .tup [dS (List.replicate 401 40), kindD 3], .tup [dS (List.replicate 60 g), kindD 3], .tup [dS (List.replicate 60 33 ++ [g]), kindD 3]] ++
  [.tup [dS ([g] ++ List.replicate 60 42), kindD 3], .tup [dS (List.replicate 150 40 ++ List.replicate 150 41), toD .emp], .tup [.non, kindD 4]] ++
  [.tup [.int 7, kindD 4], .tup [.lst [dS [g]], kindD 4], .tup [dS (List.replicate 59 g), toD (.nary .row (List.replicate 59 (.sg g)))]] ++
  [.tup [dS (List.replicate 199 40 ++ [g] ++ List.replicate 199 41 ++ [g]), toD (.nary .row [.sg g, .sg g])]]
theorem odds_ok {l : Str} (hL : LetF l) {g : Nat} (hg : g ∈ l.cps.toList) : ∀ d ∈ odds g, ∃ a b, d = .tup [a, b] ∧ Odd l a b := by
  have hz := hL.lf.az g hg
  have ho : okP l (.sg g) = true := by simpa [okP] using hg
  have row : ∀ n, 2 ≤ n → n ≤ 300 → readT l.cps.toList (List.replicate n g) = some (md (.nary .row (List.replicate n (.sg g)))) ∧ okP l (.nary .row (List.replicate n (.sg g))) = true ∧ siz (.nary .row (List.replicate n (.sg g))) = n + 1 := fun n h2 h3 => by
    have hok : okP l (.nary .row (List.replicate n (.sg g))) = true := by
      simp only [okP, Bool.and_eq_true, decide_eq_true_eq]
      exact ⟨⟨by simpa using h2, by simp; omega⟩, okPs_rep ho n⟩
    have := read_tx hL.lf _ hok
    rw [tx_row] at this
    refine ⟨this, hok, ?_⟩
    rw [siz, sizs_rep]
    simp [siz]
    omega
  intro d hd
  simp only [odds, List.mem_append, List.mem_cons, List.not_mem_nil, or_false] at hd
  rcases hd with ((hd | hd) | hd) | hd
  · rcases hd with rfl | rfl | rfl | rfl
    · exact ⟨_, _, rfl, fun k s hk => told_long k hk hL _ (by simp) (by simp) s, self_kind 3⟩
    · exact ⟨_, _, rfl, fun k s hk => told_long k hk hL _ (by simp) (by simp) s, self_kind 3⟩
    · obtain ⟨r1, r2, r3⟩ := row 60 (by decide) (by decide)
      have := odd_txt hL (rep_okT (by omega) (by decide)) r1 r2 (by have := dep_rep (l := l) g 60; omega)
      rw [if_pos (by omega)] at this
      exact ⟨_, _, rfl, this⟩
    · have hok : okP l (towN .not 60 (.sg g)) = true := towN_ok .not ho 60
      have hr := read_tx hL.lf _ hok
      rw [(tx_nots g 60).1] at hr
      have hd := towN_dep .not (.sg g) 60
      have h1 : depD (toD (.sg g)) = 1 := by simp [toD, depD, depDs]
      have := odd_txt hL ⟨by simp, fun c hc => by simp [List.mem_replicate] at hc; omega⟩ hr hok (by omega)
      rw [if_pos (by rw [towN_siz]; simp [siz])] at this
      exact ⟨_, _, rfl, this⟩
  · rcases hd with rfl | rfl | rfl
    · have hok : okP l (towN .many 60 (.sg g)) = true := towN_ok .many ho 60
      have hr := read_tx hL.lf _ hok
      rw [(tx_manys g 60).1] at hr
      have hd := towN_dep .many (.sg g) 60
      have h1 : depD (toD (.sg g)) = 1 := by simp [toD, depD, depDs]
      have := odd_txt hL ⟨by simp, fun c hc => by simp [List.mem_replicate] at hc; omega⟩ hr hok (by omega)
      rw [if_pos (by rw [towN_siz]; simp [siz])] at this
      exact ⟨_, _, rfl, this⟩
    · have hw : WhT l [40, 41] .emp := wh_tx hL.lf (p := .emp) rfl
      have hr := read_wh (brk_ok hw ⟨40, [41], rfl, by decide, by decide⟩ 149).1
      have e : brk 149 [40, 41] = List.replicate 150 40 ++ List.replicate 150 41 := by
        have e1 : List.replicate 150 40 = List.replicate 149 40 ++ [40] := List.replicate_succ'
        have e2 : List.replicate 150 41 = 41 :: List.replicate 149 41 := List.replicate_succ
        rw [brk, e1, e2]
        simp
      rw [e] at hr
      have := odd_txt hL ⟨by simp, fun c hc => by simp [List.mem_replicate] at hc; omega⟩ hr rfl (by simp [toD, depD, depDs])
      rw [if_neg (by simp [siz])] at this
      exact ⟨_, _, rfl, this⟩
    · exact ⟨_, _, rfl, fun k s hk => told_none k hk hL _ s (.inl rfl), self_kind 4⟩
  · rcases hd with rfl | rfl | rfl
    · exact ⟨_, _, rfl, fun k s hk => told_none k hk hL _ s (.inr (.inl rfl)), self_kind 4⟩
    · exact ⟨_, _, rfl, fun k s hk => told_none k hk hL _ s (.inr (.inr ⟨_, rfl⟩)), self_kind 4⟩
    · obtain ⟨r1, r2, r3⟩ := row 59 (by decide) (by decide)
      have := odd_txt hL (rep_okT (by omega) (by decide)) r1 r2 (by have := dep_rep (l := l) g 59; omega)
      rw [if_neg (by omega)] at this
      exact ⟨_, _, rfl, this⟩
  · subst hd
    have hr := two_sg hL.lf hg
    have e : brk 199 [g] ++ [g] = List.replicate 199 40 ++ [g] ++ List.replicate 199 41 ++ [g] := rfl
    rw [e] at hr
    have := odd_txt hL ⟨by simp, fun c hc => by simp [List.mem_replicate] at hc; omega⟩ hr (by simp [okP, okPs, hg]) (by simp [toD, toDs, depD, depDs])
    rw [if_neg (by simp [siz, sizs])] at this
    exact ⟨_, _, rfl, this⟩
end G
/-! K3I: the odd texts by the law's def; the law -/
namespace G
open PySem PySem.Spec PyProof.Rows L2 DE PySem.StrLaws
theorem addN_ref {s : Store} {q : Nat} {xs ys : List D} (h : s[q]? = some (.lst xs)) (hl : xs.length + ys.length ≤ 1000) : addN (.ref q) (.lst ys) s = .ok (.ref s.length) (s ++ [.lst (xs ++ ys)]) := by
  have e1 : rdL s (.ref q) = some xs := by simp [rdL, h]
  have e2 : rdL s (.lst ys) = some ys := rfl
  unfold addN
  rw [e1, e2]
  simp only
  rw [if_pos (Nat.le_trans hl (by decide))]
theorem ixref {s : Store} {q : Nat} {xs : List D} {i : Int} (h : s[q]? = some (.lst xs)) (h0 : 0 ≤ i) (hi : i < xs.length) : ∃ x ∈ xs, ixD (.ref q) (.int i) s = .ok x s := by
  obtain ⟨x, hx, e⟩ := atI_int xs i h0 hi
  refine ⟨x, hx, ?_⟩
  simp [ixD, rdS, h, e]
theorem mul_tup (x : D) (s : Store) : mulD (.tup [x]) (.int 59) s = .ok (.tup (List.replicate 59 x)) s := by
  show (@ite (R D) (([x] : List D).length ≤ 1000 ∧ (2 : Int) ≤ 59 ∧ (59 : Int) ≤ 1000 ∧ [x] ≠ []) (Classical.propDecidable _) (.ok (.tup (repL 59 [x])) s) .bad) = _
  rw [if_pos ⟨by simp, by omega, by omega, by simp⟩]
  have : repL 59 [x] = List.replicate 59 x := by
    have : ∀ n : Nat, (List.replicate n [x]).flatten = List.replicate n x := fun n => by
      induction n with
      | zero => rfl
      | succ n ih => rw [List.replicate_succ, List.flatten_cons, ih]; rfl
    exact this 59
  rw [this]
theorem ev_odd {l : Str} (hL : LetF l) (k : Nat) (c : Int) (s : Store) : ∃ a b s', fns (k + 1) i__law_odd [.str l, .int c] s = .ok (.tup [a, b]) s' ∧ Odd l a b := by
  have hL1 := hL.len
  have eL : lenD [.str l] s = .ok (.int l.length) s := lenD_str (by omega)
  obtain ⟨g, hg, eg⟩ := let_ix hL (i := c / 11 % (l.length : Int)) s (Int.emod_nonneg _ (by omega)) (Int.emod_lt_of_pos _ (by omega))
  have em : modD (.int (c / 11)) (.int l.length) s = .ok (.int (c / 11 % l.length)) s := modD_int (by omega)
  have eg : ixD (.str l) (.int (c / 11 % (l.length : Int))) s = .ok (dS [g]) s := eg
  rw [e__law_odd]
  have p1 : sSet 2 (DE.e2 ixD (eVar 0) (DE.e2 modD (DE.e2 fdivD (eVar 1) (eC (.int 11))) (eCall lenD (aCons (eVar 0) aNil)))) (env0 5 [.str l, .int c]) s = .next [some (.str l), some (.int c), some (dS [g]), none, none] s := by
    generalize l.length = ll at *
    generalize dS [g] = U at *
    simp [bodyF, env0, sSeq, sSet, sIf, sRet, sRetN, sExpr, sPass, sRaise, sBad, eVar, eC, eTup, eLst, aCons, aNil, eCall, ar, DE.e2, eAnd, eOr, eNot, eIf, eNeg, tVal, tAndM, tOrM, tNotM, tYesM, eChain, isiD, tyOf, isTy, eM1, oNone, oSome, eCut, R.bind_ok, R.bind_exc, R.bindS_ok, R.bindS_exc, RS.bind_next, RS.bind_ret, RS.bind_exc, LINE, ofS_inj, ofS_ok, eqD_int, eqD_ss, inD3_ss, inD2_ss, fdivD_int, eL, em, eg, env0]
  have M : ∀ (n : Nat) (x : Nat) (s : Store), n ≤ 1000 → mulD (dS [x]) (.int (n : Nat)) s = .ok (dS (List.replicate n x)) s := fun n x s h => by
    have := mul_S (k := (n : Int)) (c := x) (s := s) ⟨by omega, by omega⟩
    rw [Int.toNat_natCast] at this
    exact this
  have k3 := kind3
  have k4 := kind4
  -- the first four
  let L1 : List D := [.tup [dS (List.replicate 401 g), kindD 3], .tup [dS (List.replicate 401 40), kindD 3], .tup [dS (List.replicate 60 g), kindD 3], .tup [dS (List.replicate 60 33 ++ [g]), kindD 3]]
  let L2' : List D := [.tup [dS ([g] ++ List.replicate 60 42), kindD 3], .tup [dS (List.replicate 150 40 ++ List.replicate 150 41), toD .emp], .tup [.non, kindD 4]]
  let L3 : List D := [.tup [.int 7, kindD 4], .tup [.lst [dS [g]], kindD 4], .tup [dS (List.replicate 59 g), toD (.nary .row (List.replicate 59 (.sg g)))]]
  let L4 : D := .tup [dS (List.replicate 199 40 ++ [g] ++ List.replicate 199 41 ++ [g]), toD (.nary .row [.sg g, .sg g])]
  have p2 : sSet 3 (eNew (aCons (eTup (aCons (DE.e2 mulD (eVar 2) (eC (.int 401))) (aCons (eLst (aCons (eC (.str "great")) aNil)) aNil))) (aCons (eTup (aCons (DE.e2 mulD (eC (.str "(")) (eC (.int 401))) (aCons (eLst (aCons (eC (.str "great")) aNil)) aNil))) (aCons (eTup (aCons (DE.e2 mulD (eVar 2) (eC (.int 60))) (aCons (eLst (aCons (eC (.str "great")) aNil)) aNil))) (aCons (eTup (aCons (DE.e2 addD (DE.e2 mulD (eC (.str "!")) (eC (.int 60))) (eVar 2)) (aCons (eLst (aCons (eC (.str "great")) aNil)) aNil))) aNil)))))
      [some (.str l), some (.int c), some (dS [g]), none, none] s = .next [some (.str l), some (.int c), some (dS [g]), some (.ref s.length), none] (s ++ [.lst L1]) := by
    have m1 : mulD (dS [g]) (.int 401) s = .ok (dS (List.replicate 401 g)) s := M 401 g s (by decide)
    have m2 : mulD (.str (Str.ofString "(")) (.int 401) s = .ok (dS (List.replicate 401 40)) s := by rw [dlp]; exact M 401 40 s (by decide)
    have m3 : mulD (dS [g]) (.int 60) s = .ok (dS (List.replicate 60 g)) s := M 60 g s (by decide)
    have m4 : mulD (.str (Str.ofString "!")) (.int 60) s = .ok (dS (List.replicate 60 33)) s := by rw [dba]; exact M 60 33 s (by decide)
    have a1 := add_dS (a := List.replicate 60 33) (b := [g]) (s := s) (by simp)
    show _ = RS.next _ (s ++ [.lst [.tup [dS (List.replicate 401 g), kindD 3], .tup [dS (List.replicate 401 40), kindD 3], .tup [dS (List.replicate 60 g), kindD 3], .tup [dS (List.replicate 60 33 ++ [g]), kindD 3]]])
    rw [k3]
    clear eg L1 L2' L3 L4 M p1
    generalize dS (List.replicate 60 33 ++ [g]) = X1 at *
    generalize dS (List.replicate 60 33) = X2 at *
    generalize dS (List.replicate 60 g) = X3 at *
    generalize dS (List.replicate 401 g) = X4 at *
    generalize dS (List.replicate 401 40) = X5 at *
    generalize dS [g] = U at *
    simp [bodyF, env0, sSeq, sSet, sIf, sRet, sRetN, sExpr, sPass, sRaise, sBad, eVar, eC, eTup, eLst, aCons, aNil, eCall, ar, DE.e2, eAnd, eOr, eNot, eIf, eNeg, tVal, tAndM, tOrM, tNotM, tYesM, eChain, isiD, tyOf, isTy, eM1, oNone, oSome, eCut, R.bind_ok, R.bind_exc, R.bindS_ok, R.bindS_exc, RS.bind_next, RS.bind_ret, RS.bind_exc, LINE, ofS_inj, ofS_ok, eqD_int, eqD_ss, inD3_ss, inD2_ss, eNew, m1, m2, m3, m4, a1]
  have g1 : (s ++ [Cell.lst L1])[s.length]? = some (.lst L1) := get_app_eq
  have p3 : sSet 3 (DE.e2 addN (eVar 3) (eLst (aCons (eTup (aCons (DE.e2 addD (eVar 2) (DE.e2 mulD (eC (.str "*")) (eC (.int 60)))) (aCons (eLst (aCons (eC (.str "great")) aNil)) aNil))) (aCons (eTup (aCons (DE.e2 addD (DE.e2 mulD (eC (.str "(")) (eC (.int 150))) (DE.e2 mulD (eC (.str ")")) (eC (.int 150)))) (aCons (eTup (aCons (eC (.str "empty")) aNil)) aNil))) (aCons (eTup (aCons (eC .non) (aCons (eLst (aCons (eC (.str "text")) aNil)) aNil))) aNil)))))
      [some (.str l), some (.int c), some (dS [g]), some (.ref s.length), none] (s ++ [.lst L1]) = .next [some (.str l), some (.int c), some (dS [g]), some (.ref (s.length + 1)), none] (s ++ [.lst L1] ++ [.lst (L1 ++ L2')]) := by
    have an := addN_ref (ys := L2') g1 (by simp [L1, L2'])
    have hlen : (s ++ [Cell.lst L1]).length = s.length + 1 := by simp
    rw [hlen] at an
    generalize s ++ [Cell.lst L1] = s1 at *
    have m1 : mulD (.str (Str.ofString "*")) (.int 60) s1 = .ok (dS (List.replicate 60 42)) s1 := by rw [dst]; exact M 60 42 s1 (by decide)
    have m2 : mulD (.str (Str.ofString "(")) (.int 150) s1 = .ok (dS (List.replicate 150 40)) s1 := by rw [dlp]; exact M 150 40 s1 (by decide)
    have m3 : mulD (.str (Str.ofString ")")) (.int 150) s1 = .ok (dS (List.replicate 150 41)) s1 := by rw [drp]; exact M 150 41 s1 (by decide)
    have a1 := add_dS (a := [g]) (b := List.replicate 60 42) (s := s1) (by simp)
    have a2 := add_dS (a := List.replicate 150 40) (b := List.replicate 150 41) (s := s1) (by simp)
    have an : addN (.ref s.length) (.lst [.tup [dS ([g] ++ List.replicate 60 42), .lst [.str (Str.ofString "great")]], .tup [dS (List.replicate 150 40 ++ List.replicate 150 41), .tup [.str (Str.ofString "empty")]], .tup [.non, .lst [.str (Str.ofString "text")]]]) s1 = .ok (.ref (s.length + 1)) (s1 ++ [.lst (L1 ++ L2')]) := by
      rw [← an, ← k3, ← k4]
      simp only [L2', toD]
      try rfl
    clear eg M p1 p2
    generalize L1 ++ L2' = LL at *
    generalize dS ([g] ++ List.replicate 60 42) = X1 at *
    generalize dS (List.replicate 60 42) = X2 at *
    generalize dS (List.replicate 150 40 ++ List.replicate 150 41) = X3 at *
    generalize dS (List.replicate 150 40) = X4 at *
    generalize dS (List.replicate 150 41) = X5 at *
    generalize dS [g] = U at *
    simp [bodyF, env0, sSeq, sSet, sIf, sRet, sRetN, sExpr, sPass, sRaise, sBad, eVar, eC, eTup, eLst, aCons, aNil, eCall, ar, DE.e2, eAnd, eOr, eNot, eIf, eNeg, tVal, tAndM, tOrM, tNotM, tYesM, eChain, isiD, tyOf, isTy, eM1, oNone, oSome, eCut, R.bind_ok, R.bind_exc, R.bindS_ok, R.bindS_exc, RS.bind_next, RS.bind_ret, RS.bind_exc, LINE, ofS_inj, ofS_ok, eqD_int, eqD_ss, inD3_ss, inD2_ss, m1, m2, m3, a1, a2, an]
  have g2 : (s ++ [Cell.lst L1] ++ [Cell.lst (L1 ++ L2')])[s.length + 1]? = some (.lst (L1 ++ L2')) := by
    have := get_app_eq (s := s ++ [Cell.lst L1]) (c := Cell.lst (L1 ++ L2'))
    simpa using this
  have p4 : sSet 3 (DE.e2 addN (eVar 3) (eLst (aCons (eTup (aCons (eC (.int 7)) (aCons (eLst (aCons (eC (.str "text")) aNil)) aNil))) (aCons (eTup (aCons (eLst (aCons (eVar 2) aNil)) (aCons (eLst (aCons (eC (.str "text")) aNil)) aNil))) (aCons (eTup (aCons (DE.e2 mulD (eVar 2) (eC (.int 59))) (aCons (eTup (aCons (eC (.str "row")) (aCons (DE.e2 mulD (eTup (aCons (eTup (aCons (eC (.str "sign")) (aCons (eVar 2) aNil))) aNil)) (eC (.int 59))) aNil))) aNil))) aNil)))))
      [some (.str l), some (.int c), some (dS [g]), some (.ref (s.length + 1)), none] (s ++ [.lst L1] ++ [.lst (L1 ++ L2')]) = .next [some (.str l), some (.int c), some (dS [g]), some (.ref (s.length + 2)), none] (s ++ [.lst L1] ++ [.lst (L1 ++ L2')] ++ [.lst (L1 ++ L2' ++ L3)]) := by
    have an := addN_ref (ys := L3) g2 (by simp [L1, L2', L3])
    have hlen : (s ++ [Cell.lst L1] ++ [Cell.lst (L1 ++ L2')]).length = s.length + 2 := by simp
    rw [hlen] at an
    generalize s ++ [Cell.lst L1] ++ [Cell.lst (L1 ++ L2')] = s1 at *
    have m1 : mulD (dS [g]) (.int 59) s1 = .ok (dS (List.replicate 59 g)) s1 := M 59 g s1 (by decide)
    have m2 := mul_tup (.tup [.str (Str.ofString "sign"), dS [g]]) s1
    have an : addN (.ref (s.length + 1)) (.lst [.tup [.int 7, .lst [.str (Str.ofString "text")]], .tup [.lst [dS [g]], .lst [.str (Str.ofString "text")]], .tup [dS (List.replicate 59 g), .tup [.str (Str.ofString "row"), .tup (List.replicate 59 (.tup [.str (Str.ofString "sign"), dS [g]]))]]]) s1 = .ok (.ref (s.length + 2)) (s1 ++ [.lst (L1 ++ L2' ++ L3)]) := by
      rw [← an, ← k4]
      have e : toD (.nary .row (List.replicate 59 (.sg g))) = .tup [.str (Str.ofString "row"), .tup (List.replicate 59 (.tup [.str (Str.ofString "sign"), dS [g]]))] := by
        rw [toD, toDs_map, List.map_replicate]
        simp only [W3.s, toD]
        rfl
      simp only [L3, e]
    clear eg M p1 p2 p3
    generalize L1 ++ L2' ++ L3 = LL at *
    generalize List.replicate 59 (D.tup [.str (Str.ofString "sign"), dS [g]]) = RT at *
    generalize dS (List.replicate 59 g) = X1 at *
    generalize dS [g] = U at *
    simp [bodyF, env0, sSeq, sSet, sIf, sRet, sRetN, sExpr, sPass, sRaise, sBad, eVar, eC, eTup, eLst, aCons, aNil, eCall, ar, DE.e2, eAnd, eOr, eNot, eIf, eNeg, tVal, tAndM, tOrM, tNotM, tYesM, eChain, isiD, tyOf, isTy, eM1, oNone, oSome, eCut, R.bind_ok, R.bind_exc, R.bindS_ok, R.bindS_exc, RS.bind_next, RS.bind_ret, RS.bind_exc, LINE, ofS_inj, ofS_ok, eqD_int, eqD_ss, inD3_ss, inD2_ss, m1, m2, an]
  have g3 : (s ++ [Cell.lst L1] ++ [Cell.lst (L1 ++ L2')] ++ [Cell.lst (L1 ++ L2' ++ L3)])[s.length + 2]? = some (.lst (L1 ++ L2' ++ L3)) := by
    have := get_app_eq (s := s ++ [Cell.lst L1] ++ [Cell.lst (L1 ++ L2')]) (c := Cell.lst (L1 ++ L2' ++ L3))
    simpa using this
  generalize hs3 : s ++ [Cell.lst L1] ++ [Cell.lst (L1 ++ L2')] ++ [Cell.lst (L1 ++ L2' ++ L3)] = s3 at *
  have p5 : sSet 4 (eTup (aCons (eC (.str "sign")) (aCons (eVar 2) aNil))) [some (.str l), some (.int c), some (dS [g]), some (.ref (s.length + 2)), none] s3 = .next [some (.str l), some (.int c), some (dS [g]), some (.ref (s.length + 2)), some (.tup [.str (Str.ofString "sign"), dS [g]])] s3 := by
    generalize dS [g] = U at *
    simp [bodyF, env0, sSeq, sSet, sIf, sRet, sRetN, sExpr, sPass, sRaise, sBad, eVar, eC, eTup, eLst, aCons, aNil, eCall, ar, DE.e2, eAnd, eOr, eNot, eIf, eNeg, tVal, tAndM, tOrM, tNotM, tYesM, eChain, isiD, tyOf, isTy, eM1, oNone, oSome, eCut, R.bind_ok, R.bind_exc, R.bindS_ok, R.bindS_exc, RS.bind_next, RS.bind_ret, RS.bind_exc, LINE, ofS_inj, ofS_ok, eqD_int, eqD_ss, inD3_ss, inD2_ss]
  have p6 : sExpr (eLM apD (eVar 3) (eTup (aCons (DE.e2 addD (DE.e2 addD (DE.e2 addD (DE.e2 mulD (eC (.str "(")) (eC (.int 199))) (eVar 2)) (DE.e2 mulD (eC (.str ")")) (eC (.int 199)))) (eVar 2)) (aCons (eTup (aCons (eC (.str "row")) (aCons (eTup (aCons (eVar 4) (aCons (eVar 4) aNil))) aNil))) aNil))))
      [some (.str l), some (.int c), some (dS [g]), some (.ref (s.length + 2)), some (.tup [.str (Str.ofString "sign"), dS [g]])] s3 = .next [some (.str l), some (.int c), some (dS [g]), some (.ref (s.length + 2)), some (.tup [.str (Str.ofString "sign"), dS [g]])] (s3.set (s.length + 2) (.lst (L1 ++ L2' ++ L3 ++ [L4]))) := by
    have m1 : mulD (.str (Str.ofString "(")) (.int 199) s3 = .ok (dS (List.replicate 199 40)) s3 := by rw [dlp]; exact M 199 40 s3 (by decide)
    have m2 : mulD (.str (Str.ofString ")")) (.int 199) s3 = .ok (dS (List.replicate 199 41)) s3 := by rw [drp]; exact M 199 41 s3 (by decide)
    have a1 := add_dS (a := List.replicate 199 40) (b := [g]) (s := s3) (by simp)
    have a2 := add_dS (a := List.replicate 199 40 ++ [g]) (b := List.replicate 199 41) (s := s3) (by simp)
    have a3 := add_dS (a := List.replicate 199 40 ++ [g] ++ List.replicate 199 41) (b := [g]) (s := s3) (by simp)
    have il : isLst s3 (.ref (s.length + 2)) = true := by simp [isLst, g3]
    have ap : apD (.ref (s.length + 2)) (.tup [dS (List.replicate 199 40 ++ [g] ++ List.replicate 199 41 ++ [g]), .tup [.str (Str.ofString "row"), .tup [.tup [.str (Str.ofString "sign"), dS [g]], .tup [.str (Str.ofString "sign"), dS [g]]]]]) s3 = .ok .non (s3.set (s.length + 2) (.lst (L1 ++ L2' ++ L3 ++ [L4]))) := by
      have e4 : L4 = .tup [dS (List.replicate 199 40 ++ [g] ++ List.replicate 199 41 ++ [g]), .tup [.str (Str.ofString "row"), .tup [.tup [.str (Str.ofString "sign"), dS [g]], .tup [.str (Str.ofString "sign"), dS [g]]]]] := by
        simp only [L4, toD, toDs, W3.s]
        rfl
      simp only [apD, g3]
      have hl4 : (L1 ++ L2' ++ L3).length = 10 := by simp [L1, L2', L3]
      rw [if_pos (by rw [hl4]; decide), e4]
    clear eg M p1 p2 p3 p4
    generalize L1 ++ L2' ++ L3 ++ [L4] = LL at *
    generalize dS (List.replicate 199 40 ++ [g] ++ List.replicate 199 41 ++ [g]) = X1 at *
    generalize dS (List.replicate 199 40 ++ [g] ++ List.replicate 199 41) = X2 at *
    generalize dS (List.replicate 199 40 ++ [g]) = X3 at *
    generalize dS (List.replicate 199 40) = X4 at *
    generalize dS (List.replicate 199 41) = X5 at *
    generalize dS [g] = U at *
    simp [bodyF, env0, sSeq, sSet, sIf, sRet, sRetN, sExpr, sPass, sRaise, sBad, eVar, eC, eTup, eLst, aCons, aNil, eCall, ar, DE.e2, eAnd, eOr, eNot, eIf, eNeg, tVal, tAndM, tOrM, tNotM, tYesM, eChain, isiD, tyOf, isTy, eM1, oNone, oSome, eCut, R.bind_ok, R.bind_exc, R.bindS_ok, R.bindS_exc, RS.bind_next, RS.bind_ret, RS.bind_exc, LINE, ofS_inj, ofS_ok, eqD_int, eqD_ss, inD3_ss, inD2_ss, eLM, il, m1, m2, a1, a2, a3, ap]
  have g4 : (s3.set (s.length + 2) (.lst (L1 ++ L2' ++ L3 ++ [L4])))[s.length + 2]? = some (.lst (L1 ++ L2' ++ L3 ++ [L4])) := get_set_eq (lt_of_get g3)
  obtain ⟨x, hx, ex⟩ := ixref (i := c % 11) g4 (Int.emod_nonneg _ (by decide)) (by simp [L1, L2', L3]; exact Int.emod_lt_of_pos _ (by decide))
  obtain ⟨a, b, rfl, ho⟩ := odds_ok hL hg x hx
  refine ⟨a, b, s3.set (s.length + 2) (.lst (L1 ++ L2' ++ L3 ++ [L4])), body_ret ((seq_to p1).trans ((seq_to p2).trans ((seq_to p3).trans ((seq_to p4).trans ((seq_to p5).trans ((seq_to p6).trans ?_)))))), ho⟩
  have m11 : ∀ s, modD (.int c) (.int 11) s = .ok (.int (c % 11)) s := fun s => modD_int (by decide)
  clear p1 p2 p3 p4 p5 p6 g1 g2 g3 g4 hs3 M
  generalize (s3.set (s.length + 2) (Cell.lst (L1 ++ L2' ++ L3 ++ [L4]))) = s4 at *
  simp [bodyF, env0, sSeq, sSet, sIf, sRet, sRetN, sExpr, sPass, sRaise, sBad, eVar, eC, eTup, eLst, aCons, aNil, eCall, ar, DE.e2, eAnd, eOr, eNot, eIf, eNeg, tVal, tAndM, tOrM, tNotM, tYesM, eChain, isiD, tyOf, isTy, eM1, oNone, oSome, eCut, R.bind_ok, R.bind_exc, R.bindS_ok, R.bindS_exc, RS.bind_next, RS.bind_ret, RS.bind_exc, LINE, ofS_inj, ofS_ok, eqD_int, eqD_ss, inD3_ss, inD2_ss, m11, ex]
end G
/-! K3J: k03's law -/
namespace G
open PySem PySem.Spec PyProof.Rows L2 DE PySem.StrLaws
theorem join_dS {ts : List (List Nat)} {n w : Nat} (h : Txs' ts n w) (hn : n ≤ 1000) (s : Store) : joinD (Str.ofString "") (.lst (ts.map dS)) s = .ok (dS ts.flatten) s := by
  rw [lit_nil]
  have := join_S (sep := []) (ts := ts) (s := s) (by have := h.len; simp; omega)
  rw [flat_join] at this
  exact this
theorem Txs'.cut {ts : List (List Nat)} {n w : Nat} (h : Txs' ts n w) (i : Nat) {u : List Nat} (hu : Tx' u 1 0) : Txs' (ts.take i) n w ∧ Txs' (ts.drop i) n w ∧ Tx' ((ts.take i).flatten ++ u ++ (ts.drop i).flatten) (n + 1) w := by
  have e1 : (ts.map (·.length)).sum = ((ts.take i).map (·.length)).sum + ((ts.drop i).map (·.length)).sum := by
    rw [← List.sum_append, ← List.map_append, List.take_append_drop]
  have e2 : (ts.map G.wt).sum = ((ts.take i).map G.wt).sum + ((ts.drop i).map G.wt).sum := by
    rw [← List.sum_append, ← List.map_append, List.take_append_drop]
  have h1 := h.len
  have h2 := h.wt
  have a1 : Txs' (ts.take i) _ _ := ⟨Nat.le_refl _, Nat.le_refl _, fun t ht => h.sg t (List.mem_of_mem_take ht)⟩
  have a2 : Txs' (ts.drop i) _ _ := ⟨Nat.le_refl _, Nat.le_refl _, fun t ht => h.sg t (List.mem_of_mem_drop ht)⟩
  have b := (a1.flat.app hu).app a2.flat
  refine ⟨a1.mono (by omega) (by omega), a2.mono (by omega) (by omega), ?_⟩
  have b1 := b.len
  have b2 := b.wt
  exact ⟨by omega, by omega, b.sg⟩
theorem law_true (k : Nat) (hk : 100 ≤ k) (ns : List Int) (s : Store) : ∃ s', fns (k + 1) i_law [.scr ns] s = .ok (.bl true) s' := by
  rw [e_law]
  have cell : ∀ (i : Nat) (s : Store), fns k i__law_cell_at [.scr ns, .int (i : Nat)] s = .ok (.int (cellAt ns i)) s := fun i s => by
    obtain ⟨j, rfl⟩ : ∃ j, k = j + 1 := ⟨k - 1, by omega⟩
    exact ev_cell j ns i s
  have c0 : fns k i__law_cell_at [.scr ns, .int 0] s = .ok (.int (cellAt ns 0)) s := cell 0 s
  have c1 : fns k i__law_cell_at [.scr ns, .int 1] s = .ok (.int (cellAt ns 1)) s := cell 1 s
  have c2 : ∀ s, fns k i__law_cell_at [.scr ns, .int 2] s = .ok (.int (cellAt ns 2)) s := fun s => cell 2 s
  have eL : fns k i__law_letters [.int (cellAt ns 0)] s = .ok (.str (lets (cellAt ns 0))) s := by
    obtain ⟨j, rfl⟩ : ∃ j, k = j + 1 := ⟨k - 1, by omega⟩
    exact ev_letters j (cellAt ns 0) s
  have hL := lets_F (cellAt ns 0)
  have hX := lets_strange (cellAt ns 0)
  generalize cellAt ns 0 = x0 at *
  generalize lets x0 = l at *
  generalize cellAt ns 1 = cc at *
  generalize cellAt ns 2 = c2' at *
  clear cell
  have p1 : sSet 1 (eCall (ar 1 (fns k i__law_letters)) (aCons (eCall (ar 2 (fns k i__law_cell_at)) (aCons (eVar 0) (aCons (eC (.int 0)) aNil))) aNil)) (env0 7 [.scr ns]) s = .next [some (.scr ns), some (.str l), none, none, none, none, none] s := by
    generalize fns k = call at *
    simp [bodyF, env0, sSeq, sSet, sIf, sRet, sRetN, sExpr, sPass, sRaise, sBad, eVar, eC, eTup, eLst, aCons, aNil, eCall, ar, DE.e2, eAnd, eOr, eNot, eIf, eNeg, tVal, tAndM, tOrM, tNotM, tYesM, eChain, isiD, tyOf, isTy, eM1, oNone, oSome, eCut, R.bind_ok, R.bind_exc, R.bindS_ok, R.bindS_exc, RS.bind_next, RS.bind_ret, RS.bind_exc, LINE, ofS_inj, ofS_ok, eqD_int, eqD_ss, inD3_ss, inD2_ss, c0, eL]
  have p2 : sSet 2 (eCall (ar 2 (fns k i__law_cell_at)) (aCons (eVar 0) (aCons (eC (.int 1)) aNil))) [some (.scr ns), some (.str l), none, none, none, none, none] s = .next [some (.scr ns), some (.str l), some (.int cc), none, none, none, none] s := by
    generalize fns k = call at *
    simp [bodyF, env0, sSeq, sSet, sIf, sRet, sRetN, sExpr, sPass, sRaise, sBad, eVar, eC, eTup, eLst, aCons, aNil, eCall, ar, DE.e2, eAnd, eOr, eNot, eIf, eNeg, tVal, tAndM, tOrM, tNotM, tYesM, eChain, isiD, tyOf, isTy, eM1, oNone, oSome, eCut, R.bind_ok, R.bind_exc, R.bindS_ok, R.bindS_exc, RS.bind_next, RS.bind_ret, RS.bind_exc, LINE, ofS_inj, ofS_ok, eqD_int, eqD_ss, inD3_ss, inD2_ss, c1]
  have m9 : modD (.int cc) (.int 9) s = .ok (.int (cc % 9)) s := modD_int (by decide)
  have none1 : pl (.str (Str.ofString "")) = true ∧ letOk (.str (Str.ofString "")) = false := by constructor <;> decide +kernel
  have none2 : pl (.str (Str.ofString "Ab")) = true ∧ letOk (.str (Str.ofString "Ab")) = false := by constructor <;> decide +kernel
  have tn1 : ∀ (b : D) (s : Store), fns k i__law_told [.str (Str.ofString ""), b] s = .ok (.lst [.str (Str.ofString "letters")]) s := fun b s => told_letters k (by omega) _ b s none1.1 none1.2
  have tn2 : ∀ (b : D) (s : Store), fns k i__law_told [.str (Str.ofString "Ab"), b] s = .ok (.lst [.str (Str.ofString "letters")]) s := fun b s => told_letters k (by omega) _ b s none2.1 none2.2
  have es : ∀ s, eqD false (.lst [.str (Str.ofString "letters")]) (.lst [.str (Str.ofString "letters")]) s = .ok (.bl true) s := fun s => self_kind 1 s false
  by_cases h9 : cc % 9 = 4
  · obtain ⟨a, b, s1, e1, ho⟩ : ∃ a b s1, fns k i__law_odd [.str l, .int (cc / 9)] s = .ok (.tup [a, b]) s1 ∧ Odd l a b := by
      obtain ⟨j, rfl⟩ : ∃ j, k = j + 1 := ⟨k - 1, by omega⟩
      exact ev_odd hL j (cc / 9) s
    obtain ⟨s2, e2⟩ := ho.told k s1 (by omega)
    have e3 := ho.self s2 false
    refine ⟨s2, body_ret ((seq_to p1).trans ((seq_to p2).trans (seq_stop ?_)))⟩
    generalize fns k = call at *
    simp [bodyF, env0, sSeq, sSet, sIf, sRet, sRetN, sExpr, sPass, sRaise, sBad, eVar, eC, eTup, eLst, aCons, aNil, eCall, ar, DE.e2, eAnd, eOr, eNot, eIf, eNeg, tVal, tAndM, tOrM, tNotM, tYesM, eChain, isiD, tyOf, isTy, eM1, oNone, oSome, eCut, R.bind_ok, R.bind_exc, R.bindS_ok, R.bindS_exc, RS.bind_next, RS.bind_ret, RS.bind_exc, LINE, ofS_inj, ofS_ok, eqD_int, eqD_ss, inD3_ss, inD2_ss, m9, h9, sAsg, gTupD, gMore, gVar, gNone, fdivD_int, e1, e2, e3, tn1, es]
  · have p3 : ∀ A : DE.SM, sIf (tVal (DE.e2 (eqD false) (DE.e2 modD (eVar 2) (eC (.int 9))) (eC (.int 4)))) A sPass [some (.scr ns), some (.str l), some (.int cc), none, none, none, none] s = .next [some (.scr ns), some (.str l), some (.int cc), none, none, none, none] s := fun A => by
      simp [bodyF, env0, sSeq, sSet, sIf, sRet, sRetN, sExpr, sPass, sRaise, sBad, eVar, eC, eTup, eLst, aCons, aNil, eCall, ar, DE.e2, eAnd, eOr, eNot, eIf, eNeg, tVal, tAndM, tOrM, tNotM, tYesM, eChain, isiD, tyOf, isTy, eM1, oNone, oSome, eCut, R.bind_ok, R.bind_exc, R.bindS_ok, R.bindS_exc, RS.bind_next, RS.bind_ret, RS.bind_exc, LINE, ofS_inj, ofS_ok, eqD_int, eqD_ss, inD3_ss, inD2_ss, m9, h9]
    have cut : DE.cutD (.scr ns) (some 3) (some 17) s = .ok (.lst ((cutL ns (some 3) (some 17)).map D.int)) s := by
      show R.ok (D.lst (cutL (ns.map D.int) (some 3) (some 17))) s = _
      unfold cutL
      rw [List.length_map, ← List.map_drop, ← List.map_take]
    have hcl : (cutL ns (some 3) (some 17)).length ≤ 14 := by
      unfold cutL
      rw [List.length_take]
      have e1 : HT.sIx ns.length 0 (some 3) = min 3 ns.length := rfl
      have e2 : HT.sIx ns.length ns.length (some 17) = min 17 ns.length := rfl
      rw [e1, e2]
      omega
    generalize cutL ns (some 3) (some 17) = cs at *
    have p4 : sSet 3 (eLst aNil) [some (.scr ns), some (.str l), some (.int cc), none, none, none, none] s = .next [some (.scr ns), some (.str l), some (.int cc), some (.lst (([] : List (List Nat)).map dS)), none, none, none] s := by
      simp [bodyF, env0, sSeq, sSet, sIf, sRet, sRetN, sExpr, sPass, sRaise, sBad, eVar, eC, eTup, eLst, aCons, aNil, eCall, ar, DE.e2, eAnd, eOr, eNot, eIf, eNeg, tVal, tAndM, tOrM, tNotM, tYesM, eChain, isiD, tyOf, isTy, eM1, oNone, oSome, eCut, R.bind_ok, R.bind_exc, R.bindS_ok, R.bindS_exc, RS.bind_next, RS.bind_ret, RS.bind_exc, LINE, ofS_inj, ofS_ok, eqD_int, eqD_ss, inD3_ss, inD2_ss]
    obtain ⟨env2, ef, ts, x, rfl, htx, hlt⟩ := for_ind (g := gVar 4) (body := sSet 3 (eCall (ar 3 (fns k i__law_grown)) (aCons (eVar 1) (aCons (eVar 3) (aCons (eVar 4) aNil))))) (a := (cs.map D.int, none)) (s := s) (by simp)
      (fun j env => ∃ ts x, env = [some (.scr ns), some (.str l), some (.int cc), some (.lst (ts.map dS)), x, none, none] ∧ Txs' ts (5 * j) (6 * j) ∧ ts.length ≤ j) (cs.map D.int) 0 [some (.scr ns), some (.str l), some (.int cc), some (.lst (([] : List (List Nat)).map dS)), none, none, none]
      ⟨[], none, rfl, ⟨by simp, by simp, by simp⟩, by simp⟩ (fun j y hy env hI => by
        obtain ⟨ts, x, rfl, h1, h2⟩ := hI
        have hj : j < cs.length := by
          have := (List.getElem?_eq_some_iff.mp hy).1
          simpa using this
        rw [List.getElem?_map] at hy
        cases hc : cs[j]? with
        | none => rw [hc] at hy; cases hy
        | some c =>
          rw [hc] at hy
          simp only [Option.map_some, Option.some.injEq] at hy
          subst hy
          obtain ⟨ts', e1, h3, h4⟩ : ∃ ts', fns k i__law_grown [.str l, .lst (ts.map dS), .int c] s = .ok (.lst (ts'.map dS)) s ∧ Txs' ts' (5 * (0 + j) + 5) (6 * (0 + j) + 6) ∧ ts'.length ≤ ts.length + 1 := by
            obtain ⟨m, rfl⟩ : ∃ m, k = m + 1 := ⟨k - 1, by omega⟩
            exact ev_grown hL m ts _ _ h1 (by omega) (by omega) c s
          refine ⟨_, _, rfl, ?_, ts', some (.int c), rfl, h3.mono (by omega) (by omega), by omega⟩
          generalize fns k = call at *
          generalize ts.map dS = T1 at *
          generalize ts'.map dS = T2 at *
          simp [bodyF, env0, sSeq, sSet, sIf, sRet, sRetN, sExpr, sPass, sRaise, sBad, eVar, eC, eTup, eLst, aCons, aNil, eCall, ar, DE.e2, eAnd, eOr, eNot, eIf, eNeg, tVal, tAndM, tOrM, tNotM, tYesM, eChain, isiD, tyOf, isTy, eM1, oNone, oSome, eCut, R.bind_ok, R.bind_exc, R.bindS_ok, R.bindS_exc, RS.bind_next, RS.bind_ret, RS.bind_exc, LINE, ofS_inj, ofS_ok, eqD_int, eqD_ss, inD3_ss, inD2_ss, e1])
    rw [List.length_map] at htx hlt
    have p5 : sFor (itV' (eCut (eVar 0) (oSome (eC (.int 3))) (oSome (eC (.int 17))))) (gVar 4) (sSet 3 (eCall (ar 3 (fns k i__law_grown)) (aCons (eVar 1) (aCons (eVar 3) (aCons (eVar 4) aNil)))))
        [some (.scr ns), some (.str l), some (.int cc), some (.lst (([] : List (List Nat)).map dS)), none, none, none] s = .next [some (.scr ns), some (.str l), some (.int cc), some (.lst (ts.map dS)), x, none, none] s := by
      unfold sFor
      have : itV' (eCut (eVar 0) (oSome (eC (.int 3))) (oSome (eC (.int 17)))) [some (.scr ns), some (.str l), some (.int cc), some (.lst (([] : List (List Nat)).map dS)), none, none, none] s = .ok (cs.map D.int, none) s := by
        simp [itV', bodyF, env0, sSeq, sSet, sIf, sRet, sRetN, sExpr, sPass, sRaise, sBad, eVar, eC, eTup, eLst, aCons, aNil, eCall, ar, DE.e2, eAnd, eOr, eNot, eIf, eNeg, tVal, tAndM, tOrM, tNotM, tYesM, eChain, isiD, tyOf, isTy, eM1, oNone, oSome, eCut, R.bind_ok, R.bind_exc, R.bindS_ok, R.bindS_exc, RS.bind_next, RS.bind_ret, RS.bind_exc, LINE, ofS_inj, ofS_ok, eqD_int, eqD_ss, inD3_ss, inD2_ss, cut]
      rw [this]
      exact ef
    obtain ⟨u, eu, hu⟩ := sep3 (cc / 9 % 3) s (Int.emod_nonneg _ (by decide)) (Int.emod_lt_of_pos _ (by decide))
    obtain ⟨t1, t2, t3⟩ := htx.cut 4 hu
    have J1 := join_dS t1 (by omega) s
    have J2 := join_dS t2 (by omega) s
    rw [List.map_take] at J1
    rw [List.map_drop] at J2
    have K1 := cutL_to4 (ts.map dS) s
    have K2 := cutL_from4 (ts.map dS) s
    have hlen3 := t3.len
    have A1 := add_dS (a := (ts.take 4).flatten) (b := u) (s := s) (by rw [List.length_append, List.length_append] at hlen3; omega)
    have A2 := add_dS (a := (ts.take 4).flatten ++ u) (b := (ts.drop 4).flatten) (s := s) (by rw [List.length_append] at hlen3; omega)
    have p6 : sSet 5 (DE.e2 addD (DE.e2 addD (eM1 joinD (eC (.str "")) (eCut (eVar 3) oNone (oSome (eC (.int 4))))) (DE.e2 ixD (eLst (aCons (eC (.str "")) (aCons (eC (.str "|")) (aCons (eC (.str "&")) aNil)))) (DE.e2 modD (DE.e2 fdivD (eVar 2) (eC (.int 9))) (eC (.int 3))))) (eM1 joinD (eC (.str "")) (eCut (eVar 3) (oSome (eC (.int 4))) oNone)))
        [some (.scr ns), some (.str l), some (.int cc), some (.lst (ts.map dS)), x, none, none] s = .next [some (.scr ns), some (.str l), some (.int cc), some (.lst (ts.map dS)), x, some (dS ((ts.take 4).flatten ++ u ++ (ts.drop 4).flatten)), none] s := by
      clear ef p5 t1 t2 t3 hlen3
      generalize dS ((ts.take 4).flatten ++ u ++ (ts.drop 4).flatten) = X1 at *
      generalize dS ((ts.take 4).flatten ++ u) = X2 at *
      generalize dS (ts.take 4).flatten = X3 at *
      generalize dS (ts.drop 4).flatten = X4 at *
      generalize dS u = X5 at *
      generalize (ts.map dS).take 4 = X6 at *
      generalize (ts.map dS).drop 4 = X7 at *
      generalize ts.map dS = X8 at *
      simp [bodyF, env0, sSeq, sSet, sIf, sRet, sRetN, sExpr, sPass, sRaise, sBad, eVar, eC, eTup, eLst, aCons, aNil, eCall, ar, DE.e2, eAnd, eOr, eNot, eIf, eNeg, tVal, tAndM, tOrM, tNotM, tYesM, eChain, isiD, tyOf, isTy, eM1, oNone, oSome, eCut, R.bind_ok, R.bind_exc, R.bindS_ok, R.bindS_exc, RS.bind_next, RS.bind_ret, RS.bind_exc, LINE, ofS_inj, ofS_ok, eqD_int, eqD_ss, inD3_ss, inD2_ss, K1, K2, J1, J2, A1, A2, fdivD_int, modD_int, eu]
    clear J1 J2 K1 K2 A1 A2 t1 t2 hlen3
    generalize (ts.take 4).flatten ++ u ++ (ts.drop 4).flatten = t at *
    have dts : ∀ (t : List Nat) (n w : Nat), Tx' t n w → n ≤ 80 → w ≤ 90 → ∀ s, (∃ s', fns k i__law_due [.str l, dS t] s = .ok (DueD l t) s') ∧ Self (DueD l t) := fun t n w h hn hw s => by
      obtain ⟨j, rfl⟩ : ∃ j, k = j + 1 := ⟨k - 1, by omega⟩
      have h1 := h.len
      have h2 := h.wt
      exact ev_due l hL t (h.okT (by omega)) (by omega) j (by omega) (by omega) s
    have tts : ∀ (t : List Nat) (n w : Nat), Tx' t n w → n ≤ 80 → ∀ s, ∃ s', fns k i__law_told [.str l, dS t] s = .ok (DueD l t) s' := fun t n w h hn s => ev_told l hL t (h.okT (by omega)) k (by omega) s
    obtain ⟨s1, q1⟩ := tts t _ _ t3 (by omega) s
    obtain ⟨⟨s2, q2⟩, sf⟩ := dts t _ _ t3 (by omega) (by omega) s1
    have q3 := sf s2 true
    have p7 : sIf (tVal (DE.e2 (eqD true) (eCall (ar 2 (fns k i__law_told)) (aCons (eVar 1) (aCons (eVar 5) aNil))) (eCall (ar 2 (fns k i__law_due)) (aCons (eVar 1) (aCons (eVar 5) aNil))))) (sRet (eC (.bl false))) sPass
        [some (.scr ns), some (.str l), some (.int cc), some (.lst (ts.map dS)), x, some (dS t), none] s = .next [some (.scr ns), some (.str l), some (.int cc), some (.lst (ts.map dS)), x, some (dS t), none] s2 := by
      clear ef p5 dts tts
      generalize fns k = call at *
      generalize ts.map dS = X8 at *
      generalize dS t = T at *
      generalize DueD l t = DD at *
      simp [bodyF, env0, sSeq, sSet, sIf, sRet, sRetN, sExpr, sPass, sRaise, sBad, eVar, eC, eTup, eLst, aCons, aNil, eCall, ar, DE.e2, eAnd, eOr, eNot, eIf, eNeg, tVal, tAndM, tOrM, tNotM, tYesM, eChain, isiD, tyOf, isTy, eM1, oNone, oSome, eCut, R.bind_ok, R.bind_exc, R.bindS_ok, R.bindS_exc, RS.bind_next, RS.bind_ret, RS.bind_exc, LINE, ofS_inj, ofS_ok, eqD_int, eqD_ss, inD3_ss, inD2_ss, q1, q2, q3]
    obtain ⟨t', s3, p8, t4⟩ : ∃ t' s3, sIf (tVal (DE.e2 gtD (DE.e2 modD (eVar 2) (eC (.int 3))) (eC (.int 0))))
          (sSet 5 (eCall (ar 3 (fns k i__law_edited)) (aCons (eVar 1) (aCons (eVar 5) (aCons (eCall (ar 2 (fns k i__law_cell_at)) (aCons (eVar 0) (aCons (eC (.int 2)) aNil))) aNil))))) sPass
        [some (.scr ns), some (.str l), some (.int cc), some (.lst (ts.map dS)), x, some (dS t), none] s2 = .next [some (.scr ns), some (.str l), some (.int cc), some (.lst (ts.map dS)), x, some (dS t'), none] s3 ∧ Tx' t' (5 * (0 + cs.length) + 1 + 1) (6 * (0 + cs.length) + 3) := by
      have m3 : modD (.int cc) (.int 3) s2 = .ok (.int (cc % 3)) s2 := modD_int (by decide)
      by_cases h3 : 0 < cc % 3
      · have hg : gtD (.int (cc % 3)) (.int 0) s2 = .ok (.bl true) s2 := by simp only [gtD, cmpI, decide_eq_true h3]
        obtain ⟨t', e1, h4⟩ : ∃ t', fns k i__law_edited [.str l, dS t, .int c2'] s2 = .ok (dS t') s2 ∧ Tx' t' (5 * (0 + cs.length) + 1 + 1) (6 * (0 + cs.length) + 3) := by
          obtain ⟨m, rfl⟩ : ∃ m, k = m + 1 := ⟨k - 1, by omega⟩
          exact ev_edited hL hX m t _ _ t3 (by omega) c2' s2
        refine ⟨t', s2, ?_, h4⟩
        have c2s := c2 s2
        clear ef p5 dts tts p7 q1 q2 q3 sf c2
        generalize fns k = call at *
        generalize ts.map dS = X8 at *
        generalize dS t = T at *
        generalize dS t' = T' at *
        simp [bodyF, env0, sSeq, sSet, sIf, sRet, sRetN, sExpr, sPass, sRaise, sBad, eVar, eC, eTup, eLst, aCons, aNil, eCall, ar, DE.e2, eAnd, eOr, eNot, eIf, eNeg, tVal, tAndM, tOrM, tNotM, tYesM, eChain, isiD, tyOf, isTy, eM1, oNone, oSome, eCut, R.bind_ok, R.bind_exc, R.bindS_ok, R.bindS_exc, RS.bind_next, RS.bind_ret, RS.bind_exc, LINE, ofS_inj, ofS_ok, eqD_int, eqD_ss, inD3_ss, inD2_ss, m3, hg, c2s, e1]
      · have hg : gtD (.int (cc % 3)) (.int 0) s2 = .ok (.bl false) s2 := by simp only [gtD, cmpI, decide_eq_false h3]
        refine ⟨t, s2, ?_, ⟨by have := t3.len; omega, by have := t3.wt; omega, t3.sg⟩⟩
        clear ef p5 dts tts p7 q1 q2 q3 sf c2
        generalize fns k = call at *
        generalize ts.map dS = X8 at *
        generalize dS t = T at *
        simp [bodyF, env0, sSeq, sSet, sIf, sRet, sRetN, sExpr, sPass, sRaise, sBad, eVar, eC, eTup, eLst, aCons, aNil, eCall, ar, DE.e2, eAnd, eOr, eNot, eIf, eNeg, tVal, tAndM, tOrM, tNotM, tYesM, eChain, isiD, tyOf, isTy, eM1, oNone, oSome, eCut, R.bind_ok, R.bind_exc, R.bindS_ok, R.bindS_exc, RS.bind_next, RS.bind_ret, RS.bind_exc, LINE, ofS_inj, ofS_ok, eqD_int, eqD_ss, inD3_ss, inD2_ss, m3, hg]
    obtain ⟨s4, r1⟩ := tts t' _ _ t4 (by omega) s3
    obtain ⟨⟨s5, r2⟩, sf2⟩ := dts t' _ _ t4 (by omega) (by omega) s4
    have r3 := sf2 s5 false
    have r4 := tn2 (dS t') s5
    have r5 := es s5
    refine ⟨s5, body_ret ((seq_to p1).trans ((seq_to p2).trans ((seq_to (p3 _)).trans ((seq_to p4).trans ((seq_to p5).trans ((seq_to p6).trans ((seq_to p7).trans ((seq_to p8).trans ?_))))))))⟩
    clear p1 p2 p3 p4 p5 p6 p7 p8 ef dts tts tn1 tn2 es c2
    generalize fns k = call at *
    generalize ts.map dS = X8 at *
    generalize dS t' = T' at *
    generalize DueD l t' = DD at *
    simp [bodyF, env0, sSeq, sSet, sIf, sRet, sRetN, sExpr, sPass, sRaise, sBad, eVar, eC, eTup, eLst, aCons, aNil, eCall, ar, DE.e2, eAnd, eOr, eNot, eIf, eNeg, tVal, tAndM, tOrM, tNotM, tYesM, eChain, isiD, tyOf, isTy, eM1, oNone, oSome, eCut, R.bind_ok, R.bind_exc, R.bindS_ok, R.bindS_exc, RS.bind_next, RS.bind_ret, RS.bind_exc, LINE, ofS_inj, ofS_ok, eqD_int, eqD_ss, inD3_ss, inD2_ss, r1, r2, r3, r4, r5]
end G
namespace G
open PySem PySem.Spec PyProof.Rows L2 DE
theorem kit_ref {K : PySem.W.Frag} {a c : Addr} {b : Bool} (h1 : PySem.W.isClsIn K c = true) (h2 : PySem.W.typeIn K (.ref c) = some (.type "type")) (hc : PySem.W.subIn K (.ref c) (.ref c) = some true) (hs : PySem.W.subIn K (.ref a) (.ref c) = some b) : PySem.W.kitOne K (.ref a) (.ref c) = some b := by
  unfold PySem.W.kitOne
  by_cases h : a = c
  · subst h
    rw [if_pos (by simp), ← hc, hs]
  · rw [if_neg (by simpa using h)]
    unfold PySem.W.kitCls
    have e2 : ((PySem.W.clsIn K c).isSome && PySem.W.typeIn K (.ref c) == some (.type "type")) = true := by
      have h1' : (PySem.W.clsIn K c).isSome = true := h1
      rw [h1', h2] <;> rfl
    simp only
    rw [if_pos e2, hs]
theorem kit_ve {K : PySem.W.Frag} {a : Addr} (hs : PySem.W.subIn K (.ref a) (.type "ValueError") = some true) : PySem.W.kitOne K (.ref a) (.type "ValueError") = some true := by
  unfold PySem.W.kitOne
  rw [if_neg (by simp)]
  unfold PySem.W.kitCls
  simp only
  rw [if_pos (by decide +kernel), hs]
theorem exm_ref {K : PySem.W.Frag} {a c : Addr} (h1 : PySem.W.isClsIn K c = true) (h2 : PySem.W.typeIn K (.ref c) = some (.type "type")) (hb : PySem.W.subIn K (.ref c) (.type "BaseException") = some true) (hs : PySem.W.subIn K (.ref a) (.ref c) = some true) : PySem.W.exmOne K (.ref a) (.ref c) = some true := by
  unfold PySem.W.exmOne
  rw [if_pos (by rw [hb] <;> rfl)]
  unfold PySem.W.kitCls
  have e2 : ((PySem.W.clsIn K c).isSome && PySem.W.typeIn K (.ref c) == some (.type "type")) = true := by
    have h1' : (PySem.W.clsIn K c).isSome = true := h1
    rw [h1', h2] <;> rfl
  simp only
  rw [if_pos e2, hs]
theorem glob_tup {K : PySem.W.Frag} {mg : Str → Option Value} {x y : Str} {a : Addr} {od : Option Addr} {n : Nat} {sl : Array (Option Value)} {t : Tok} (h1 : mg x = some (.ref a)) (h2 : K.lookup a = some ⟨.type "tuple", od, .seq #[.str y t] n, sl⟩) : GlobD K mg x (.tup [.str y]) :=
  ⟨.ref a, .ref a, h1, rfl, fun L H => by
    simp only [RD]
    exact ⟨a, [.str y], rfl, .inr ⟨_, _, _, h2, rfl, rfl, by show 1 ≤ sizeLine; decide, .cons ⟨t, rfl⟩ .nil⟩, .cons (by simp only [RD]) .nil⟩⟩
def spLaw (K : PySem.W.Frag) : Sp := fun vs H Q _ => ∃ (a : Addr) (ns : List Int), vs = [.ref a] ∧ ns.length ≤ 63 ∧ Only H ∧ SqL K H a (ns.map V.int) ∧ ∀ H', Q (.bl true) H'
theorem sp_law {K : PySem.W.Frag} {ca : Nat → Addr} (fn : Fn) (h : ∀ ns : List Int, ns.length ≤ 63 → ∃ s', fn [.scr ns] [] = .ok (.bl true) s') : ∀ vs H Q E, spLaw K vs H Q E → spOf K ca 1 fn vs H Q E := by
  rintro vs H Q E ⟨a, ns, rfl, hl, hO, hS, hQ⟩
  obtain ⟨s', e⟩ := h ns hl
  refine ⟨⟨[], []⟩, [.scr ns], [], rfl, ⟨rfl, List.nodup_nil, fun l a c e1 _ => by simp at e1, fun b hb => by simp at hb⟩, .cons ?_ .nil, ?_⟩
  · simp only [RD]
    refine ⟨a, rfl, ?_⟩
    rcases hS with h | h
    · exact .inl ⟨by simp, by simp, h⟩
    · exact .inr h
  · rw [e]
    intro L' v H' k S r
    simp only [RD] at r
    subst r
    exact hQ H'
theorem all_mk {P : Program} {w : World} {K : PySem.W.Frag} {h : Heap} {mg : Str → Option Value} {fa : Addr} (X : K.In h) (G : h.Ns mainGlobals mg) (hfa : mg "law" = some (.ref fa))
    {f0 f1 f2 f3 f4 f5 f6 f7 f8 f9 f10 f11 f12 f13 f14 f15 f16 f17 f18 f19 f20 f21 f22 f23 f24 f25 f26 f27 f28 C0 C1 C2 C3 C4 C5 C6 C7 u_NONE u_EMPTY : Addr} {od0 an0 od1 an1 od2 an2 od3 an3 od4 an4 od5 an5 od6 an6 od7 an7 od8 an8 od9 an9 od10 an10 od11 an11 od12 an12 od13 an13 od14 an14 od15 an15 od16 an16 od17 an17 od18 an18 od19 an19 od20 an20 od21 an21 od22 an22 od23 an23 od24 an24 od25 an25 od26 an26 od27 an27 od28 an28 : Option Addr} {sl0 sl1 sl2 sl3 sl4 sl5 sl6 sl7 sl8 sl9 sl10 sl11 sl12 sl13 sl14 sl15 sl16 sl17 sl18 sl19 sl20 sl21 sl22 sl23 sl24 sl25 sl26 sl27 sl28 : Array (Option Value)} {oc0 kV0 dc0 pm0 cd0 ct0 oc1 kV1 dc1 pm1 cd1 ct1 oc2 kV2 dc2 pm2 cd2 ct2 oc3 kV3 dc3 pm3 cd3 ct3 oc4 kV4 dc4 pm4 cd4 ct4 oc5 kV5 dc5 pm5 cd5 ct5 oc6 kV6 dc6 pm6 cd6 ct6 oc7 kV7 dc7 pm7 cd7 ct7 oc8 kV8 dc8 pm8 cd8 ct8 oc9 kV9 dc9 pm9 cd9 ct9 oc10 kV10 dc10 pm10 cd10 ct10 oc11 kV11 dc11 pm11 cd11 ct11 oc12 kV12 dc12 pm12 cd12 ct12 oc13 kV13 dc13 pm13 cd13 ct13 oc14 kV14 dc14 pm14 cd14 ct14 oc15 kV15 dc15 pm15 cd15 ct15 oc16 kV16 dc16 pm16 cd16 ct16 oc17 kV17 dc17 pm17 cd17 ct17 oc18 kV18 dc18 pm18 cd18 ct18 oc19 kV19 dc19 pm19 cd19 ct19 oc20 kV20 dc20 pm20 cd20 ct20 oc21 kV21 dc21 pm21 cd21 ct21 oc22 kV22 dc22 pm22 cd22 ct22 oc23 kV23 dc23 pm23 cd23 ct23 oc24 kV24 dc24 pm24 cd24 ct24 oc25 kV25 dc25 pm25 cd25 ct25 oc26 kV26 dc26 pm26 cd26 ct26 oc27 kV27 dc27 pm27 cd27 ct27 oc28 kV28 dc28 pm28 cd28 ct28 : Value} {od_NONE : Option Addr} {sl_NONE : Array (Option Value)} {sz_NONE : Nat} {od_EMPTY : Option Addr} {sl_EMPTY : Array (Option Value)} {sz_EMPTY : Nat} {t_SMALL t_MOST_LETTERS t_MOST_NODES t_MOST_TEXT t_NONE t_EMPTY : Tok}
    (zgC6 : PySem.W.nsIn K mainGlobals "Made" = some (some (.ref C6)))
    (zpC6 : PySem.W.plainGet K C6 Str.empty = true)
    (zdC6 : PySem.W.hasDictIn K C6 = true)
    (zoC6 : PySem.W.plainOver K C6 = true)
    (zsC6 : PySem.W.findIn K (.ref C6) "__setattr__" = some (some (.builtin "object.__setattr__")))
    (zmC6 : PySem.W.makesIn K C6 = true)
    (zkC6 : PySem.W.keepIn K (.ref C6) = true)
    (znC6_pattern : PySem.W.findIn K (.ref C6) "pattern" = some none)
    (znC6_many : PySem.W.findIn K (.ref C6) "many" = some none)
    (zgC7 : PySem.W.nsIn K mainGlobals "Open" = some (some (.ref C7)))
    (zpC7 : PySem.W.plainGet K C7 Str.empty = true)
    (zdC7 : PySem.W.hasDictIn K C7 = true)
    (zoC7 : PySem.W.plainOver K C7 = true)
    (zsC7 : PySem.W.findIn K (.ref C7) "__setattr__" = some (some (.builtin "object.__setattr__")))
    (zmC7 : PySem.W.makesIn K C7 = true)
    (zkC7 : PySem.W.keepIn K (.ref C7) = true)
    (znC7_branches : PySem.W.findIn K (.ref C7) "branches" = some none)
    (znC7_halves : PySem.W.findIn K (.ref C7) "halves" = some none)
    (znC7_held : PySem.W.findIn K (.ref C7) "held" = some none)
    (znC7_nots : PySem.W.findIn K (.ref C7) "nots" = some none)
    (a0 : PySem.W.nsIn K mainGlobals "are_letters" = some (some (.ref f0)))
    (l0 : K.lookup f0 = some ⟨oc0, od0, .func (PySem.W.fnOf "are_letters" "are_letters" (defArgs s_are_letters) (defBody s_are_letters) (defScope s_are_letters) .none kV0 dc0 pm0 an0 cd0 ct0), sl0⟩)
    (c0 : PySem.W.codeIn K cd0 "are_letters" = true)
    (k0 : PySem.W.keepIn K (.ref f0) = true)
    (a1 : PySem.W.nsIn K mainGlobals "need_letters" = some (some (.ref f1)))
    (l1 : K.lookup f1 = some ⟨oc1, od1, .func (PySem.W.fnOf "need_letters" "need_letters" (defArgs s_need_letters) (defBody s_need_letters) (defScope s_need_letters) .none kV1 dc1 pm1 an1 cd1 ct1), sl1⟩)
    (c1 : PySem.W.codeIn K cd1 "need_letters" = true)
    (k1 : PySem.W.keepIn K (.ref f1) = true)
    (a2 : PySem.W.findIn K (.ref C6) "__init__" = some (some (.ref f2)))
    (i2 : PySem.W.isFn K (.ref f2) = true)
    (l2 : K.lookup f2 = some ⟨oc2, od2, .func (PySem.W.fnOf "__init__" "Made.__init__" (defArgs s_Made___init__) (defBody s_Made___init__) (defScope s_Made___init__) .none kV2 dc2 pm2 an2 cd2 ct2), sl2⟩)
    (c2 : PySem.W.codeIn K cd2 "Made.__init__" = true)
    (k2 : PySem.W.keepIn K (.ref f2) = true)
    (a3 : PySem.W.findIn K (.ref C7) "__init__" = some (some (.ref f3)))
    (i3 : PySem.W.isFn K (.ref f3) = true)
    (l3 : K.lookup f3 = some ⟨oc3, od3, .func (PySem.W.fnOf "__init__" "Open.__init__" (defArgs s_Open___init__) (defBody s_Open___init__) (defScope s_Open___init__) .none kV3 dc3 pm3 an3 cd3 ct3), sl3⟩)
    (c3 : PySem.W.codeIn K cd3 "Open.__init__" = true)
    (k3 : PySem.W.keepIn K (.ref f3) = true)
    (a4 : PySem.W.nsIn K mainGlobals "need" = some (some (.ref f4)))
    (l4 : K.lookup f4 = some ⟨oc4, od4, .func (PySem.W.fnOf "need" "need" (defArgs s_need) (defBody s_need) (defScope s_need) .none kV4 dc4 pm4 an4 cd4 ct4), sl4⟩)
    (c4 : PySem.W.codeIn K cd4 "need" = true)
    (k4 : PySem.W.keepIn K (.ref f4) = true)
    (a5 : PySem.W.nsIn K mainGlobals "of_parts" = some (some (.ref f5)))
    (l5 : K.lookup f5 = some ⟨oc5, od5, .func (PySem.W.fnOf "of_parts" "of_parts" (defArgs s_of_parts) (defBody s_of_parts) (defScope s_of_parts) .none kV5 dc5 pm5 an5 cd5 ct5), sl5⟩)
    (c5 : PySem.W.codeIn K cd5 "of_parts" = true)
    (k5 : PySem.W.keepIn K (.ref f5) = true)
    (a6 : PySem.W.nsIn K mainGlobals "end_half" = some (some (.ref f6)))
    (l6 : K.lookup f6 = some ⟨oc6, od6, .func (PySem.W.fnOf "end_half" "end_half" (defArgs s_end_half) (defBody s_end_half) (defScope s_end_half) .none kV6 dc6 pm6 an6 cd6 ct6), sl6⟩)
    (c6 : PySem.W.codeIn K cd6 "end_half" = true)
    (k6 : PySem.W.keepIn K (.ref f6) = true)
    (a7 : PySem.W.nsIn K mainGlobals "end_branch" = some (some (.ref f7)))
    (l7 : K.lookup f7 = some ⟨oc7, od7, .func (PySem.W.fnOf "end_branch" "end_branch" (defArgs s_end_branch) (defBody s_end_branch) (defScope s_end_branch) .none kV7 dc7 pm7 an7 cd7 ct7), sl7⟩)
    (c7 : PySem.W.codeIn K cd7 "end_branch" = true)
    (k7 : PySem.W.keepIn K (.ref f7) = true)
    (a8 : PySem.W.nsIn K mainGlobals "closed" = some (some (.ref f8)))
    (l8 : K.lookup f8 = some ⟨oc8, od8, .func (PySem.W.fnOf "closed" "closed" (defArgs s_closed) (defBody s_closed) (defScope s_closed) .none kV8 dc8 pm8 an8 cd8 ct8), sl8⟩)
    (c8 : PySem.W.codeIn K cd8 "closed" = true)
    (k8 : PySem.W.keepIn K (.ref f8) = true)
    (a9 : PySem.W.nsIn K mainGlobals "put" = some (some (.ref f9)))
    (l9 : K.lookup f9 = some ⟨oc9, od9, .func (PySem.W.fnOf "put" "put" (defArgs s_put) (defBody s_put) (defScope s_put) .none kV9 dc9 pm9 an9 cd9 ct9), sl9⟩)
    (c9 : PySem.W.codeIn K cd9 "put" = true)
    (k9 : PySem.W.keepIn K (.ref f9) = true)
    (a10 : PySem.W.nsIn K mainGlobals "marked" = some (some (.ref f10)))
    (l10 : K.lookup f10 = some ⟨oc10, od10, .func (PySem.W.fnOf "marked" "marked" (defArgs s_marked) (defBody s_marked) (defScope s_marked) .none kV10 dc10 pm10 an10 cd10 ct10), sl10⟩)
    (c10 : PySem.W.codeIn K cd10 "marked" = true)
    (k10 : PySem.W.keepIn K (.ref f10) = true)
    (a11 : PySem.W.nsIn K mainGlobals "plain_atom" = some (some (.ref f11)))
    (l11 : K.lookup f11 = some ⟨oc11, od11, .func (PySem.W.fnOf "plain_atom" "plain_atom" (defArgs s_plain_atom) (defBody s_plain_atom) (defScope s_plain_atom) .none kV11 dc11 pm11 an11 cd11 ct11), sl11⟩)
    (c11 : PySem.W.codeIn K cd11 "plain_atom" = true)
    (k11 : PySem.W.keepIn K (.ref f11) = true)
    (a12 : PySem.W.nsIn K mainGlobals "stars_at" = some (some (.ref f12)))
    (l12 : K.lookup f12 = some ⟨oc12, od12, .func (PySem.W.fnOf "stars_at" "stars_at" (defArgs s_stars_at) (defBody s_stars_at) (defScope s_stars_at) .none kV12 dc12 pm12 an12 cd12 ct12), sl12⟩)
    (c12 : PySem.W.codeIn K cd12 "stars_at" = true)
    (k12 : PySem.W.keepIn K (.ref f12) = true)
    (a13 : PySem.W.nsIn K mainGlobals "read_all" = some (some (.ref f13)))
    (l13 : K.lookup f13 = some ⟨oc13, od13, .func (PySem.W.fnOf "read_all" "read_all" (defArgs s_read_all) (defBody s_read_all) (defScope s_read_all) .none kV13 dc13 pm13 an13 cd13 ct13), sl13⟩)
    (c13 : PySem.W.codeIn K cd13 "read_all" = true)
    (k13 : PySem.W.keepIn K (.ref f13) = true)
    (a14 : PySem.W.nsIn K mainGlobals "read" = some (some (.ref f14)))
    (l14 : K.lookup f14 = some ⟨oc14, od14, .func (PySem.W.fnOf "read" "read" (defArgs s_read) (defBody s_read) (defScope s_read) .none kV14 dc14 pm14 an14 cd14 ct14), sl14⟩)
    (c14 : PySem.W.codeIn K cd14 "read" = true)
    (k14 : PySem.W.keepIn K (.ref f14) = true)
    (a15 : PySem.W.nsIn K mainGlobals "_law_cell_at" = some (some (.ref f15)))
    (l15 : K.lookup f15 = some ⟨oc15, od15, .func (PySem.W.fnOf "_law_cell_at" "_law_cell_at" (defArgs s__law_cell_at) (defBody s__law_cell_at) (defScope s__law_cell_at) .none kV15 dc15 pm15 an15 cd15 ct15), sl15⟩)
    (c15 : PySem.W.codeIn K cd15 "_law_cell_at" = true)
    (k15 : PySem.W.keepIn K (.ref f15) = true)
    (a16 : PySem.W.nsIn K mainGlobals "_law_letters" = some (some (.ref f16)))
    (l16 : K.lookup f16 = some ⟨oc16, od16, .func (PySem.W.fnOf "_law_letters" "_law_letters" (defArgs s__law_letters) (defBody s__law_letters) (defScope s__law_letters) .none kV16 dc16 pm16 an16 cd16 ct16), sl16⟩)
    (c16 : PySem.W.codeIn K cd16 "_law_letters" = true)
    (k16 : PySem.W.keepIn K (.ref f16) = true)
    (a17 : PySem.W.nsIn K mainGlobals "_law_size" = some (some (.ref f17)))
    (l17 : K.lookup f17 = some ⟨oc17, od17, .func (PySem.W.fnOf "_law_size" "_law_size" (defArgs s__law_size) (defBody s__law_size) (defScope s__law_size) .none kV17 dc17 pm17 an17 cd17 ct17), sl17⟩)
    (c17 : PySem.W.codeIn K cd17 "_law_size" = true)
    (k17 : PySem.W.keepIn K (.ref f17) = true)
    (a18 : PySem.W.nsIn K mainGlobals "_law_of" = some (some (.ref f18)))
    (l18 : K.lookup f18 = some ⟨oc18, od18, .func (PySem.W.fnOf "_law_of" "_law_of" (defArgs s__law_of) (defBody s__law_of) (defScope s__law_of) .none kV18 dc18 pm18 an18 cd18 ct18), sl18⟩)
    (c18 : PySem.W.codeIn K cd18 "_law_of" = true)
    (k18 : PySem.W.keepIn K (.ref f18) = true)
    (a19 : PySem.W.nsIn K mainGlobals "_law_item" = some (some (.ref f19)))
    (l19 : K.lookup f19 = some ⟨oc19, od19, .func (PySem.W.fnOf "_law_item" "_law_item" (defArgs s__law_item) (defBody s__law_item) (defScope s__law_item) .none kV19 dc19 pm19 an19 cd19 ct19), sl19⟩)
    (c19 : PySem.W.codeIn K cd19 "_law_item" = true)
    (k19 : PySem.W.keepIn K (.ref f19) = true)
    (a20 : PySem.W.nsIn K mainGlobals "_law_half" = some (some (.ref f20)))
    (l20 : K.lookup f20 = some ⟨oc20, od20, .func (PySem.W.fnOf "_law_half" "_law_half" (defArgs s__law_half) (defBody s__law_half) (defScope s__law_half) .none kV20 dc20 pm20 an20 cd20 ct20), sl20⟩)
    (c20 : PySem.W.codeIn K cd20 "_law_half" = true)
    (k20 : PySem.W.keepIn K (.ref f20) = true)
    (a21 : PySem.W.nsIn K mainGlobals "_law_either" = some (some (.ref f21)))
    (l21 : K.lookup f21 = some ⟨oc21, od21, .func (PySem.W.fnOf "_law_either" "_law_either" (defArgs s__law_either) (defBody s__law_either) (defScope s__law_either) .none kV21 dc21 pm21 an21 cd21 ct21), sl21⟩)
    (c21 : PySem.W.codeIn K cd21 "_law_either" = true)
    (k21 : PySem.W.keepIn K (.ref f21) = true)
    (a22 : PySem.W.nsIn K mainGlobals "_law_due" = some (some (.ref f22)))
    (l22 : K.lookup f22 = some ⟨oc22, od22, .func (PySem.W.fnOf "_law_due" "_law_due" (defArgs s__law_due) (defBody s__law_due) (defScope s__law_due) .none kV22 dc22 pm22 an22 cd22 ct22), sl22⟩)
    (c22 : PySem.W.codeIn K cd22 "_law_due" = true)
    (k22 : PySem.W.keepIn K (.ref f22) = true)
    (a23 : PySem.W.nsIn K mainGlobals "_law_told" = some (some (.ref f23)))
    (l23 : K.lookup f23 = some ⟨oc23, od23, .func (PySem.W.fnOf "_law_told" "_law_told" (defArgs s__law_told) (defBody s__law_told) (defScope s__law_told) .none kV23 dc23 pm23 an23 cd23 ct23), sl23⟩)
    (c23 : PySem.W.codeIn K cd23 "_law_told" = true)
    (k23 : PySem.W.keepIn K (.ref f23) = true)
    (a24 : PySem.W.nsIn K mainGlobals "_law_grown" = some (some (.ref f24)))
    (l24 : K.lookup f24 = some ⟨oc24, od24, .func (PySem.W.fnOf "_law_grown" "_law_grown" (defArgs s__law_grown) (defBody s__law_grown) (defScope s__law_grown) .none kV24 dc24 pm24 an24 cd24 ct24), sl24⟩)
    (c24 : PySem.W.codeIn K cd24 "_law_grown" = true)
    (k24 : PySem.W.keepIn K (.ref f24) = true)
    (a25 : PySem.W.nsIn K mainGlobals "_law_edited" = some (some (.ref f25)))
    (l25 : K.lookup f25 = some ⟨oc25, od25, .func (PySem.W.fnOf "_law_edited" "_law_edited" (defArgs s__law_edited) (defBody s__law_edited) (defScope s__law_edited) .none kV25 dc25 pm25 an25 cd25 ct25), sl25⟩)
    (c25 : PySem.W.codeIn K cd25 "_law_edited" = true)
    (k25 : PySem.W.keepIn K (.ref f25) = true)
    (a26 : PySem.W.nsIn K mainGlobals "_law_odd" = some (some (.ref f26)))
    (l26 : K.lookup f26 = some ⟨oc26, od26, .func (PySem.W.fnOf "_law_odd" "_law_odd" (defArgs s__law_odd) (defBody s__law_odd) (defScope s__law_odd) .none kV26 dc26 pm26 an26 cd26 ct26), sl26⟩)
    (c26 : PySem.W.codeIn K cd26 "_law_odd" = true)
    (k26 : PySem.W.keepIn K (.ref f26) = true)
    (a27 : PySem.W.nsIn K mainGlobals "law" = some (some (.ref f27)))
    (l27 : K.lookup f27 = some ⟨oc27, od27, .func (PySem.W.fnOf "law" "law" (defArgs s_law) (defBody s_law) (defScope s_law) .none kV27 dc27 pm27 an27 cd27 ct27), sl27⟩)
    (c27 : PySem.W.codeIn K cd27 "law" = true)
    (k27 : PySem.W.keepIn K (.ref f27) = true)
    (a28 : PySem.W.nsIn K mainGlobals "_law_kind" = some (some (.ref f28)))
    (l28 : K.lookup f28 = some ⟨oc28, od28, .func (PySem.W.fnOf "_law_kind" "_law_kind" (defArgs s__law_kind) (defBody s__law_kind) (defScope s__law_kind) .none kV28 dc28 pm28 an28 cd28 ct28), sl28⟩)
    (c28 : PySem.W.codeIn K cd28 "_law_kind" = true)
    (k28 : PySem.W.keepIn K (.ref f28) = true)
    (n_ValueError : PySem.W.nsIn K mainGlobals "ValueError" = some none)
    (n_abs : PySem.W.nsIn K mainGlobals "abs" = some none)
    (n_all : PySem.W.nsIn K mainGlobals "all" = some none)
    (n_int : PySem.W.nsIn K mainGlobals "int" = some none)
    (n_isinstance : PySem.W.nsIn K mainGlobals "isinstance" = some none)
    (n_len : PySem.W.nsIn K mainGlobals "len" = some none)
    (n_range : PySem.W.nsIn K mainGlobals "range" = some none)
    (n_str : PySem.W.nsIn K mainGlobals "str" = some none)
    (n_sum : PySem.W.nsIn K mainGlobals "sum" = some none)
    (n_tuple : PySem.W.nsIn K mainGlobals "tuple" = some none)
    (s_SMALL : PySem.W.nsIn K mainGlobals "SMALL" = some (some (.str "abcdefghijklmnopqrstuvwxyz" t_SMALL)))
    (s_MOST_LETTERS : PySem.W.nsIn K mainGlobals "MOST_LETTERS" = some (some (.int 4 t_MOST_LETTERS)))
    (s_MOST_NODES : PySem.W.nsIn K mainGlobals "MOST_NODES" = some (some (.int 60 t_MOST_NODES)))
    (s_MOST_TEXT : PySem.W.nsIn K mainGlobals "MOST_TEXT" = some (some (.int 400 t_MOST_TEXT)))
    (s_NONE : PySem.W.nsIn K mainGlobals "NONE" = some (some (.ref u_NONE)))
    (v_NONE : K.lookup u_NONE = some ⟨.type "tuple", od_NONE, .seq #[.str "none" t_NONE] sz_NONE, sl_NONE⟩)
    (s_EMPTY : PySem.W.nsIn K mainGlobals "EMPTY" = some (some (.ref u_EMPTY)))
    (v_EMPTY : K.lookup u_EMPTY = some ⟨.type "tuple", od_EMPTY, .seq #[.str "empty" t_EMPTY] sz_EMPTY, sl_EMPTY⟩)
    (xg0 : PySem.W.nsIn K mainGlobals "PatternError" = some (some (.ref C0)))
    (xx0 : PySem.W.excIn K C0 [.type "ValueError", .type "Exception", .type "BaseException", .type "object"] "ValueError.__new__" = true)
    (xk0 : PySem.W.keepIn K (.ref C0) = true)
    (xb0 : PySem.W.subIn K (.ref C0) (.type "BaseException") = some true)
    (xt0 : PySem.W.typeIn K (.ref C0) = some (.type "type"))
    (xg1 : PySem.W.nsIn K mainGlobals "NoLetters" = some (some (.ref C1)))
    (xx1 : PySem.W.excIn K C1 [.type "ValueError", .type "Exception", .type "BaseException", .type "object"] "ValueError.__new__" = true)
    (xk1 : PySem.W.keepIn K (.ref C1) = true)
    (xb1 : PySem.W.subIn K (.ref C1) (.type "BaseException") = some true)
    (xt1 : PySem.W.typeIn K (.ref C1) = some (.type "type"))
    (xg2 : PySem.W.nsIn K mainGlobals "NoPattern" = some (some (.ref C2)))
    (xx2 : PySem.W.excIn K C2 [.type "ValueError", .type "Exception", .type "BaseException", .type "object"] "ValueError.__new__" = true)
    (xk2 : PySem.W.keepIn K (.ref C2) = true)
    (xb2 : PySem.W.subIn K (.ref C2) (.type "BaseException") = some true)
    (xt2 : PySem.W.typeIn K (.ref C2) = some (.type "type"))
    (xg3 : PySem.W.nsIn K mainGlobals "TooGreat" = some (some (.ref C3)))
    (xx3 : PySem.W.excIn K C3 [.type "ValueError", .type "Exception", .type "BaseException", .type "object"] "ValueError.__new__" = true)
    (xk3 : PySem.W.keepIn K (.ref C3) = true)
    (xb3 : PySem.W.subIn K (.ref C3) (.type "BaseException") = some true)
    (xt3 : PySem.W.typeIn K (.ref C3) = some (.type "type"))
    (xg4 : PySem.W.nsIn K mainGlobals "NoText" = some (some (.ref C4)))
    (xx4 : PySem.W.excIn K C4 [.type "ValueError", .type "Exception", .type "BaseException", .type "object"] "ValueError.__new__" = true)
    (xk4 : PySem.W.keepIn K (.ref C4) = true)
    (xb4 : PySem.W.subIn K (.ref C4) (.type "BaseException") = some true)
    (xt4 : PySem.W.typeIn K (.ref C4) = some (.type "type"))
    (xg5 : PySem.W.nsIn K mainGlobals "NoRoom" = some (some (.ref C5)))
    (xx5 : PySem.W.excIn K C5 [.type "ValueError", .type "Exception", .type "BaseException", .type "object"] "ValueError.__new__" = true)
    (xk5 : PySem.W.keepIn K (.ref C5) = true)
    (xb5 : PySem.W.subIn K (.ref C5) (.type "BaseException") = some true)
    (xt5 : PySem.W.typeIn K (.ref C5) = some (.type "type"))
    (eg1 : PySem.W.findIn K (.ref C1) "__getattribute__" = some (some (.builtin "BaseException.__getattribute__")))
    (ek1 : PySem.W.findIn K (.ref C1) "__getattr__" = some none)
    (ed1 : PySem.W.hasDictIn K C1 = true)
    (ea1 : PySem.W.findIn K (.ref C1) "__class__" = some (some (.builtin "object.__class__")))
    (em1 : PySem.W.mroIn K C1 (.type "object") = some true)
    (ev1 : PySem.W.subIn K (.ref C1) (.type "ValueError") = some true)
    (ex1 : PySem.W.subIn K (.ref C1) (.ref C0) = some true)
    (eo11 : PySem.W.subIn K (.ref C1) (.ref C1) = some true)
    (eo12 : PySem.W.subIn K (.ref C1) (.ref C2) = some false)
    (eo13 : PySem.W.subIn K (.ref C1) (.ref C3) = some false)
    (eo14 : PySem.W.subIn K (.ref C1) (.ref C4) = some false)
    (eo15 : PySem.W.subIn K (.ref C1) (.ref C5) = some false)
    (eg2 : PySem.W.findIn K (.ref C2) "__getattribute__" = some (some (.builtin "BaseException.__getattribute__")))
    (ek2 : PySem.W.findIn K (.ref C2) "__getattr__" = some none)
    (ed2 : PySem.W.hasDictIn K C2 = true)
    (ea2 : PySem.W.findIn K (.ref C2) "__class__" = some (some (.builtin "object.__class__")))
    (em2 : PySem.W.mroIn K C2 (.type "object") = some true)
    (ev2 : PySem.W.subIn K (.ref C2) (.type "ValueError") = some true)
    (ex2 : PySem.W.subIn K (.ref C2) (.ref C0) = some true)
    (eo21 : PySem.W.subIn K (.ref C2) (.ref C1) = some false)
    (eo22 : PySem.W.subIn K (.ref C2) (.ref C2) = some true)
    (eo23 : PySem.W.subIn K (.ref C2) (.ref C3) = some false)
    (eo24 : PySem.W.subIn K (.ref C2) (.ref C4) = some false)
    (eo25 : PySem.W.subIn K (.ref C2) (.ref C5) = some false)
    (eg3 : PySem.W.findIn K (.ref C3) "__getattribute__" = some (some (.builtin "BaseException.__getattribute__")))
    (ek3 : PySem.W.findIn K (.ref C3) "__getattr__" = some none)
    (ed3 : PySem.W.hasDictIn K C3 = true)
    (ea3 : PySem.W.findIn K (.ref C3) "__class__" = some (some (.builtin "object.__class__")))
    (em3 : PySem.W.mroIn K C3 (.type "object") = some true)
    (ev3 : PySem.W.subIn K (.ref C3) (.type "ValueError") = some true)
    (ex3 : PySem.W.subIn K (.ref C3) (.ref C0) = some true)
    (eo31 : PySem.W.subIn K (.ref C3) (.ref C1) = some false)
    (eo32 : PySem.W.subIn K (.ref C3) (.ref C2) = some false)
    (eo33 : PySem.W.subIn K (.ref C3) (.ref C3) = some true)
    (eo34 : PySem.W.subIn K (.ref C3) (.ref C4) = some false)
    (eo35 : PySem.W.subIn K (.ref C3) (.ref C5) = some false)
    (eg4 : PySem.W.findIn K (.ref C4) "__getattribute__" = some (some (.builtin "BaseException.__getattribute__")))
    (ek4 : PySem.W.findIn K (.ref C4) "__getattr__" = some none)
    (ed4 : PySem.W.hasDictIn K C4 = true)
    (ea4 : PySem.W.findIn K (.ref C4) "__class__" = some (some (.builtin "object.__class__")))
    (em4 : PySem.W.mroIn K C4 (.type "object") = some true)
    (ev4 : PySem.W.subIn K (.ref C4) (.type "ValueError") = some true)
    (ex4 : PySem.W.subIn K (.ref C4) (.ref C0) = some true)
    (eo41 : PySem.W.subIn K (.ref C4) (.ref C1) = some false)
    (eo42 : PySem.W.subIn K (.ref C4) (.ref C2) = some false)
    (eo43 : PySem.W.subIn K (.ref C4) (.ref C3) = some false)
    (eo44 : PySem.W.subIn K (.ref C4) (.ref C4) = some true)
    (eo45 : PySem.W.subIn K (.ref C4) (.ref C5) = some false)
    (eg5 : PySem.W.findIn K (.ref C5) "__getattribute__" = some (some (.builtin "BaseException.__getattribute__")))
    (ek5 : PySem.W.findIn K (.ref C5) "__getattr__" = some none)
    (ed5 : PySem.W.hasDictIn K C5 = true)
    (ea5 : PySem.W.findIn K (.ref C5) "__class__" = some (some (.builtin "object.__class__")))
    (em5 : PySem.W.mroIn K C5 (.type "object") = some true)
    (ev5 : PySem.W.subIn K (.ref C5) (.type "ValueError") = some true)
    (ex5 : PySem.W.subIn K (.ref C5) (.ref C0) = some true)
    (eo51 : PySem.W.subIn K (.ref C5) (.ref C1) = some false)
    (eo52 : PySem.W.subIn K (.ref C5) (.ref C2) = some false)
    (eo53 : PySem.W.subIn K (.ref C5) (.ref C3) = some false)
    (eo54 : PySem.W.subIn K (.ref C5) (.ref C4) = some false)
    (eo55 : PySem.W.subIn K (.ref C5) (.ref C5) = some true)
    (ei0 : PySem.W.isClsIn K C0 = true)
    (ei1 : PySem.W.isClsIn K C1 = true)
    (ei2 : PySem.W.isClsIn K C2 = true)
    (ei3 : PySem.W.isClsIn K C3 = true)
    (ei4 : PySem.W.isClsIn K C4 = true)
    (ei5 : PySem.W.isClsIn K C5 = true)
    (en : PySem.W.specialIn K (.builtin "object.__class__") "__get__" = some (some (.builtin "getset_descriptor.__get__")))
    (et : PySem.W.takesIn K (.builtin "object.__class__") = some true) :
    ∃ fd : FuncData, (∀ (s : Shared) (v : Value), BindsTo s fd ⟨[v], []⟩ [("_law_script", v)]) ∧ ∀ base : Heap, K.In base → base.Ns mainGlobals mg → FnOk P w K mg base (L2N.CX P w) 209 fa fd ["_law_script"] (spLaw K) := by
  have e := hfa.symm.trans (PySem.W.mg_of X G a27)
  cases e
  have F0 := fun_mk (st := s_are_letters) l0 c0 k0
  have b0 := F0.binds (ps := ["thing"]) fun _ _ _ _ _ _ us hl => match us, hl with | [_], _ => rfl
  have F1 := fun_mk (st := s_need_letters) l1 c1 k1
  have b1 := F1.binds (ps := ["letters"]) fun _ _ _ _ _ _ us hl => match us, hl with | [_], _ => rfl
  have F2 := fun_mk (st := s_Made___init__) l2 c2 k2
  have b2 := F2.binds (ps := ["self", "pattern", "many"]) fun _ _ _ _ _ _ us hl => match us, hl with | [_, _, _], _ => rfl
  have F3 := fun_mk (st := s_Open___init__) l3 c3 k3
  have b3 := F3.binds (ps := ["self"]) fun _ _ _ _ _ _ us hl => match us, hl with | [_], _ => rfl
  have F4 := fun_mk (st := s_need) l4 c4 k4
  have b4 := F4.binds (ps := ["good"]) fun _ _ _ _ _ _ us hl => match us, hl with | [_], _ => rfl
  have F5 := fun_mk (st := s_of_parts) l5 c5 k5
  have b5 := F5.binds (ps := ["word", "parts"]) fun _ _ _ _ _ _ us hl => match us, hl with | [_, _], _ => rfl
  have F6 := fun_mk (st := s_end_half) l6 c6 k6
  have b6 := F6.binds (ps := ["bracket"]) fun _ _ _ _ _ _ us hl => match us, hl with | [_], _ => rfl
  have F7 := fun_mk (st := s_end_branch) l7 c7 k7
  have b7 := F7.binds (ps := ["bracket"]) fun _ _ _ _ _ _ us hl => match us, hl with | [_], _ => rfl
  have F8 := fun_mk (st := s_closed) l8 c8 k8
  have b8 := F8.binds (ps := ["bracket"]) fun _ _ _ _ _ _ us hl => match us, hl with | [_], _ => rfl
  have F9 := fun_mk (st := s_put) l9 c9 k9
  have b9 := F9.binds (ps := ["bracket", "atom", "stars"]) fun _ _ _ _ _ _ us hl => match us, hl with | [_, _, _], _ => rfl
  have F10 := fun_mk (st := s_marked) l10 c10 k10
  have b10 := F10.binds (ps := ["bracket", "sign"]) fun _ _ _ _ _ _ us hl => match us, hl with | [_, _], _ => rfl
  have F11 := fun_mk (st := s_plain_atom) l11 c11 k11
  have b11 := F11.binds (ps := ["letters", "text", "at"]) fun _ _ _ _ _ _ us hl => match us, hl with | [_, _, _], _ => rfl
  have F12 := fun_mk (st := s_stars_at) l12 c12 k12
  have b12 := F12.binds (ps := ["text", "at"]) fun _ _ _ _ _ _ us hl => match us, hl with | [_, _], _ => rfl
  have F13 := fun_mk (st := s_read_all) l13 c13 k13
  have b13 := F13.binds (ps := ["letters", "text"]) fun _ _ _ _ _ _ us hl => match us, hl with | [_, _], _ => rfl
  have F14 := fun_mk (st := s_read) l14 c14 k14
  have b14 := F14.binds (ps := ["letters", "text"]) fun _ _ _ _ _ _ us hl => match us, hl with | [_, _], _ => rfl
  have F15 := fun_mk (st := s__law_cell_at) l15 c15 k15
  have b15 := F15.binds (ps := ["_law_script", "_law_k"]) fun _ _ _ _ _ _ us hl => match us, hl with | [_, _], _ => rfl
  have F16 := fun_mk (st := s__law_letters) l16 c16 k16
  have b16 := F16.binds (ps := ["_law_cell"]) fun _ _ _ _ _ _ us hl => match us, hl with | [_], _ => rfl
  have F17 := fun_mk (st := s__law_size) l17 c17 k17
  have b17 := F17.binds (ps := ["_law_pattern"]) fun _ _ _ _ _ _ us hl => match us, hl with | [_], _ => rfl
  have F18 := fun_mk (st := s__law_of) l18 c18 k18
  have b18 := F18.binds (ps := ["_law_word", "_law_patterns"]) fun _ _ _ _ _ _ us hl => match us, hl with | [_, _], _ => rfl
  have F19 := fun_mk (st := s__law_item) l19 c19 k19
  have b19 := F19.binds (ps := ["_law_letters_here", "_law_text", "_law_at"]) fun _ _ _ _ _ _ us hl => match us, hl with | [_, _, _], _ => rfl
  have F20 := fun_mk (st := s__law_half) l20 c20 k20
  have b20 := F20.binds (ps := ["_law_letters_here", "_law_text", "_law_at"]) fun _ _ _ _ _ _ us hl => match us, hl with | [_, _, _], _ => rfl
  have F21 := fun_mk (st := s__law_either) l21 c21 k21
  have b21 := F21.binds (ps := ["_law_letters_here", "_law_text", "_law_at"]) fun _ _ _ _ _ _ us hl => match us, hl with | [_, _, _], _ => rfl
  have F22 := fun_mk (st := s__law_due) l22 c22 k22
  have b22 := F22.binds (ps := ["_law_letters_here", "_law_text"]) fun _ _ _ _ _ _ us hl => match us, hl with | [_, _], _ => rfl
  have F23 := fun_mk (st := s__law_told) l23 c23 k23
  have b23 := F23.binds (ps := ["_law_letters_here", "_law_text"]) fun _ _ _ _ _ _ us hl => match us, hl with | [_, _], _ => rfl
  have F24 := fun_mk (st := s__law_grown) l24 c24 k24
  have b24 := F24.binds (ps := ["_law_letters_here", "_law_texts", "_law_cell"]) fun _ _ _ _ _ _ us hl => match us, hl with | [_, _, _], _ => rfl
  have F25 := fun_mk (st := s__law_edited) l25 c25 k25
  have b25 := F25.binds (ps := ["_law_letters_here", "_law_text", "_law_cell"]) fun _ _ _ _ _ _ us hl => match us, hl with | [_, _, _], _ => rfl
  have F26 := fun_mk (st := s__law_odd) l26 c26 k26
  have b26 := F26.binds (ps := ["_law_letters_here", "_law_cell"]) fun _ _ _ _ _ _ us hl => match us, hl with | [_, _], _ => rfl
  have F27 := fun_mk (st := s_law) l27 c27 k27
  have b27 := F27.binds (ps := ["_law_script"]) fun _ _ _ _ _ _ us hl => match us, hl with | [_], _ => rfl
  have F28 := fun_mk (st := s__law_kind) l28 c28 k28
  have b28 := F28.binds (ps := ["_law_error"]) fun _ _ _ _ _ _ us hl => match us, hl with | [_], _ => rfl
  have X0 : ExT K mg "PatternError" C0 := ⟨PySem.W.mg_of X G xg0, xx0, xk0, xb0, xt0⟩
  have X1 : ExT K mg "NoLetters" C1 := ⟨PySem.W.mg_of X G xg1, xx1, xk1, xb1, xt1⟩
  have X2 : ExT K mg "NoPattern" C2 := ⟨PySem.W.mg_of X G xg2, xx2, xk2, xb2, xt2⟩
  have X3 : ExT K mg "TooGreat" C3 := ⟨PySem.W.mg_of X G xg3, xx3, xk3, xb3, xt3⟩
  have X4 : ExT K mg "NoText" C4 := ⟨PySem.W.mg_of X G xg4, xx4, xk4, xb4, xt4⟩
  have X5 : ExT K mg "NoRoom" C5 := ⟨PySem.W.mg_of X G xg5, xx5, xk5, xb5, xt5⟩
  have Y1 : ExcC K C1 := ⟨eg1, ek1, xb1, ed1, ea1, en, et, em1⟩
  have Y2 : ExcC K C2 := ⟨eg2, ek2, xb2, ed2, ea2, en, et, em2⟩
  have Y3 : ExcC K C3 := ⟨eg3, ek3, xb3, ed3, ea3, en, et, em3⟩
  have Y4 : ExcC K C4 := ⟨eg4, ek4, xb4, ed4, ea4, en, et, em4⟩
  have Y5 : ExcC K C5 := ⟨eg5, ek5, xb5, ed5, ea5, en, et, em5⟩
  let ca : Nat → Addr := fun | 0 => C0 | 1 => C1 | 2 => C2 | 3 => C3 | 4 => C4 | 5 => C5 | 6 => C6 | 7 => C7 | _ => C0
  let T : Tx K mg := {
    a := fun | 0 => f0 | 1 => f1 | 2 => f2 | 3 => f3 | 4 => f4 | 5 => f5 | 6 => f6 | 7 => f7 | 8 => f8 | 9 => f9 | 10 => f10 | 11 => f11 | 12 => f12 | 13 => f13 | 14 => f14 | 15 => f15 | 16 => f16 | 17 => f17 | 18 => f18 | 19 => f19 | 20 => f20 | 21 => f21 | 22 => f22 | 23 => f23 | 24 => f24 | 25 => f25 | 26 => f26 | 27 => fa | _ => f0,
    fd := fun | 0 => PySem.W.fnOf "are_letters" "are_letters" (defArgs s_are_letters) (defBody s_are_letters) (defScope s_are_letters) .none kV0 dc0 pm0 an0 cd0 ct0 | 1 => PySem.W.fnOf "need_letters" "need_letters" (defArgs s_need_letters) (defBody s_need_letters) (defScope s_need_letters) .none kV1 dc1 pm1 an1 cd1 ct1 | 2 => PySem.W.fnOf "__init__" "Made.__init__" (defArgs s_Made___init__) (defBody s_Made___init__) (defScope s_Made___init__) .none kV2 dc2 pm2 an2 cd2 ct2 | 3 => PySem.W.fnOf "__init__" "Open.__init__" (defArgs s_Open___init__) (defBody s_Open___init__) (defScope s_Open___init__) .none kV3 dc3 pm3 an3 cd3 ct3 | 4 => PySem.W.fnOf "need" "need" (defArgs s_need) (defBody s_need) (defScope s_need) .none kV4 dc4 pm4 an4 cd4 ct4 | 5 => PySem.W.fnOf "of_parts" "of_parts" (defArgs s_of_parts) (defBody s_of_parts) (defScope s_of_parts) .none kV5 dc5 pm5 an5 cd5 ct5 | 6 => PySem.W.fnOf "end_half" "end_half" (defArgs s_end_half) (defBody s_end_half) (defScope s_end_half) .none kV6 dc6 pm6 an6 cd6 ct6 | 7 => PySem.W.fnOf "end_branch" "end_branch" (defArgs s_end_branch) (defBody s_end_branch) (defScope s_end_branch) .none kV7 dc7 pm7 an7 cd7 ct7 | 8 => PySem.W.fnOf "closed" "closed" (defArgs s_closed) (defBody s_closed) (defScope s_closed) .none kV8 dc8 pm8 an8 cd8 ct8 | 9 => PySem.W.fnOf "put" "put" (defArgs s_put) (defBody s_put) (defScope s_put) .none kV9 dc9 pm9 an9 cd9 ct9 | 10 => PySem.W.fnOf "marked" "marked" (defArgs s_marked) (defBody s_marked) (defScope s_marked) .none kV10 dc10 pm10 an10 cd10 ct10 | 11 => PySem.W.fnOf "plain_atom" "plain_atom" (defArgs s_plain_atom) (defBody s_plain_atom) (defScope s_plain_atom) .none kV11 dc11 pm11 an11 cd11 ct11 | 12 => PySem.W.fnOf "stars_at" "stars_at" (defArgs s_stars_at) (defBody s_stars_at) (defScope s_stars_at) .none kV12 dc12 pm12 an12 cd12 ct12 | 13 => PySem.W.fnOf "read_all" "read_all" (defArgs s_read_all) (defBody s_read_all) (defScope s_read_all) .none kV13 dc13 pm13 an13 cd13 ct13 | 14 => PySem.W.fnOf "read" "read" (defArgs s_read) (defBody s_read) (defScope s_read) .none kV14 dc14 pm14 an14 cd14 ct14 | 15 => PySem.W.fnOf "_law_cell_at" "_law_cell_at" (defArgs s__law_cell_at) (defBody s__law_cell_at) (defScope s__law_cell_at) .none kV15 dc15 pm15 an15 cd15 ct15 | 16 => PySem.W.fnOf "_law_letters" "_law_letters" (defArgs s__law_letters) (defBody s__law_letters) (defScope s__law_letters) .none kV16 dc16 pm16 an16 cd16 ct16 | 17 => PySem.W.fnOf "_law_size" "_law_size" (defArgs s__law_size) (defBody s__law_size) (defScope s__law_size) .none kV17 dc17 pm17 an17 cd17 ct17 | 18 => PySem.W.fnOf "_law_of" "_law_of" (defArgs s__law_of) (defBody s__law_of) (defScope s__law_of) .none kV18 dc18 pm18 an18 cd18 ct18 | 19 => PySem.W.fnOf "_law_item" "_law_item" (defArgs s__law_item) (defBody s__law_item) (defScope s__law_item) .none kV19 dc19 pm19 an19 cd19 ct19 | 20 => PySem.W.fnOf "_law_half" "_law_half" (defArgs s__law_half) (defBody s__law_half) (defScope s__law_half) .none kV20 dc20 pm20 an20 cd20 ct20 | 21 => PySem.W.fnOf "_law_either" "_law_either" (defArgs s__law_either) (defBody s__law_either) (defScope s__law_either) .none kV21 dc21 pm21 an21 cd21 ct21 | 22 => PySem.W.fnOf "_law_due" "_law_due" (defArgs s__law_due) (defBody s__law_due) (defScope s__law_due) .none kV22 dc22 pm22 an22 cd22 ct22 | 23 => PySem.W.fnOf "_law_told" "_law_told" (defArgs s__law_told) (defBody s__law_told) (defScope s__law_told) .none kV23 dc23 pm23 an23 cd23 ct23 | 24 => PySem.W.fnOf "_law_grown" "_law_grown" (defArgs s__law_grown) (defBody s__law_grown) (defScope s__law_grown) .none kV24 dc24 pm24 an24 cd24 ct24 | 25 => PySem.W.fnOf "_law_edited" "_law_edited" (defArgs s__law_edited) (defBody s__law_edited) (defScope s__law_edited) .none kV25 dc25 pm25 an25 cd25 ct25 | 26 => PySem.W.fnOf "_law_odd" "_law_odd" (defArgs s__law_odd) (defBody s__law_odd) (defScope s__law_odd) .none kV26 dc26 pm26 an26 cd26 ct26 | 27 => PySem.W.fnOf "law" "law" (defArgs s_law) (defBody s_law) (defScope s_law) .none kV27 dc27 pm27 an27 cd27 ct27 | _ => PySem.W.fnOf "are_letters" "are_letters" (defArgs s_are_letters) (defBody s_are_letters) (defScope s_are_letters) .none kV0 dc0 pm0 an0 cd0 ct0,
    ca := ca,
    F0 := F0,
    b0 := b0,
    g0 := PySem.W.mg_of X G a0,
    F1 := F1,
    b1 := b1,
    g1 := PySem.W.mg_of X G a1,
    F2 := F2,
    b2 := b2,
    F3 := F3,
    b3 := b3,
    F4 := F4,
    b4 := b4,
    g4 := PySem.W.mg_of X G a4,
    F5 := F5,
    b5 := b5,
    g5 := PySem.W.mg_of X G a5,
    F6 := F6,
    b6 := b6,
    g6 := PySem.W.mg_of X G a6,
    F7 := F7,
    b7 := b7,
    g7 := PySem.W.mg_of X G a7,
    F8 := F8,
    b8 := b8,
    g8 := PySem.W.mg_of X G a8,
    F9 := F9,
    b9 := b9,
    g9 := PySem.W.mg_of X G a9,
    F10 := F10,
    b10 := b10,
    g10 := PySem.W.mg_of X G a10,
    F11 := F11,
    b11 := b11,
    g11 := PySem.W.mg_of X G a11,
    F12 := F12,
    b12 := b12,
    g12 := PySem.W.mg_of X G a12,
    F13 := F13,
    b13 := b13,
    g13 := PySem.W.mg_of X G a13,
    F14 := F14,
    b14 := b14,
    g14 := PySem.W.mg_of X G a14,
    F15 := F15,
    b15 := b15,
    g15 := PySem.W.mg_of X G a15,
    F16 := F16,
    b16 := b16,
    g16 := PySem.W.mg_of X G a16,
    F17 := F17,
    b17 := b17,
    g17 := PySem.W.mg_of X G a17,
    F18 := F18,
    b18 := b18,
    g18 := PySem.W.mg_of X G a18,
    F19 := F19,
    b19 := b19,
    g19 := PySem.W.mg_of X G a19,
    F20 := F20,
    b20 := b20,
    g20 := PySem.W.mg_of X G a20,
    F21 := F21,
    b21 := b21,
    g21 := PySem.W.mg_of X G a21,
    F22 := F22,
    b22 := b22,
    g22 := PySem.W.mg_of X G a22,
    F23 := F23,
    b23 := b23,
    g23 := PySem.W.mg_of X G a23,
    F24 := F24,
    b24 := b24,
    g24 := PySem.W.mg_of X G a24,
    F25 := F25,
    b25 := b25,
    g25 := PySem.W.mg_of X G a25,
    F26 := F26,
    b26 := b26,
    g26 := PySem.W.mg_of X G a26,
    F27 := F27,
    b27 := b27,
    g27 := PySem.W.mg_of X G a27,
    M_Made := ⟨zmC6, a2, i2, zkC6⟩,
    C_Made := ⟨zpC6, zdC6, zoC6, zsC6⟩,
    G_Made := PySem.W.mg_of X G zgC6,
    na_Made_pattern := znC6_pattern,
    na_Made_many := znC6_many,
    M_Open := ⟨zmC7, a3, i3, zkC7⟩,
    C_Open := ⟨zpC7, zdC7, zoC7, zsC7⟩,
    G_Open := PySem.W.mg_of X G zgC7,
    na_Open_branches := znC7_branches,
    na_Open_halves := znC7_halves,
    na_Open_held := znC7_held,
    na_Open_nots := znC7_nots,
    n_ValueError := PySem.W.mg_none_of X G n_ValueError,
    n_abs := PySem.W.mg_none_of X G n_abs,
    n_all := PySem.W.mg_none_of X G n_all,
    n_int := PySem.W.mg_none_of X G n_int,
    n_isinstance := PySem.W.mg_none_of X G n_isinstance,
    n_len := PySem.W.mg_none_of X G n_len,
    n_range := PySem.W.mg_none_of X G n_range,
    n_str := PySem.W.mg_none_of X G n_str,
    n_sum := PySem.W.mg_none_of X G n_sum,
    n_tuple := PySem.W.mg_none_of X G n_tuple,
    k_SMALL := ⟨_, (V.str "abcdefghijklmnopqrstuvwxyz"), PySem.W.mg_of X G s_SMALL, ⟨_, rfl⟩, fun _ _ => by simp only [RD]⟩,
    k_MOST_LETTERS := ⟨_, (V.int 4), PySem.W.mg_of X G s_MOST_LETTERS, ⟨_, rfl⟩, fun _ _ => by simp only [RD]⟩,
    k_MOST_NODES := ⟨_, (V.int 60), PySem.W.mg_of X G s_MOST_NODES, ⟨_, rfl⟩, fun _ _ => by simp only [RD]⟩,
    k_MOST_TEXT := ⟨_, (V.int 400), PySem.W.mg_of X G s_MOST_TEXT, ⟨_, rfl⟩, fun _ _ => by simp only [RD]⟩,
    k_NONE := glob_tup (PySem.W.mg_of X G s_NONE) v_NONE,
    k_EMPTY := glob_tup (PySem.W.mg_of X G s_EMPTY) v_EMPTY,
    x0 := X0,
    x1 := X1,
    x2 := X2,
    x3 := X3,
    x4 := X4,
    x5 := X5,
    ak := f28,
    fdk := PySem.W.fnOf "_law_kind" "_law_kind" (defArgs s__law_kind) (defBody s__law_kind) (defScope s__law_kind) .none kV28 dc28 pm28 an28 cd28 ct28,
    F_kind := F28,
    g_kind := PySem.W.mg_of X G a28,
    b_kind := b28,
    xk := ⟨fun i h1 h5 => (match i, h1, h5 with | 1, _, _ => Y1 | 2, _, _ => Y2 | 3, _, _ => Y3 | 4, _, _ => Y4 | 5, _, _ => Y5 | 0, h, _ => absurd h (by decide) | (k + 6), _, h => absurd h (by omega)), fun i j h1 h5 g1 g5 => (match i, h1, h5, j, g1, g5 with | 1, _, _, 1, _, _ => kit_ref ei1 xt1 eo11 eo11 | 1, _, _, 2, _, _ => kit_ref ei2 xt2 eo22 eo12 | 1, _, _, 3, _, _ => kit_ref ei3 xt3 eo33 eo13 | 1, _, _, 4, _, _ => kit_ref ei4 xt4 eo44 eo14 | 1, _, _, 5, _, _ => kit_ref ei5 xt5 eo55 eo15 | 2, _, _, 1, _, _ => kit_ref ei1 xt1 eo11 eo21 | 2, _, _, 2, _, _ => kit_ref ei2 xt2 eo22 eo22 | 2, _, _, 3, _, _ => kit_ref ei3 xt3 eo33 eo23 | 2, _, _, 4, _, _ => kit_ref ei4 xt4 eo44 eo24 | 2, _, _, 5, _, _ => kit_ref ei5 xt5 eo55 eo25 | 3, _, _, 1, _, _ => kit_ref ei1 xt1 eo11 eo31 | 3, _, _, 2, _, _ => kit_ref ei2 xt2 eo22 eo32 | 3, _, _, 3, _, _ => kit_ref ei3 xt3 eo33 eo33 | 3, _, _, 4, _, _ => kit_ref ei4 xt4 eo44 eo34 | 3, _, _, 5, _, _ => kit_ref ei5 xt5 eo55 eo35 | 4, _, _, 1, _, _ => kit_ref ei1 xt1 eo11 eo41 | 4, _, _, 2, _, _ => kit_ref ei2 xt2 eo22 eo42 | 4, _, _, 3, _, _ => kit_ref ei3 xt3 eo33 eo43 | 4, _, _, 4, _, _ => kit_ref ei4 xt4 eo44 eo44 | 4, _, _, 5, _, _ => kit_ref ei5 xt5 eo55 eo45 | 5, _, _, 1, _, _ => kit_ref ei1 xt1 eo11 eo51 | 5, _, _, 2, _, _ => kit_ref ei2 xt2 eo22 eo52 | 5, _, _, 3, _, _ => kit_ref ei3 xt3 eo33 eo53 | 5, _, _, 4, _, _ => kit_ref ei4 xt4 eo44 eo54 | 5, _, _, 5, _, _ => kit_ref ei5 xt5 eo55 eo55 | 0, h, _, _, _, _ => absurd h (by decide) | (k + 6), _, h, _, _, _ => absurd h (by omega) | _, _, _, 0, h, _ => absurd h (by decide) | _, _, _, (k + 6), _, h => absurd h (by omega)), fun i h1 h5 => (match i, h1, h5 with | 1, _, _ => kit_ve ev1 | 2, _, _ => kit_ve ev2 | 3, _, _ => kit_ve ev3 | 4, _, _ => kit_ve ev4 | 5, _, _ => kit_ve ev5 | 0, h, _ => absurd h (by decide) | (k + 6), _, h => absurd h (by omega)), fun i h1 h5 => (match i, h1, h5 with | 1, _, _ => exm_ref ei0 xt0 xb0 ex1 | 2, _, _ => exm_ref ei0 xt0 xb0 ex2 | 3, _, _ => exm_ref ei0 xt0 xb0 ex3 | 4, _, _ => exm_ref ei0 xt0 xb0 ex4 | 5, _, _ => exm_ref ei0 xt0 xb0 ex5 | 0, h, _ => absurd h (by decide) | (k + 6), _, h => absurd h (by omega))⟩ }
  exact ⟨_, fun s v => .of_eq rfl, fun base _ _ => (ok_all (P := P) (w := w) (base := base) T 104).o27.imp (sp_law _ (fun ns _ => law_true 103 (by decide) ns []))⟩
end G
open PySem PySem.W PyProof.Rows
set_option maxRecDepth 100000 in
set_option maxHeartbeats 0 in
theorem PySem.Challenge.cw_bothreed_k03_texts_read_holds : PySem.Challenge.rw_bothreed_k03_texts_read.Holds := by
  w_on; o_law; k_head; (case hw => w_witness2)
  k_fill
  refine L2.walk_of (l := PySem.Challenge.rw_bothreed_k03_texts_read) (n := 63) (k := 209) (x := "_law_script") (CX := fun w => L2N.CX (PySem.Challenge.rw_bothreed_k03_texts_read).prog w) (sp := fun w => G.spLaw _) rfl (by decide) rfl ⟨rfl, by decide, by decide⟩ (fun w h Y => PySem.W.kIn_of Y) ?F (fun w H a ns hl hO hS => ⟨a, ns, rfl, hl, hO, hS, fun _ => rfl⟩) (fun w H s e s' c => by obtain ⟨_, _, _, _, _, _, _, _, _, _, _, _, z⟩ := c; exact z.elim)
  case F =>
    intro w mg fa h KX NsH hmg
    refine' G.all_mk KX NsH hmg ?zgC6 ?zpC6 ?zdC6 ?zoC6 ?zsC6 ?zmC6 ?zkC6 ?znC6_pattern ?znC6_many ?zgC7 ?zpC7 ?zdC7 ?zoC7 ?zsC7 ?zmC7 ?zkC7 ?znC7_branches ?znC7_halves ?znC7_held ?znC7_nots ?a0 ?l0 ?c0 ?k0 ?a1 ?l1 ?c1 ?k1 ?a2 ?i2 ?l2 ?c2 ?k2 ?a3 ?i3 ?l3 ?c3 ?k3 ?a4 ?l4 ?c4 ?k4 ?a5 ?l5 ?c5 ?k5 ?a6 ?l6 ?c6 ?k6 ?a7 ?l7 ?c7 ?k7 ?a8 ?l8 ?c8 ?k8 ?a9 ?l9 ?c9 ?k9 ?a10 ?l10 ?c10 ?k10 ?a11 ?l11 ?c11 ?k11 ?a12 ?l12 ?c12 ?k12 ?a13 ?l13 ?c13 ?k13 ?a14 ?l14 ?c14 ?k14 ?a15 ?l15 ?c15 ?k15 ?a16 ?l16 ?c16 ?k16 ?a17 ?l17 ?c17 ?k17 ?a18 ?l18 ?c18 ?k18 ?a19 ?l19 ?c19 ?k19 ?a20 ?l20 ?c20 ?k20 ?a21 ?l21 ?c21 ?k21 ?a22 ?l22 ?c22 ?k22 ?a23 ?l23 ?c23 ?k23 ?a24 ?l24 ?c24 ?k24 ?a25 ?l25 ?c25 ?k25 ?a26 ?l26 ?c26 ?k26 ?a27 ?l27 ?c27 ?k27 ?a28 ?l28 ?c28 ?k28 ?n_ValueError ?n_abs ?n_all ?n_int ?n_isinstance ?n_len ?n_range ?n_str ?n_sum ?n_tuple ?s_SMALL ?s_MOST_LETTERS ?s_MOST_NODES ?s_MOST_TEXT ?s_NONE ?v_NONE ?s_EMPTY ?v_EMPTY ?xg0 ?xx0 ?xk0 ?xb0 ?xt0 ?xg1 ?xx1 ?xk1 ?xb1 ?xt1 ?xg2 ?xx2 ?xk2 ?xb2 ?xt2 ?xg3 ?xx3 ?xk3 ?xb3 ?xt3 ?xg4 ?xx4 ?xk4 ?xb4 ?xt4 ?xg5 ?xx5 ?xk5 ?xb5 ?xt5 ?eg1 ?ek1 ?ed1 ?ea1 ?em1 ?ev1 ?ex1 ?eo11 ?eo12 ?eo13 ?eo14 ?eo15 ?eg2 ?ek2 ?ed2 ?ea2 ?em2 ?ev2 ?ex2 ?eo21 ?eo22 ?eo23 ?eo24 ?eo25 ?eg3 ?ek3 ?ed3 ?ea3 ?em3 ?ev3 ?ex3 ?eo31 ?eo32 ?eo33 ?eo34 ?eo35 ?eg4 ?ek4 ?ed4 ?ea4 ?em4 ?ev4 ?ex4 ?eo41 ?eo42 ?eo43 ?eo44 ?eo45 ?eg5 ?ek5 ?ed5 ?ea5 ?em5 ?ev5 ?ex5 ?eo51 ?eo52 ?eo53 ?eo54 ?eo55 ?ei0 ?ei1 ?ei2 ?ei3 ?ei4 ?ei5 ?en ?et
    (case zgC6 => k_is)
    (case zpC6 => k_is)
    (case zdC6 => k_is)
    (case zoC6 => k_is)
    (case zsC6 => k_is)
    (case zmC6 => k_is)
    (case zkC6 => k_is)
    (case znC6_pattern => k_is)
    (case znC6_many => k_is)
    (case zgC7 => k_is)
    (case zpC7 => k_is)
    (case zdC7 => k_is)
    (case zoC7 => k_is)
    (case zsC7 => k_is)
    (case zmC7 => k_is)
    (case zkC7 => k_is)
    (case znC7_branches => k_is)
    (case znC7_halves => k_is)
    (case znC7_held => k_is)
    (case znC7_nots => k_is)
    (case a0 => k_is)
    (case l0 => k_is)
    (case c0 => k_is)
    (case k0 => k_is)
    (case a1 => k_is)
    (case l1 => k_is)
    (case c1 => k_is)
    (case k1 => k_is)
    (case a2 => k_is)
    (case i2 => k_is)
    (case l2 => k_is)
    (case c2 => k_is)
    (case k2 => k_is)
    (case a3 => k_is)
    (case i3 => k_is)
    (case l3 => k_is)
    (case c3 => k_is)
    (case k3 => k_is)
    (case a4 => k_is)
    (case l4 => k_is)
    (case c4 => k_is)
    (case k4 => k_is)
    (case a5 => k_is)
    (case l5 => k_is)
    (case c5 => k_is)
    (case k5 => k_is)
    (case a6 => k_is)
    (case l6 => k_is)
    (case c6 => k_is)
    (case k6 => k_is)
    (case a7 => k_is)
    (case l7 => k_is)
    (case c7 => k_is)
    (case k7 => k_is)
    (case a8 => k_is)
    (case l8 => k_is)
    (case c8 => k_is)
    (case k8 => k_is)
    (case a9 => k_is)
    (case l9 => k_is)
    (case c9 => k_is)
    (case k9 => k_is)
    (case a10 => k_is)
    (case l10 => k_is)
    (case c10 => k_is)
    (case k10 => k_is)
    (case a11 => k_is)
    (case l11 => k_is)
    (case c11 => k_is)
    (case k11 => k_is)
    (case a12 => k_is)
    (case l12 => k_is)
    (case c12 => k_is)
    (case k12 => k_is)
    (case a13 => k_is)
    (case l13 => k_is)
    (case c13 => k_is)
    (case k13 => k_is)
    (case a14 => k_is)
    (case l14 => k_is)
    (case c14 => k_is)
    (case k14 => k_is)
    (case a15 => k_is)
    (case l15 => k_is)
    (case c15 => k_is)
    (case k15 => k_is)
    (case a16 => k_is)
    (case l16 => k_is)
    (case c16 => k_is)
    (case k16 => k_is)
    (case a17 => k_is)
    (case l17 => k_is)
    (case c17 => k_is)
    (case k17 => k_is)
    (case a18 => k_is)
    (case l18 => k_is)
    (case c18 => k_is)
    (case k18 => k_is)
    (case a19 => k_is)
    (case l19 => k_is)
    (case c19 => k_is)
    (case k19 => k_is)
    (case a20 => k_is)
    (case l20 => k_is)
    (case c20 => k_is)
    (case k20 => k_is)
    (case a21 => k_is)
    (case l21 => k_is)
    (case c21 => k_is)
    (case k21 => k_is)
    (case a22 => k_is)
    (case l22 => k_is)
    (case c22 => k_is)
    (case k22 => k_is)
    (case a23 => k_is)
    (case l23 => k_is)
    (case c23 => k_is)
    (case k23 => k_is)
    (case a24 => k_is)
    (case l24 => k_is)
    (case c24 => k_is)
    (case k24 => k_is)
    (case a25 => k_is)
    (case l25 => k_is)
    (case c25 => k_is)
    (case k25 => k_is)
    (case a26 => k_is)
    (case l26 => k_is)
    (case c26 => k_is)
    (case k26 => k_is)
    (case a27 => k_is)
    (case l27 => k_is)
    (case c27 => k_is)
    (case k27 => k_is)
    (case a28 => k_is)
    (case l28 => k_is)
    (case c28 => k_is)
    (case k28 => k_is)
    (case n_ValueError => k_is)
    (case n_abs => k_is)
    (case n_all => k_is)
    (case n_int => k_is)
    (case n_isinstance => k_is)
    (case n_len => k_is)
    (case n_range => k_is)
    (case n_str => k_is)
    (case n_sum => k_is)
    (case n_tuple => k_is)
    (case s_SMALL => k_is)
    (case s_MOST_LETTERS => k_is)
    (case s_MOST_NODES => k_is)
    (case s_MOST_TEXT => k_is)
    (case s_NONE => k_is)
    (case v_NONE => k_is)
    (case s_EMPTY => k_is)
    (case v_EMPTY => k_is)
    (case xg0 => k_is)
    (case xx0 => k_exc)
    (case xk0 => k_is)
    (case xb0 => k_is)
    (case xt0 => k_is)
    (case xg1 => k_is)
    (case xx1 => k_exc)
    (case xk1 => k_is)
    (case xb1 => k_is)
    (case xt1 => k_is)
    (case xg2 => k_is)
    (case xx2 => k_exc)
    (case xk2 => k_is)
    (case xb2 => k_is)
    (case xt2 => k_is)
    (case xg3 => k_is)
    (case xx3 => k_exc)
    (case xk3 => k_is)
    (case xb3 => k_is)
    (case xt3 => k_is)
    (case xg4 => k_is)
    (case xx4 => k_exc)
    (case xk4 => k_is)
    (case xb4 => k_is)
    (case xt4 => k_is)
    (case xg5 => k_is)
    (case xx5 => k_exc)
    (case xk5 => k_is)
    (case xb5 => k_is)
    (case xt5 => k_is)
    (case eg1 => k_is)
    (case ek1 => k_is)
    (case ed1 => k_is)
    (case ea1 => k_is)
    (case em1 => k_is)
    (case ev1 => k_is)
    (case ex1 => k_is)
    (case eo11 => k_is)
    (case eo12 => k_is)
    (case eo13 => k_is)
    (case eo14 => k_is)
    (case eo15 => k_is)
    (case eg2 => k_is)
    (case ek2 => k_is)
    (case ed2 => k_is)
    (case ea2 => k_is)
    (case em2 => k_is)
    (case ev2 => k_is)
    (case ex2 => k_is)
    (case eo21 => k_is)
    (case eo22 => k_is)
    (case eo23 => k_is)
    (case eo24 => k_is)
    (case eo25 => k_is)
    (case eg3 => k_is)
    (case ek3 => k_is)
    (case ed3 => k_is)
    (case ea3 => k_is)
    (case em3 => k_is)
    (case ev3 => k_is)
    (case ex3 => k_is)
    (case eo31 => k_is)
    (case eo32 => k_is)
    (case eo33 => k_is)
    (case eo34 => k_is)
    (case eo35 => k_is)
    (case eg4 => k_is)
    (case ek4 => k_is)
    (case ed4 => k_is)
    (case ea4 => k_is)
    (case em4 => k_is)
    (case ev4 => k_is)
    (case ex4 => k_is)
    (case eo41 => k_is)
    (case eo42 => k_is)
    (case eo43 => k_is)
    (case eo44 => k_is)
    (case eo45 => k_is)
    (case eg5 => k_is)
    (case ek5 => k_is)
    (case ed5 => k_is)
    (case ea5 => k_is)
    (case em5 => k_is)
    (case ev5 => k_is)
    (case ex5 => k_is)
    (case eo51 => k_is)
    (case eo52 => k_is)
    (case eo53 => k_is)
    (case eo54 => k_is)
    (case eo55 => k_is)
    (case ei0 => k_is)
    (case ei1 => k_is)
    (case ei2 => k_is)
    (case ei3 => k_is)
    (case ei4 => k_is)
    (case ei5 => k_is)
    (case en => k_is)
    (case et => k_is)
