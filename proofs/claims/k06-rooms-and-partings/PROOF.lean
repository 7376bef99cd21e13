import PyProof.Rows.All
import Wide.All
import OpenK.AllK
import Wide.FinOn
import HandS.ForMost
import HandS.ForExc
import HandS.IsInst
import HandS.ExcIs
import HandS.HotCalls
import HandS.Style
import HandS.TupMul
import HandS.TupAny
import HandS.Deep
import HandS.Zip
import HandS.TupLen
import HandS.Replace
import HandS.Small
import HandS.StrMore
import PyProof.Draws
import PyProof.EnumMake
import PyProof.Rows.TupDisplay
import KE.KDictZip
import PySem.Challenge.RW_bothreed_k06_rooms_and_partings
set_option Elab.async false
set_option linter.all false
set_option maxRecDepth 100000
set_option maxHeartbeats 8000000
/-! DEK6: to be laid as DEK.lean for laws that have tuples as keys of dicts -/
namespace DE
def TupK : Prop := False
end DE
/-! DE0: values as trees, a store of live cells, how they stand in the hand layer's abstract heap; results; the judgements. -/
namespace DE
open PySem PySem.Spec PyProof.Rows L2

abbrev St := L2.St
/-- a value: a tree; ref l: the live cell l of the store -/
inductive D where
  | non | bl (b : Bool) | int (i : Int) | str (x : Str)
  | tup (xs : List D) | lst (xs : List D) | dct (ks : List Key) (xs : List D) | ref (l : Nat) | scr (ns : List Int) | exc (c : Nat) (a : Addr) | obj (fs : List Str) (xs : List D)
instance : Inhabited D := ⟨.non⟩
/-- a live cell: what is changed -/
inductive Cell where
  | lst (xs : List D) | dK (ks : List Key) (xs : List D) | dT (ks : List (List Key)) (xs : List D) | ins (c : Nat) (fs : List Str) (xs : List D)
instance : Inhabited Cell := ⟨.lst []⟩
abbrev Store := List Cell
abbrev Env := List (Option D)

/-- where the live cells stand (rho), what is shut away (pi) -/
structure Lv where
  rho : List Addr
  pi : List Addr

def FzT (K : PySem.W.Frag) (L : Lv) (H : Hp) (a : Addr) (vs : List V) : Prop :=
  (a ∉ L.rho ∧ a ∉ L.pi ∧ H a = some (.tup vs)) ∨
    TupK ∧ ∃ (o : Obj) (its : Array Value) (n : Nat), K.lookup a = some o ∧ o.cls = .type "tuple" ∧ o.data = .seq its n ∧ its.size ≤ sizeLine ∧ Vals vs its.toList
def FzL (L : Lv) (H : Hp) (a : Addr) (vs : List V) : Prop := a ∉ L.rho ∧ a ∉ L.pi ∧ H a = some (.lst vs)
def FzD (L : Lv) (H : Hp) (a : Addr) (kvs : List (Key × V)) : Prop := a ∉ L.rho ∧ a ∉ L.pi ∧ H a = some (.dK kvs)
/-- an instance that nothing changes -/
def FzO (L : Lv) (H : Hp) (a C dx : Addr) (fvs : List (Str × V)) : Prop := a ∉ L.rho ∧ a ∉ L.pi ∧ H a = some (.ins C dx fvs)
/-- a class, its instances' attributes -/
def ClsF (K : PySem.W.Frag) (C : Addr) (fs : List Str) : Prop := Cls K C ∧ ∀ f ∈ fs, NoAttr K C f
/-- the script: a list of ints that nothing changes -/
def FzS (K : PySem.W.Frag) (L : Lv) (H : Hp) (a : Addr) (vs : List V) : Prop :=
  (a ∉ L.rho ∧ a ∉ L.pi ∧ Rd H a (.lst vs)) ∨
    ∃ (o : Obj) (its : Array Value) (n : Nat), K.lookup a = some o ∧ o.cls = .type "list" ∧ o.dict = none ∧ o.data = .seq its n ∧ its.size ≤ sizeLine ∧ Vals vs its.toList

mutual
/-- the value v stands for d -/
def RD (K : PySem.W.Frag) (L : Lv) (H : Hp) : D → V → Prop
  | .non, v => v = .non
  | .bl b, v => v = .bl b
  | .int i, v => v = .int i
  | .str x, v => v = .str x
  | .tup xs, v => ∃ a vs, v = .ref a ∧ FzT K L H a vs ∧ RDs K L H xs vs
  | .lst xs, v => ∃ a vs, v = .ref a ∧ FzL L H a vs ∧ RDs K L H xs vs
  | .dct ks xs, v => ∃ a vs, v = .ref a ∧ FzD L H a (ks.zip vs) ∧ ks.length = vs.length ∧ RDs K L H xs vs
  | .ref l, v => ∃ a, v = .ref a ∧ L.rho[l]? = some a
  | .scr ns, v => ∃ a, v = .ref a ∧ FzS K L H a (ns.map V.int)
  | .exc _ a, v => v = .ref a
  | .obj fs xs, v => ∃ a C dx vs, v = .ref a ∧ FzO L H a C dx (fs.zip vs) ∧ ClsF K C fs ∧ fs.length = vs.length ∧ RDs K L H xs vs
def RDs (K : PySem.W.Frag) (L : Lv) (H : Hp) : List D → List V → Prop
  | [], vs => vs = []
  | x :: xs, vs => ∃ w ws, vs = w :: ws ∧ RD K L H x w ∧ RDs K L H xs ws
end

/-- from one moment to a later one: what is read stands -/
structure Mono (L : Lv) (H : Hp) (L2 : Lv) (H2 : Hp) : Prop where
  rho : L.rho <+: L2.rho
  keep : ∀ b o, H b = some o → b ∉ L.rho → b ∉ L.pi → H2 b = some o ∧ b ∉ L2.rho ∧ b ∉ L2.pi
/-- .. and what is shut away, too -/
structure Keep (L : Lv) (H : Hp) (L2 : Lv) (H2 : Hp) : Prop where
  pi : L2.pi = L.pi
  rho : L.rho <+: L2.rho
  keep : ∀ b o, H b = some o → b ∉ L.rho → H2 b = some o ∧ b ∉ L2.rho
theorem Keep.mono {L L2 : Lv} {H H2 : Hp} (k : Keep L H L2 H2) : Mono L H L2 H2 :=
  ⟨k.rho, fun b o e h1 h2 => ⟨(k.keep b o e h1).1, (k.keep b o e h1).2, by rw [k.pi]; exact h2⟩⟩
theorem Keep.refl {L : Lv} {H : Hp} : Keep L H L H := ⟨rfl, List.prefix_refl _, fun _ _ e h => ⟨e, h⟩⟩
theorem Keep.trans {L L1 L2 : Lv} {H H1 H2 : Hp} (a : Keep L H L1 H1) (b : Keep L1 H1 L2 H2) : Keep L H L2 H2 :=
  ⟨b.pi.trans a.pi, a.rho.trans b.rho, fun c o e h => b.keep c o (a.keep c o e h).1 (a.keep c o e h).2⟩
theorem Mono.refl {L : Lv} {H : Hp} : Mono L H L H := Keep.refl.mono
theorem Mono.trans {L L1 L2 : Lv} {H H1 H2 : Hp} (a : Mono L H L1 H1) (b : Mono L1 H1 L2 H2) : Mono L H L2 H2 :=
  ⟨a.rho.trans b.rho, fun c o e h h' => let ⟨e1, h1, h2⟩ := a.keep c o e h h'; b.keep c o e1 h1 h2⟩
theorem prefix_get {α : Type} {l l2 : List α} (h : l <+: l2) {i : Nat} {a : α} (e : l[i]? = some a) : l2[i]? = some a := by
  obtain ⟨r, rfl⟩ := h
  rw [List.getElem?_append_left (List.getElem?_eq_some_iff.mp e).1]; exact e
section
variable {K : PySem.W.Frag} {L L2 : Lv} {H H2 : Hp}
theorem Mono.rd {a : Addr} {o : HO} (m : Mono L H L2 H2) (h1 : a ∉ L.rho) (h2 : a ∉ L.pi) (r : Rd H a o) : a ∉ L2.rho ∧ a ∉ L2.pi ∧ Rd H2 a o := by
  rcases r with e | ⟨ob, e⟩
  · obtain ⟨q, q1, q2⟩ := m.keep _ _ e h1 h2
    exact ⟨q1, q2, .inl q⟩
  · obtain ⟨q, q1, q2⟩ := m.keep _ _ e h1 h2
    exact ⟨q1, q2, .inr ⟨ob, q⟩⟩
theorem FzT.mono {a : Addr} {vs : List V} (m : Mono L H L2 H2) (h : FzT K L H a vs) : FzT K L2 H2 a vs := by
  rcases h with ⟨h1, h2, r⟩ | h
  · obtain ⟨q, q1, q2⟩ := m.keep _ _ r h1 h2
    exact .inl ⟨q1, q2, q⟩
  · exact .inr h
theorem FzS.mono {a : Addr} {vs : List V} (m : Mono L H L2 H2) (h : FzS K L H a vs) : FzS K L2 H2 a vs := by
  rcases h with ⟨h1, h2, r⟩ | h
  · exact .inl (m.rd h1 h2 r)
  · exact .inr h
theorem FzS.sq {a : Addr} {vs : List V} (h : FzS K L H a vs) : SqL K H a vs := by
  rcases h with ⟨_, _, r⟩ | h
  · exact .inl r
  · exact .inr h
theorem FzL.mono {a : Addr} {vs : List V} (m : Mono L H L2 H2) (h : FzL L H a vs) : FzL L2 H2 a vs := by
  obtain ⟨q, q1, q2⟩ := m.keep _ _ h.2.2 h.1 h.2.1
  exact ⟨q1, q2, q⟩
theorem FzD.mono {a : Addr} {kvs : List (Key × V)} (m : Mono L H L2 H2) (h : FzD L H a kvs) : FzD L2 H2 a kvs := by
  obtain ⟨q, q1, q2⟩ := m.keep _ _ h.2.2 h.1 h.2.1
  exact ⟨q1, q2, q⟩
theorem FzO.mono {a C dx : Addr} {fvs : List (Str × V)} (m : Mono L H L2 H2) (h : FzO L H a C dx fvs) : FzO L2 H2 a C dx fvs := by
  obtain ⟨q, q1, q2⟩ := m.keep _ _ h.2.2 h.1 h.2.1
  exact ⟨q1, q2, q⟩
theorem FzT.sq {a : Addr} {vs : List V} (h : FzT K L H a vs) : SqT K H a vs := by
  rcases h with ⟨_, _, r⟩ | h
  · exact .inl (.inl r)
  · exact .inr h.2
theorem FzL.sq {a : Addr} {vs : List V} (h : FzL L H a vs) : SqL K H a vs := .inl (.inl h.2.2)
mutual
theorem RD.mono (m : Mono L H L2 H2) : ∀ (d : D) (v : V), RD K L H d v → RD K L2 H2 d v
  | .non, _, h => h
  | .bl _, _, h => h
  | .int _, _, h => h
  | .str _, _, h => h
  | .tup xs, _, h => by
    simp only [RD] at h ⊢
    obtain ⟨a, vs, e, f, r⟩ := h
    exact ⟨a, vs, e, f.mono m, RDs.mono m xs vs r⟩
  | .lst xs, _, h => by
    simp only [RD] at h ⊢
    obtain ⟨a, vs, e, f, r⟩ := h
    exact ⟨a, vs, e, f.mono m, RDs.mono m xs vs r⟩
  | .dct ks xs, _, h => by
    simp only [RD] at h ⊢
    obtain ⟨a, vs, e, f, l, r⟩ := h
    exact ⟨a, vs, e, f.mono m, l, RDs.mono m xs vs r⟩
  | .ref l, _, h => by
    simp only [RD] at h ⊢
    obtain ⟨a, e, q⟩ := h
    exact ⟨a, e, prefix_get m.rho q⟩
  | .scr ns, _, h => by
    simp only [RD] at h ⊢
    obtain ⟨a, e, q⟩ := h
    exact ⟨a, e, q.mono m⟩
  | .exc _ _, _, h => h
  | .obj fs xs, _, h => by
    simp only [RD] at h ⊢
    obtain ⟨a, C, dx, vs, e, f, c, l, r⟩ := h
    exact ⟨a, C, dx, vs, e, f.mono m, c, l, RDs.mono m xs vs r⟩
theorem RDs.mono (m : Mono L H L2 H2) : ∀ (ds : List D) (vs : List V), RDs K L H ds vs → RDs K L2 H2 ds vs
  | [], _, h => h
  | x :: xs, _, h => by
    simp only [RDs] at h ⊢
    obtain ⟨w, ws, e, r, rs⟩ := h
    exact ⟨w, ws, e, RD.mono m x w r, RDs.mono m xs ws rs⟩
end
theorem RDs.nil : RDs K L H [] [] := rfl
theorem RDs.cons {x : D} {xs : List D} {v : V} {vs : List V} (h : RD K L H x v) (hs : RDs K L H xs vs) : RDs K L H (x :: xs) (v :: vs) := ⟨v, vs, rfl, h, hs⟩
theorem RDs.length : ∀ {ds : List D} {vs : List V}, RDs K L H ds vs → ds.length = vs.length
  | [], _, h => by simp only [RDs] at h; subst h; rfl
  | x :: xs, _, h => by
    simp only [RDs] at h
    obtain ⟨w, ws, rfl, _, r⟩ := h
    simp [RDs.length r]
theorem RDs.get : ∀ {ds : List D} {vs : List V} {i : Nat} {d : D}, RDs K L H ds vs → ds[i]? = some d → ∃ v, vs[i]? = some v ∧ RD K L H d v
  | [], _, _, _, _, e => by simp at e
  | x :: xs, _, i, d, h, e => by
    simp only [RDs] at h
    obtain ⟨w, ws, rfl, r, rs⟩ := h
    cases i with
    | zero => simp at e; subst e; exact ⟨w, rfl, r⟩
    | succ i => simpa using RDs.get rs (by simpa using e)
theorem RDs.get' : ∀ {ds : List D} {vs : List V} {i : Nat} {v : V}, RDs K L H ds vs → vs[i]? = some v → ∃ d, ds[i]? = some d ∧ RD K L H d v
  | [], _, _, _, h, e => by simp only [RDs] at h; subst h; simp at e
  | x :: xs, _, i, v, h, e => by
    simp only [RDs] at h
    obtain ⟨w, ws, rfl, r, rs⟩ := h
    cases i with
    | zero => simp at e; subst e; exact ⟨x, rfl, r⟩
    | succ i => simpa using RDs.get' rs (by simpa using e)
theorem RDs.append : ∀ {ds es : List D} {vs ws : List V}, RDs K L H ds vs → RDs K L H es ws → RDs K L H (ds ++ es) (vs ++ ws)
  | [], _, _, _, h, h' => by simp only [RDs] at h; subst h; exact h'
  | x :: xs, _, _, _, h, h' => by
    simp only [RDs] at h
    obtain ⟨w, ws, rfl, r, rs⟩ := h
    exact .cons r (RDs.append rs h')
theorem RDs.take : ∀ {ds : List D} {vs : List V} (n : Nat), RDs K L H ds vs → RDs K L H (ds.take n) (vs.take n)
  | _, _, 0, _ => rfl
  | [], _, n + 1, h => by simp only [RDs] at h; subst h; rfl
  | x :: xs, _, n + 1, h => by
    simp only [RDs] at h
    obtain ⟨w, ws, rfl, r, rs⟩ := h
    exact .cons r (RDs.take n rs)
theorem RDs.drop : ∀ {ds : List D} {vs : List V} (n : Nat), RDs K L H ds vs → RDs K L H (ds.drop n) (vs.drop n)
  | _, _, 0, h => h
  | [], _, n + 1, h => by simp only [RDs] at h; subst h; rfl
  | x :: xs, _, n + 1, h => by
    simp only [RDs] at h
    obtain ⟨w, ws, rfl, r, rs⟩ := h
    exact RDs.drop n rs
theorem RDs.set {d : D} {v : V} (q : RD K L H d v) : ∀ {ds : List D} {vs : List V} (i : Nat), RDs K L H ds vs → RDs K L H (ds.set i d) (vs.set i v)
  | [], _, _, h => by simp only [RDs] at h; subst h; rfl
  | x :: xs, _, 0, h => by
    simp only [RDs] at h
    obtain ⟨w, ws, rfl, r, rs⟩ := h
    exact .cons q rs
  | x :: xs, _, i + 1, h => by
    simp only [RDs] at h
    obtain ⟨w, ws, rfl, r, rs⟩ := h
    exact .cons r (RDs.set q i rs)
end

/-- a live cell as it stands -/
def CellOk (K : PySem.W.Frag) (ca : Nat → Addr) (L : Lv) (H : Hp) (a : Addr) : Cell → Prop
  | .lst xs => ∃ vs, H a = some (.lst vs) ∧ RDs K L H xs vs
  | .dK ks xs => ∃ vs, H a = some (.dK (ks.zip vs)) ∧ ks.length = vs.length ∧ RDs K L H xs vs
  | .dT ks xs => ∃ vs, H a = some (.dT (ks.zip vs)) ∧ ks.length = vs.length ∧ RDs K L H xs vs
  | .ins c fs xs => ∃ dx vs, H a = some (.ins (ca c) dx (fs.zip vs)) ∧ fs.length = vs.length ∧ ClsF K (ca c) fs ∧ RDs K L H xs vs
structure SR (K : PySem.W.Frag) (ca : Nat → Addr) (L : Lv) (s : Store) (H : Hp) : Prop where
  len : L.rho.length = s.length
  nd : L.rho.Nodup
  cell : ∀ (l : Nat) (a : Addr) (c : Cell), L.rho[l]? = some a → s[l]? = some c → CellOk K ca L H a c
  pi : ∀ b ∈ L.pi, b ∉ L.rho ∧ ∃ o, H b = some o
def ER (K : PySem.W.Frag) (L : Lv) (H : Hp) (env : Env) (σ : St) : Prop := env.length = σ.length ∧ ∀ (i : Nat) (d : D), env[i]? = some (some d) → ∃ v, σ[i]? = some (some v) ∧ RD K L H d v
section
variable {K : PySem.W.Frag} {ca : Nat → Addr} {L L2 : Lv} {H H2 : Hp} {s : Store} {env : Env} {σ : St}
theorem ER.mono (e : ER K L H env σ) (m : Mono L H L2 H2) : ER K L2 H2 env σ := ⟨e.1, fun i d h => let ⟨v, h1, h2⟩ := e.2 i d h; ⟨v, h1, RD.mono m d v h2⟩⟩
theorem ER.set {i : Nat} {d : D} {v : V} (e : ER K L H env σ) (r : RD K L H d v) : ER K L H (env.set i (some d)) (σ.set i (some v)) := by
  refine ⟨by simp [e.1], fun j d' h => ?_⟩
  by_cases hj : i = j
  · subst hj
    by_cases hl : i < env.length
    · rw [List.getElem?_set_self hl] at h
      cases h
      exact ⟨v, by rw [List.getElem?_set_self (by rw [← e.1]; exact hl)], r⟩
    · rw [List.getElem?_eq_none (by simpa using hl)] at h; cases h
  · rw [List.getElem?_set_ne hj] at h
    obtain ⟨v', h1, h2⟩ := e.2 j d' h
    exact ⟨v', by rw [List.getElem?_set_ne hj]; exact h1, h2⟩
theorem CellOk.mono {a : Addr} {c : Cell} (h : CellOk K ca L H a c) (m : Mono L H L2 H2) (e : H2 a = H a) : CellOk K ca L2 H2 a c := by
  cases c with
  | lst xs => obtain ⟨vs, h1, h2⟩ := h; exact ⟨vs, by rw [e]; exact h1, RDs.mono m _ _ h2⟩
  | dK ks xs => obtain ⟨vs, h1, h2, h3⟩ := h; exact ⟨vs, by rw [e]; exact h1, h2, RDs.mono m _ _ h3⟩
  | dT ks xs => obtain ⟨vs, h1, h2, h3⟩ := h; exact ⟨vs, by rw [e]; exact h1, h2, RDs.mono m _ _ h3⟩
  | ins k fs xs => obtain ⟨dx, vs, h1, h2, hc, h3⟩ := h; exact ⟨dx, vs, by rw [e]; exact h1, h2, hc, RDs.mono m _ _ h3⟩
theorem CellOk.some {a : Addr} {c : Cell} (h : CellOk K ca L H a c) : ∃ o, H a = some o := by
  cases c with
  | lst xs => obtain ⟨vs, h1, h2⟩ := h; exact ⟨_, h1⟩
  | dK ks xs => obtain ⟨vs, h1, h2, h3⟩ := h; exact ⟨_, h1⟩
  | dT ks xs => obtain ⟨vs, h1, h2, h3⟩ := h; exact ⟨_, h1⟩
  | ins k fs xs => obtain ⟨dx, vs, h1, h2, h3⟩ := h; exact ⟨_, h1⟩
theorem SR.at (S : SR K ca L s H) {l : Nat} {a : Addr} (e : L.rho[l]? = some a) : ∃ c, s[l]? = some c ∧ CellOk K ca L H a c := by
  have hl : l < s.length := by rw [← S.len]; exact (List.getElem?_eq_some_iff.mp e).1
  exact ⟨s[l], List.getElem?_eq_getElem hl, S.cell l a _ e (List.getElem?_eq_getElem hl)⟩
theorem SR.at' (S : SR K ca L s H) {l : Nat} {c : Cell} (e : s[l]? = some c) : ∃ a, L.rho[l]? = some a ∧ CellOk K ca L H a c := by
  have hl : l < L.rho.length := by rw [S.len]; exact (List.getElem?_eq_some_iff.mp e).1
  exact ⟨L.rho[l], List.getElem?_eq_getElem hl, S.cell l _ c (List.getElem?_eq_getElem hl) e⟩
theorem SR.fresh (S : SR K ca L s H) {p : Addr} (h : H p = none) : p ∉ L.rho ∧ p ∉ L.pi := by
  constructor
  · intro hp
    obtain ⟨l, hl⟩ := List.getElem?_of_mem hp
    obtain ⟨c, _, k⟩ := S.at hl
    obtain ⟨o, e⟩ := k.some
    rw [h] at e; cases e
  · intro hp
    obtain ⟨_, o, e⟩ := S.pi p hp
    rw [h] at e; cases e
/-- a new object that is not changed -/
theorem SR.new (S : SR K ca L s H) {p : Addr} (h : H p = none) (o : HO) : Keep L H L (upd H p o) ∧ SR K ca L s (upd H p o) := by
  have k : Keep L H L (upd H p o) := ⟨rfl, List.prefix_refl _, fun b u e hb => ⟨by rw [upd_ne (ne_of_none e h)]; exact e, hb⟩⟩
  refine ⟨k, S.len, S.nd, fun l a c e1 e2 => ?_, fun b hb => ⟨(S.pi b hb).1, ?_⟩⟩
  · have q := S.cell l a c e1 e2
    refine q.mono k.mono ?_
    obtain ⟨u, hu⟩ := q.some
    rw [upd_ne (ne_of_none hu h)]
  · obtain ⟨u, hu⟩ := (S.pi b hb).2
    exact ⟨u, by rw [upd_ne (ne_of_none hu h)]; exact hu⟩
/-- a new live cell -/
theorem SR.alloc (S : SR K ca L s H) {p : Addr} (h : H p = none) {o : HO} {c : Cell} (hc : CellOk K ca ⟨L.rho ++ [p], L.pi⟩ (upd H p o) p c) :
    Keep L H ⟨L.rho ++ [p], L.pi⟩ (upd H p o) ∧ SR K ca ⟨L.rho ++ [p], L.pi⟩ (s ++ [c]) (upd H p o) := by
  have f := S.fresh h
  have k : Keep L H ⟨L.rho ++ [p], L.pi⟩ (upd H p o) := ⟨rfl, List.prefix_append _ _, fun b u e hb => ⟨by rw [upd_ne (ne_of_none e h)]; exact e, by
    intro hm
    rcases List.mem_append.mp hm with hm | hm
    · exact hb hm
    · simp at hm; subst hm; rw [h] at e; cases e⟩⟩
  refine ⟨k, by simp [S.len], ?_, fun l a c' e1 e2 => ?_, fun b hb => ?_⟩
  · show (L.rho ++ [p]).Nodup
    rw [List.nodup_append]
    exact ⟨S.nd, by simp, fun a ha b hb => by simp at hb; subst hb; rintro rfl; exact f.1 ha⟩
  · by_cases hl : l < L.rho.length
    · have e1' : L.rho[l]? = some a := by rw [← e1]; exact (List.getElem?_append_left hl).symm
      have e2' : s[l]? = some c' := by rw [← e2]; exact (List.getElem?_append_left (by rw [← S.len]; exact hl)).symm
      have q := S.cell l a c' e1' e2'
      refine q.mono k.mono ?_
      obtain ⟨u, hu⟩ := q.some
      rw [upd_ne (ne_of_none hu h)]
    · have hl2 : l = L.rho.length := by
        have := (List.getElem?_eq_some_iff.mp e1).1
        simp at this; omega
      subst hl2
      have e1' : p = a := by simpa using e1
      have e2' : c = c' := by rw [S.len] at e2; simpa using e2
      subst e1'; subst e2'
      exact hc
  · obtain ⟨h1, u, hu⟩ := S.pi b hb
    refine ⟨fun hm => ?_, u, by rw [upd_ne (ne_of_none hu h)]; exact hu⟩
    rcases List.mem_append.mp hm with hm | hm
    · exact h1 hm
    · simp at hm; subst hm; rw [h] at hu; cases hu
/-- a live cell is written -/
theorem SR.write (S : SR K ca L s H) {l : Nat} {a : Addr} (e : L.rho[l]? = some a) {o : HO} {c : Cell} (hc : CellOk K ca L (upd H a o) a c) : Keep L H L (upd H a o) ∧ SR K ca L (s.set l c) (upd H a o) := by
  have ha : a ∈ L.rho := List.mem_of_getElem? e
  have k : Keep L H L (upd H a o) := ⟨rfl, List.prefix_refl _, fun b u eb hb => ⟨by rw [upd_ne (show b ≠ a from fun z => hb (by rw [z]; exact ha))]; exact eb, hb⟩⟩
  refine ⟨k, by simp [S.len], S.nd, fun j b c' e1 e2 => ?_, fun b hb => ?_⟩
  · by_cases hj : l = j
    · subst hj
      rw [e] at e1; cases e1
      have hl : l < s.length := by rw [← S.len]; exact (List.getElem?_eq_some_iff.mp e).1
      rw [List.getElem?_set_self hl] at e2
      cases e2
      exact hc
    · rw [List.getElem?_set_ne hj] at e2
      refine (S.cell j b c' e1 e2).mono k.mono ?_
      rw [upd_ne]
      rintro rfl
      exact hj (nd_ix S.nd e e1)
  · obtain ⟨h1, u, hu⟩ := S.pi b hb
    exact ⟨h1, u, by rw [upd_ne (show b ≠ a from fun z => h1 (by rw [z]; exact ha))]; exact hu⟩
end

/-! ### results -/
inductive R (α : Type) where
  | ok (a : α) (s : Store) | exc (c : Nat) (s : Store) | bad
def R.bind {α β : Type} (r : R α) (k : α → Store → R β) : R β := match r with
  | .ok a s => k a s
  | .exc c s => .exc c s
  | .bad => .bad
@[simp] theorem R.bind_ok {α β : Type} (a : α) (s : Store) (k : α → Store → R β) : (R.ok a s).bind k = k a s := rfl
@[simp] theorem R.bind_exc {α β : Type} (c : Nat) (s : Store) (k : α → Store → R β) : (R.exc c s : R α).bind k = .exc c s := rfl
@[simp] theorem R.bind_bad {α β : Type} (k : α → Store → R β) : (R.bad : R α).bind k = .bad := rfl
theorem R.bind_assoc {α β γ : Type} (r : R α) (k : α → Store → R β) (k2 : β → Store → R γ) : (r.bind k).bind k2 = r.bind fun a s => (k a s).bind k2 := by cases r <;> rfl
abbrev EM := Env → Store → R D
abbrev TM := Env → Store → R Bool
abbrev AM := Env → Store → R (List D)
/-- a result's reading: what is wanted of each value that may stand for it -/
def post {α β : Type} (K : PySem.W.Frag) (ca : Nat → Addr) (RA : Lv → Hp → α → β → Prop) (L : Lv) (H : Hp) (r : R α) (Q : β → Hp → Prop) (E : Nat → Hp → Prop) : Prop := match r with
  | .ok a s => ∀ L' b H', Keep L H L' H' → SR K ca L' s H' → RA L' H' a b → Q b H'
  | .exc c s => ∀ L' H', Keep L H L' H' → SR K ca L' s H' → E c H'
  | .bad => False
section
variable {α β γ δ : Type} {K : PySem.W.Frag} {ca : Nat → Addr} {RA : Lv → Hp → α → β → Prop} {RB : Lv → Hp → γ → δ → Prop} {L L2 : Lv} {H H2 : Hp} {r : R α} {Q Q' : β → Hp → Prop} {E E' : Nat → Hp → Prop}
theorem post.from (p : post K ca RA L H r Q E) (k : Keep L H L2 H2) : post K ca RA L2 H2 r Q E := by
  cases r with
  | ok a s => exact fun L' b H' k' => p L' b H' (k.trans k')
  | exc c s => exact fun L' H' k' => p L' H' (k.trans k')
  | bad => exact p
theorem post.imp (p : post K ca RA L H r Q E) (h : ∀ b H', Q b H' → Q' b H') : post K ca RA L H r Q' E := by
  cases r with
  | ok a s => exact fun L' b H' k S q => h _ _ (p L' b H' k S q)
  | exc c s => exact p
  | bad => exact p
theorem post.impE (p : post K ca RA L H r Q E) (h : ∀ c H', E c H' → E' c H') : post K ca RA L H r Q E' := by
  cases r with
  | ok a s => exact p
  | exc c s => exact fun L' H' k S => h _ _ (p L' H' k S)
  | bad => exact p
/-- what is had behind the first of two -/
structure Had (K : PySem.W.Frag) (ca : Nat → Addr) (RA : Lv → Hp → α → β → Prop) (L : Lv) (H : Hp) (b : β) (H1 : Hp) (C : α → Lv → Store → Prop) : Prop where
  ex : ∃ L1 s1 a, Keep L H L1 H1 ∧ SR K ca L1 s1 H1 ∧ RA L1 H1 a b ∧ C a L1 s1
theorem post.bind {k : α → Store → R γ} {Q2 : δ → Hp → Prop} (p : post K ca RB L H (r.bind k) Q2 E) :
    post K ca RA L H r (fun b H1 => ∃ L1 s1 a, Keep L H L1 H1 ∧ SR K ca L1 s1 H1 ∧ RA L1 H1 a b ∧ post K ca RB L1 H1 (k a s1) Q2 E) E := by
  cases r with
  | ok a s => exact fun L' b H' k' S q => ⟨L', s, a, k', S, q, p.from k'⟩
  | exc c s => exact p
  | bad => exact p
end
/-! ### judgements -/
def wE (ca : Nat → Addr) (W : WX) (σ : St) : Nat → Hp → Prop := fun c H' => W (.ref (ca c)) none σ H'
def tE (K : PySem.W.Frag) (ca : Nat → Addr) (W : WX) (m : EM) : TE := fun σ H Q => ∃ L env s, SR K ca L s H ∧ ER K L H env σ ∧ post K ca (RD K) L H (m env s) Q (wE ca W σ)
def tT (K : PySem.W.Frag) (ca : Nat → Addr) (W : WX) (m : TM) : TT := fun σ H Q => ∃ L env s, SR K ca L s H ∧ ER K L H env σ ∧ post K ca (fun _ _ a b => a = b) L H (m env s) Q (wE ca W σ)
def tA (K : PySem.W.Frag) (ca : Nat → Addr) (W : WX) (m : AM) : TA := fun σ H Q => ∃ L env s, SR K ca L s H ∧ ER K L H env σ ∧ post K ca (RDs K) L H (m env s) Q (wE ca W σ)
/-- the expression e is worked by m -/
def DE (X : Cx) (ca : Nat → Addr) (W : WX) (e : Expr) (m : EM) : Prop := PE X e (tE X.K ca W m)
def DT (X : Cx) (ca : Nat → Addr) (W : WX) (e : Expr) (m : TM) : Prop := PT X e (tT X.K ca W m)
def DW (X : Cx) (ca : Nat → Addr) (W : WX) (e : Expr) (m : TM) : Prop := PW X e (tT X.K ca W m)
def DA (X : Cx) (ca : Nat → Addr) (W : WX) (es : List Expr) (m : AM) : Prop := PA X es (tA X.K ca W m)
theorem PE.imp {X : Cx} {e : Expr} {t t' : TE} (h : PE X e t) (i : ∀ σ H Q, t' σ H Q → t σ H Q) : PE X e t' := ⟨fun pins s σ H Q I q => h.run pins s σ H Q I (i σ H Q q)⟩
theorem PT.imp {X : Cx} {e : Expr} {t t' : TT} (h : PT X e t) (i : ∀ σ H Q, t' σ H Q → t σ H Q) : PT X e t' := ⟨fun pins s σ H Q I q => h.run pins s σ H Q I (i σ H Q q)⟩
theorem PW.imp {X : Cx} {e : Expr} {t t' : TT} (h : PW X e t) (i : ∀ σ H Q, t' σ H Q → t σ H Q) : PW X e t' := ⟨fun w pins s σ H Q I q => h.run w pins s σ H Q I (i σ H Q q)⟩
theorem PA.imp {X : Cx} {e : List Expr} {t t' : TA} (h : PA X e t) (i : ∀ σ H Q, t' σ H Q → t σ H Q) : PA X e t' := ⟨fun p pins s σ H Q I q => h.run p pins s σ H Q I (i σ H Q q)⟩
theorem PS.imp {X : Cx} {e : Stmt} {t t' : TS} (h : PS X e t) (i : ∀ D σ H, t' D σ H → t D σ H) : PS X e t' := ⟨fun pins s σ H D I q => h.run pins s σ H D I (i D σ H q)⟩
theorem PSs.imp {X : Cx} {e : List Stmt} {t t' : TS} (h : PSs X e t) (i : ∀ D σ H, t' D σ H → t D σ H) : PSs X e t' := ⟨fun pins s σ H D I q => h.run pins s σ H D I (i D σ H q)⟩
theorem PG.imp {X : Cx} {e : Expr} {t t' : TG} (h : PG X e t) (i : ∀ v σ H Q, t' v σ H Q → t v σ H Q) : PG X e t' := ⟨fun pins s σ H v u Q I r q => h.run pins s σ H v u Q I r (i v σ H Q q)⟩
theorem PGs.imp {X : Cx} {e : List Expr} {t t' : TGs} (h : PGs X e t) (i : ∀ v σ H Q, t' v σ H Q → t v σ H Q) : PGs X e t' := ⟨fun pins s σ H v u Q I r q => h.run pins s σ H v u Q I r (i v σ H Q q)⟩
theorem PI.imp {X : Cx} {tg e : Expr} {t t' : TI} (h : PI X tg e t) (i : ∀ σ H Q, t' σ H Q → t σ H Q) : PI X tg e t' := ⟨fun pins s σ H Q I q => h.run pins s σ H Q I (i σ H Q q)⟩
end DE
/-! DE1: names, constants, operators, comparisons, tests, displays, subscripts -/
namespace DE
open PySem PySem.Spec PyProof.Rows L2
section
variable {X : Cx} {ca : Nat → Addr} {W : WX} {e a b c : Expr} {es : List Expr} {m ma mb mc : EM} {pos : Pos} {L : Lv} {H : Hp} {s : Store}

/-! ### names and constants -/
def eVar (i : Nat) : EM := fun env s => match env[i]? with | some (some d) => .ok d s | _ => .bad
def eC (d : D) : EM := fun _ s => .ok d s
theorem de_var (i : Nat) {x : Str} {pos : Pos} (hN : X.N[i]? = some x := by rfl) (hv : Vis X.env.scope x := by first | exact Or.inl rfl | exact Or.inr (Or.inl rfl) | exact Or.inr (Or.inr rfl)) (hd : (x == ("__debug__" : Str)) = false := by decide)
    (hcd : (x == ("__classdict__" : Str)) = false := by decide) : DE X ca W (.Name x pos) (eVar i) := PE.imp (pe_var hN hv hd hcd) fun σ H Q ⟨L, env, s, S, e, p⟩ => by
  unfold eVar at p
  cases h : env[i]? with
  | none => rw [h] at p; exact p.elim
  | some o =>
    cases o with
    | none => rw [h] at p; exact p.elim
    | some d =>
      rw [h] at p
      obtain ⟨v, hv, r⟩ := e.2 i d h
      exact ⟨v, hv, p L v H Keep.refl S r⟩
theorem de_const {v : V} {d : D} (h : PE X e (tC v)) (r : ∀ L H, RD X.K L H d v) : DE X ca W e (eC d) := PE.imp h fun σ H Q ⟨L, env, s, S, e, p⟩ => p L v H Keep.refl S (r L H)
theorem de_int {i : Int} {j : Nat} {pos : Pos} : DE X ca W (.Constant (.int i) j pos) (eC (.int i)) := de_const pe_int fun _ _ => rfl
theorem de_str {x : Str} {j : Nat} {pos : Pos} : DE X ca W (.Constant (.str x) j pos) (eC (.str x)) := de_const pe_str fun _ _ => rfl
theorem de_bl {b : Bool} {j : Nat} {pos : Pos} : DE X ca W (.Constant (.bool b) j pos) (eC (.bl b)) := de_const pe_bl fun _ _ => rfl
theorem de_non {j : Nat} {pos : Pos} : DE X ca W (.Constant .none j pos) (eC .non) := de_const pe_non fun _ _ => rfl
/-- a module's constant -/
theorem de_glob {x : Str} {u : Value} {v : V} {d : D} (hg : Gl X x) (hm : X.mg x = some u) (r : RelV v u) (rd : ∀ L H, RD X.K L H d v) (hd : (x == ("__debug__" : Str)) = false := by decide) : DE X ca W (.Name x pos) (eC d) :=
  de_const (pe_glob hg hm r hd) rd

/-! ### operators -/
/-- what an operator does with two values, and the hand layer's reading -/
def Imp2 (K : PySem.W.Frag) (ca : Nat → Addr) (f : D → D → Store → R D) (r : R2) : Prop := ∀ (L : Lv) (H : Hp) (s : Store) (x y : D) (v u : V) (Q : VK) (E : Nat → Hp → Prop),
  SR K ca L s H → RD K L H x v → RD K L H y u → post K ca (RD K) L H (f x y s) Q E → r v u H Q
def e2 (f : D → D → Store → R D) (ma mb : EM) : EM := fun env s => (ma env s).bind fun x s => (mb env s).bind fun y s => f x y s
theorem tOp_of {f : D → D → Store → R D} {r : R2} (hi : Imp2 X.K ca f r) : ∀ σ H Q, tE X.K ca W (e2 f ma mb) σ H Q → tOp r (tE X.K ca W ma) (tE X.K ca W mb) σ H Q := fun σ H Q ⟨L, env, s, S, e, p⟩ =>
  ⟨L, env, s, S, e, p.bind.imp fun v H1 ⟨L1, s1, d, k1, S1, r1, p1⟩ => ⟨L1, env, s1, S1, e.mono k1.mono, p1.bind.imp fun u H2 ⟨L2, s2, d2, k2, S2, r2, p2⟩ => hi L2 H2 s2 d d2 v u Q _ S2 (RD.mono k2.mono _ _ r1) r2 p2⟩⟩
theorem de_bin {op : Operator} {f : D → D → Store → R D} {r : R2} (ho : OpR X (binaryOp op) r) (hi : Imp2 X.K ca f r) (ha : DE X ca W a ma) (hb : DE X ca W b mb) : DE X ca W (.BinOp a op b pos) (e2 f ma mb) :=
  PE.imp (pe_op ho ha hb) (tOp_of hi)
theorem de_cmp {op : CmpOp} {f : D → D → Store → R D} {r : R2} (ho : OpR X (compareOp op) r) (hi : Imp2 X.K ca f r) (ha : DE X ca W a ma) (hb : DE X ca W b mb) (hm : behindInMarks op b = false := by rfl) : DE X ca W (.Compare a [op] [b] pos) (e2 f ma mb) :=
  PE.imp (pe_cmpR ho ha hb hm) (tOp_of hi)
/-- a chain of two -/
def eChain (f g : D → D → Store → R D) (ma mb mc : EM) : EM := fun env s => (ma env s).bind fun x s => (mb env s).bind fun y s => (f x y s).bind fun z s => match z with
  | .bl true => (mc env s).bind fun w s => g y w s
  | .bl false => .ok (.bl false) s
  | _ => .bad
theorem de_chain {op op' : CmpOp} {f g : D → D → Store → R D} {r r' : R2} (ho : OpR X (compareOp op) r) (ho' : OpR X (compareOp op') r') (hi : Imp2 X.K ca f r) (hi' : Imp2 X.K ca g r') (ha : DE X ca W a ma) (hb : DE X ca W b mb) (hc : DE X ca W c mc)
    (hm : lastMarks [op, op'] [b, c] = false := by with_unfolding_all rfl) : DE X ca W (.Compare a [op, op'] [b, c] pos) (eChain f g ma mb mc) :=
  PE.imp (pe_chain ho ho' ha hb hc hm) fun σ H Q ⟨L, env, s, S, e, p⟩ =>
    ⟨L, env, s, S, e, p.bind.imp fun v H1 ⟨L1, s1, d, k1, S1, r1, p1⟩ => ⟨L1, env, s1, S1, e.mono k1.mono, p1.bind.imp fun u H2 ⟨L2, s2, d2, k2, S2, r2, p2⟩ =>
      hi L2 H2 s2 d d2 v u _ _ S2 (RD.mono k2.mono _ _ r1) r2 (p2.bind.imp fun z H3 ⟨L3, s3, d3, k3, S3, r3, p3⟩ => by
        cases d3 with
        | bl q =>
          simp only [RD] at r3
          refine ⟨q, r3, ?_⟩
          cases q with
          | true =>
            refine iteT ⟨L3, env, s3, S3, ((e.mono k1.mono).mono k2.mono).mono k3.mono, p3.bind.imp fun w' H4 ⟨L4, s4, d4, k4, S4, r4, p4⟩ => ?_⟩
            exact hi' L4 H4 s4 d2 d4 u w' Q _ S4 (RD.mono k4.mono _ _ (RD.mono k3.mono _ _ r2)) r4 p4
          | false => exact iteF (p3 L3 _ H3 Keep.refl S3 rfl)
        | _ => exact p3.elim)⟩⟩

/-! ### lists that are read -/
def rdL (s : Store) : D → Option (List D)
  | .lst xs => some xs
  | .ref l => match s[l]? with | some (.lst xs) => some xs | _ => none
  | _ => none
theorem rdL_ok {K : PySem.W.Frag} (S : SR K ca L s H) {d : D} {v : V} {xs : List D} (r : RD K L H d v) (e : rdL s d = some xs) : ∃ a vs, v = .ref a ∧ H a = some (.lst vs) ∧ RDs K L H xs vs := by
  cases d with
  | lst ys =>
    cases e
    simp only [RD] at r
    obtain ⟨a, vs, e, f, q⟩ := r
    exact ⟨a, vs, e, f.2.2, q⟩
  | ref l =>
    simp only [RD] at r
    obtain ⟨a, rfl, ea⟩ := r
    obtain ⟨c, ec, k⟩ := S.at ea
    unfold rdL at e
    simp only [ec] at e
    cases c with
    | lst ys => cases e; obtain ⟨vs, h1, h2⟩ := k; exact ⟨a, vs, rfl, h1, h2⟩
    | _ => cases e
  | _ => cases e
end
end DE
/-! DE2: freezing, equality, operators -/
namespace DE
open PySem PySem.Spec PyProof.Rows L2

/-! ### refs put in -/
mutual
def sub (f : Nat → Option D) : D → Option D
  | .tup xs => (subs f xs).map .tup
  | .lst xs => (subs f xs).map .lst
  | .dct ks xs => (subs f xs).map (.dct ks)
  | .ref l => f l
  | .scr ns => some (.scr ns)
  | .exc c a => some (.exc c a)
  | .obj fs xs => (subs f xs).map (.obj fs)
  | .non => some .non
  | .bl b => some (.bl b)
  | .int i => some (.int i)
  | .str x => some (.str x)
def subs (f : Nat → Option D) : List D → Option (List D)
  | [] => some []
  | x :: xs => match sub f x with
    | none => none
    | some y => match subs f xs with
      | none => none
      | some ys => some (y :: ys)
end
/-- the cells from n on by what they hold, k deep -/
def fr (s : Store) (n : Nat) : Nat → Nat → Option D
  | 0, l => if l < n then some (.ref l) else none
  | k + 1, l => if l < n then some (.ref l) else match s[l]? with
    | some (.lst xs) => (subs (fr s n k) xs).map .lst
    | some (.dK ks xs) => (subs (fr s n k) xs).map (.dct ks)
    | some (.ins _ fs xs) => (subs (fr s n k) xs).map (.obj fs)
    | _ => none
abbrev frz (s : Store) (n : Nat) (d : D) : Option D := sub (fr s n 3) d
mutual
/-- no ref within -/
def pureD : D → Bool
  | .tup xs => pureDs xs
  | .lst xs => pureDs xs
  | .dct _ xs => pureDs xs
  | .ref _ => false
  | .scr _ => true
  | .exc _ _ => true
  | .obj _ xs => pureDs xs
  | .non => true
  | .bl _ => true
  | .int _ => true
  | .str _ => true
def pureDs : List D → Bool
  | [] => true
  | x :: xs => pureD x && pureDs xs
end
mutual
theorem sub_pure (f : Nat → Option D) : ∀ d : D, pureD d = true → sub f d = some d
  | .tup xs, h => by simp only [sub]; rw [subs_pure f xs (by simpa only [pureD] using h)]; rfl
  | .lst xs, h => by simp only [sub]; rw [subs_pure f xs (by simpa only [pureD] using h)]; rfl
  | .dct ks xs, h => by simp only [sub]; rw [subs_pure f xs (by simpa only [pureD] using h)]; rfl
  | .ref l, h => by simp [pureD] at h
  | .scr _, _ => by simp only [sub]
  | .exc _ _, _ => by simp only [sub]
  | .obj fs xs, h => by simp only [sub]; rw [subs_pure f xs (by simpa only [pureD] using h)]; rfl
  | .non, _ => by simp only [sub]
  | .bl _, _ => by simp only [sub]
  | .int _, _ => by simp only [sub]
  | .str _, _ => by simp only [sub]
theorem subs_pure (f : Nat → Option D) : ∀ ds : List D, pureDs ds = true → subs f ds = some ds
  | [], _ => by simp only [subs]
  | x :: xs, h => by
    simp only [pureDs, Bool.and_eq_true] at h
    simp only [subs]; rw [sub_pure f x h.1, subs_pure f xs h.2]
end
theorem pureDs_append {xs ys : List D} : pureDs (xs ++ ys) = (pureDs xs && pureDs ys) := by
  induction xs with
  | nil => simp [pureDs]
  | cons x xs ih => simp [pureDs, ih, Bool.and_assoc]
theorem pureDs_all {xs : List D} : pureDs xs = true ↔ ∀ x ∈ xs, pureD x = true := by
  induction xs with
  | nil => simp [pureDs]
  | cons x xs ih => simp [pureDs, ih]

section
variable {K : PySem.W.Frag} {ca : Nat → Addr} {L L0 : Lv} {H : Hp} {s : Store} {n : Nat}
/-- the moment L0 within L: its cells are the first n -/
structure Within (L0 L : Lv) (n : Nat) : Prop where
  rho : L0.rho <+: L.rho
  len : L0.rho.length = n
  pi : L.pi = L0.pi
theorem Within.out (w : Within L0 L n) {a : Addr} (h : a ∉ L.rho) : a ∉ L0.rho := fun z => h (w.rho.subset z)
theorem Within.outp (w : Within L0 L n) {a : Addr} (h : a ∉ L.pi) : a ∉ L0.pi := by rw [← w.pi]; exact h
theorem FzT.within (w : Within L0 L n) {a : Addr} {vs : List V} (h : FzT K L H a vs) : FzT K L0 H a vs := by
  rcases h with ⟨h1, h2, r⟩ | h
  · exact .inl ⟨w.out h1, w.outp h2, r⟩
  · exact .inr h
theorem FzS.within (w : Within L0 L n) {a : Addr} {vs : List V} (h : FzS K L H a vs) : FzS K L0 H a vs := by
  rcases h with ⟨h1, h2, r⟩ | h
  · exact .inl ⟨w.out h1, w.outp h2, r⟩
  · exact .inr h
mutual
theorem sub_ok (w : Within L0 L n) {f : Nat → Option D} (hf : ∀ l d v, f l = some d → RD K L H (.ref l) v → RD K L0 H d v) : ∀ (d : D) (v : V) (d' : D), sub f d = some d' → RD K L H d v → RD K L0 H d' v
  | .tup xs, v, d', e, r => by
    simp only [sub] at e
    cases q : subs f xs with
    | none => rw [q] at e; cases e
    | some ys =>
      rw [q] at e; cases e
      simp only [RD] at r ⊢
      obtain ⟨a, vs, e, h, rs⟩ := r
      exact ⟨a, vs, e, h.within w, subs_ok w hf xs vs ys q rs⟩
  | .lst xs, v, d', e, r => by
    simp only [sub] at e
    cases q : subs f xs with
    | none => rw [q] at e; cases e
    | some ys =>
      rw [q] at e; cases e
      simp only [RD] at r ⊢
      obtain ⟨a, vs, e, h, rs⟩ := r
      exact ⟨a, vs, e, ⟨w.out h.1, w.outp h.2.1, h.2.2⟩, subs_ok w hf xs vs ys q rs⟩
  | .dct ks xs, v, d', e, r => by
    simp only [sub] at e
    cases q : subs f xs with
    | none => rw [q] at e; cases e
    | some ys =>
      rw [q] at e; cases e
      simp only [RD] at r ⊢
      obtain ⟨a, vs, e, h, l, rs⟩ := r
      exact ⟨a, vs, e, ⟨w.out h.1, w.outp h.2.1, h.2.2⟩, l, subs_ok w hf xs vs ys q rs⟩
  | .ref l, v, d', e, r => by
    simp only [sub] at e
    exact hf l d' v e r
  | .scr ns, v, d', e, r => by
    simp only [sub] at e; cases e
    simp only [RD] at r ⊢
    obtain ⟨a, rfl, q⟩ := r
    exact ⟨a, rfl, q.within w⟩
  | .exc _ _, v, d', e, r => by simp only [sub] at e; cases e; exact r
  | .obj fs xs, v, d', e, r => by
    simp only [sub] at e
    cases q : subs f xs with
    | none => rw [q] at e; cases e
    | some ys =>
      rw [q] at e; cases e
      simp only [RD] at r ⊢
      obtain ⟨a, C, dx, vs, e, h, c, l, rs⟩ := r
      exact ⟨a, C, dx, vs, e, ⟨w.out h.1, w.outp h.2.1, h.2.2⟩, c, l, subs_ok w hf xs vs ys q rs⟩
  | .non, v, d', e, r => by simp only [sub] at e; cases e; exact r
  | .bl _, v, d', e, r => by simp only [sub] at e; cases e; exact r
  | .int _, v, d', e, r => by simp only [sub] at e; cases e; exact r
  | .str _, v, d', e, r => by simp only [sub] at e; cases e; exact r
theorem subs_ok (w : Within L0 L n) {f : Nat → Option D} (hf : ∀ l d v, f l = some d → RD K L H (.ref l) v → RD K L0 H d v) : ∀ (ds : List D) (vs : List V) (ds' : List D), subs f ds = some ds' → RDs K L H ds vs → RDs K L0 H ds' vs
  | [], vs, ds', e, r => by simp only [subs] at e; cases e; exact r
  | x :: xs, vs, ds', e, r => by
    simp only [subs] at e
    cases q : sub f x with
    | none => rw [q] at e; cases e
    | some y =>
      rw [q] at e
      cases q2 : subs f xs with
      | none => rw [q2] at e; cases e
      | some ys =>
        rw [q2] at e; cases e
        simp only [RDs] at r
        obtain ⟨u, us, rfl, r1, r2⟩ := r
        exact .cons (sub_ok w hf x u y q r1) (subs_ok w hf xs us ys q2 r2)
end
theorem fr_ok (w : Within L0 L n) (S : SR K ca L s H) : ∀ (k l : Nat) (d : D) (v : V), fr s n k l = some d → RD K L H (.ref l) v → RD K L0 H d v := by
  have old : ∀ (l : Nat) (d : D) (v : V), (l < n → some (D.ref l) = some d → RD K L H (.ref l) v → RD K L0 H d v) := fun l d v hl e r => by
    cases e
    simp only [RD] at r ⊢
    obtain ⟨a, rfl, ea⟩ := r
    refine ⟨a, rfl, ?_⟩
    obtain ⟨t, ht⟩ := w.rho
    rw [← ht, List.getElem?_append_left (by rw [w.len]; exact hl)] at ea
    exact ea
  have out : ∀ {l : Nat} {a : Addr}, ¬ l < n → L.rho[l]? = some a → a ∉ L0.rho := fun {l a} hl ea hm => by
    obtain ⟨j, hj⟩ := List.getElem?_of_mem hm
    have hjn : j < n := by rw [← w.len]; exact (List.getElem?_eq_some_iff.mp hj).1
    have e2 := prefix_get w.rho hj
    have := nd_ix S.nd ea e2
    omega
  intro k
  induction k with
  | zero =>
    intro l d v e r
    unfold fr at e
    split at e
    · rename_i hl
      exact old l d v hl e r
    · cases e
  | succ k ih =>
    intro l d v e r
    unfold fr at e
    split at e
    · rename_i hl
      exact old l d v hl e r
    · rename_i hl
      have r' := r
      simp only [RD] at r'
      obtain ⟨a, rfl, ea⟩ := r'
      obtain ⟨c, ec, kk⟩ := S.at ea
      have hpi : a ∉ L0.pi := fun z => (S.pi a (by rw [w.pi]; exact z)).1 (List.mem_of_getElem? ea)
      rw [ec] at e
      cases c with
      | lst xs =>
        obtain ⟨vs, h1, h2⟩ := kk
        cases q : subs (fr s n k) xs with
        | none => simp only [q] at e; cases e
        | some ys =>
          simp only [q] at e; cases e
          simp only [RD]
          exact ⟨a, vs, rfl, ⟨out hl ea, hpi, h1⟩, subs_ok w ih xs vs ys q h2⟩
      | dK ks xs =>
        obtain ⟨vs, h1, h3, h2⟩ := kk
        cases q : subs (fr s n k) xs with
        | none => simp only [q] at e; cases e
        | some ys =>
          simp only [q] at e; cases e
          simp only [RD]
          exact ⟨a, vs, rfl, ⟨out hl ea, hpi, h1⟩, h3, subs_ok w ih xs vs ys q h2⟩
      | dT ks xs => cases e
      | ins c fs xs =>
        obtain ⟨dx, vs, h1, h3, hc, h2⟩ := kk
        cases q : subs (fr s n k) xs with
        | none => simp only [q] at e; cases e
        | some ys =>
          simp only [q] at e; cases e
          simp only [RD]
          exact ⟨a, _, dx, vs, rfl, ⟨out hl ea, hpi, h1⟩, hc, h3, subs_ok w ih xs vs ys q h2⟩
theorem frz_ok (w : Within L0 L n) (S : SR K ca L s H) {d d' : D} {v : V} (e : frz s n d = some d') (r : RD K L H d v) : RD K L0 H d' v := sub_ok w (fr_ok w S 3) d v d' e r
end

/-! ### equality -/
mutual
def pyOf : D → PyData
  | .tup xs => .tuple (pyOfs xs)
  | .lst xs => .list (pyOfs xs)
  | .dct _ _ => .dict []
  | .ref _ => .dict []
  | .scr _ => .dict []
  | .exc _ _ => .dict []
  | .obj _ _ => .dict []
  | .non => .none
  | .bl b => .bool b
  | .int i => .int i
  | .str x => .str x
def pyOfs : List D → List PyData
  | [] => []
  | x :: xs => pyOf x :: pyOfs xs
end
mutual
/-- may be compared: no dict, no ref; its texts are texts -/
def layD : D → Bool
  | .tup xs => layDs xs
  | .lst xs => layDs xs
  | .dct _ _ => false
  | .ref _ => false
  | .scr _ => false
  | .exc _ _ => false
  | .obj _ _ => false
  | .non => true
  | .bl _ => true
  | .int _ => true
  | .str x => strOk' x
def layDs : List D → Bool
  | [] => true
  | x :: xs => layD x && layDs xs
def strOk' (x : Str) : Bool := x.cps.all (· < 0x110000)
end
mutual
def depD : D → Nat
  | .tup xs => depDs xs + 1
  | .lst xs => depDs xs + 1
  | _ => 0
def depDs : List D → Nat
  | [] => 0
  | x :: xs => max (depD x) (depDs xs)
end
mutual
theorem lay_py : ∀ d : D, layD d = true → (pyOf d).canLay0 = true ∧ (pyOf d).depth = depD d
  | .tup xs, h => by
    have := lay_pys xs (by simpa only [layD] using h)
    simp only [pyOf, PyData.canLay0, PyData.depth, depD]
    exact ⟨this.1, by rw [this.2]⟩
  | .lst xs, h => by
    have := lay_pys xs (by simpa only [layD] using h)
    simp only [pyOf, PyData.canLay0, PyData.depth, depD]
    exact ⟨this.1, by rw [this.2]⟩
  | .dct _ _, h => by simp [layD] at h
  | .ref _, h => by simp [layD] at h
  | .scr _, h => by simp [layD] at h
  | .exc _ _, h => by simp [layD] at h
  | .obj _ _, h => by simp [layD] at h
  | .non, _ => ⟨rfl, rfl⟩
  | .bl _, _ => ⟨rfl, rfl⟩
  | .int _, _ => ⟨rfl, rfl⟩
  | .str x, h => ⟨by simpa only [pyOf, PyData.canLay0, PyData.strOk, layD, strOk'] using h, rfl⟩
theorem lay_pys : ∀ ds : List D, layDs ds = true → PyData.canLayAll0 (pyOfs ds) = true ∧ PyData.depthAll (pyOfs ds) = depDs ds
  | [], _ => ⟨rfl, rfl⟩
  | x :: xs, h => by
    simp only [layDs, Bool.and_eq_true] at h
    have h1 := lay_py x h.1
    have h2 := lay_pys xs h.2
    simp only [pyOfs, PyData.canLayAll0, PyData.depthAll, depDs, h1.1, h2.1, h1.2, h2.2]
    exact ⟨by simp, by simp⟩
end
def eqv (a b : D) : Bool := PyData.eqv (pyOf a) (pyOf b)
/-- the refs put in, four deep -/
abbrev res (s : Store) (d : D) : Option D := frz s 0 d
def eqD (neg : Bool) : D → D → Store → R D := fun x y s => match res s x, res s y with
  | some a, some b => if layD a = true ∧ layD b = true ∧ depD a ≤ 190 then .ok (.bl (if neg then !eqv a b else eqv a b)) s else .bad
  | _, _ => .bad
section
variable {K : PySem.W.Frag} {ca : Nat → Addr} {L : Lv} {H : Hp} {s : Store}
mutual
theorem dp_of {L0 : Lv} : ∀ (d : D) (v : V), layD d = true → RD K L0 H d v → Dp K H v (pyOf d)
  | .tup xs, v, h, r => by
    simp only [RD] at r
    obtain ⟨a, vs, rfl, f, rs⟩ := r
    simp only [pyOf]
    exact .tup f.sq (dps_of xs vs (by simpa only [layD] using h) rs)
  | .lst xs, v, h, r => by
    simp only [RD] at r
    obtain ⟨a, vs, rfl, f, rs⟩ := r
    simp only [pyOf]
    exact .lst f.sq (dps_of xs vs (by simpa only [layD] using h) rs)
  | .dct _ _, v, h, r => by simp [layD] at h
  | .ref _, v, h, r => by simp [layD] at h
  | .scr _, v, h, r => by simp [layD] at h
  | .exc _ _, v, h, r => by simp [layD] at h
  | .obj _ _, v, h, r => by simp [layD] at h
  | .non, v, h, r => by simp only [RD] at r; subst r; exact .non
  | .bl _, v, h, r => by simp only [RD] at r; subst r; exact .bl _
  | .int _, v, h, r => by simp only [RD] at r; subst r; exact .int _
  | .str x, v, h, r => by simp only [RD] at r; subst r; exact .str _
theorem dps_of {L0 : Lv} : ∀ (ds : List D) (vs : List V), layDs ds = true → RDs K L0 H ds vs → DpAll K H vs (pyOfs ds)
  | [], vs, h, r => by simp only [RDs] at r; subst r; exact .nil
  | x :: xs, vs, h, r => by
    simp only [layDs, Bool.and_eq_true] at h
    simp only [RDs] at r
    obtain ⟨u, us, rfl, r1, r2⟩ := r
    exact .cons (dp_of x u h.1 r1) (dps_of xs us h.2 r2)
end
/-- resolved: still what the value stands for, in an empty store -/
theorem res_ok (S : SR K ca L s H) {d d' : D} {v : V} (e : res s d = some d') (r : RD K L H d v) : RD K ⟨[], L.pi⟩ H d' v :=
  frz_ok (n := 0) (L0 := ⟨[], L.pi⟩) (L := L) ⟨List.nil_prefix, rfl, rfl⟩ S e r
end
def rEqP (K : PySem.W.Frag) (neg : Bool) : R2 := fun x y H Q => ∃ d e, Dp K H x d ∧ Dp K H y e ∧ d.canLay0 = true ∧ e.canLay0 = true ∧ d.depth ≤ 190 ∧ Q (.bl (if neg then !PyData.eqv d e else PyData.eqv d e)) H
section
variable {X : Cx} {ca : Nat → Addr}
theorem op_eqP (hu : X.A.units + 200 < cLine) : OpR X (compareOp .Eq) (rEqP X.K false) := by
  intro pins s σ H x y v u Q I rx ry h
  obtain ⟨d, e, hd, he, sd, se, dd, q⟩ := h
  obtain ⟨as, r1⟩ := Dp.reads I d x v hd rx
  obtain ⟨bs, r2⟩ := Dp.reads I e y u he ry
  refine SeqAt.compareEq_reads r1 r2 sd se ?_ ⟨.bl _, H, I, rfl, q⟩
  have : min d.depth e.depth ≤ d.depth := Nat.min_le_left _ _
  omega
theorem op_neP (hu : X.A.units + 200 < cLine) : OpR X (compareOp .NotEq) (rEqP X.K true) := by
  intro pins s σ H x y v u Q I rx ry h
  obtain ⟨d, e, hd, he, sd, se, dd, q⟩ := h
  obtain ⟨as, r1⟩ := Dp.reads I d x v hd rx
  obtain ⟨bs, r2⟩ := Dp.reads I e y u he ry
  refine SeqAt.compareNe_reads r1 r2 sd se ?_ ⟨.bl _, H, I, rfl, q⟩
  have : min d.depth e.depth ≤ d.depth := Nat.min_le_left _ _
  omega
theorem imp_eqP (neg : Bool) : Imp2 X.K ca (eqD neg) (rEqP X.K neg) := by
  intro L H s x y v u Q E S hx hy p
  unfold eqD at p
  split at p
  · rename_i a b ea eb
    split at p
    · rename_i hl
      have h1 := lay_py a hl.1
      have h2 := lay_py b hl.2.1
      exact ⟨pyOf a, pyOf b, dp_of a v hl.1 (res_ok S ea hx), dp_of b u hl.2.1 (res_ok S eb hy), h1.1, h2.1, by rw [h1.2]; exact hl.2.2, p L _ H Keep.refl S rfl⟩
    · exact p.elim
  · exact p.elim
end
end DE
/-! DE3: operators, displays, subscripts, slices -/
namespace DE
open PySem PySem.Spec PyProof.Rows L2

section
variable {K : PySem.W.Frag} {ca : Nat → Addr} {L : Lv} {H : Hp} {s : Store} {Q : VK} {E : Nat → Hp → Prop}
theorem RD.ext {d : D} {v : V} (S : SR K ca L s H) {p : Addr} (h : H p = none) (o : HO) (r : RD K L H d v) : RD K L (upd H p o) d v := RD.mono (S.new h o).1.mono _ _ r
/-- a new tuple, a new list that nothing changes -/
theorem new_tup (S : SR K ca L s H) {ds : List D} {vs : List V} (r : RDs K L H ds vs) (p : post K ca (RD K) L H (.ok (.tup ds) s) Q E) : ∀ q, H q = none → Q (.ref q) (upd H q (.tup vs)) := fun q hq => by
  obtain ⟨k, S'⟩ := S.new hq (.tup vs)
  have f := S.fresh hq
  refine p L _ _ k S' ?_
  simp only [RD]
  exact ⟨q, vs, rfl, .inl ⟨f.1, f.2, upd_same⟩, RDs.mono k.mono _ _ r⟩
theorem new_lst (S : SR K ca L s H) {ds : List D} {vs : List V} (r : RDs K L H ds vs) (p : post K ca (RD K) L H (.ok (.lst ds) s) Q E) : ∀ q, H q = none → Q (.ref q) (upd H q (.lst vs)) := fun q hq => by
  obtain ⟨k, S'⟩ := S.new hq (.lst vs)
  have f := S.fresh hq
  refine p L _ _ k S' ?_
  simp only [RD]
  exact ⟨q, vs, rfl, ⟨f.1, f.2, upd_same⟩, RDs.mono k.mono _ _ r⟩
theorem keep_alloc (S : SR K ca L s H) {p : Addr} (h : H p = none) (o : HO) : Keep L H ⟨L.rho ++ [p], L.pi⟩ (upd H p o) := ⟨rfl, List.prefix_append _ _, fun b u e hb => ⟨by rw [upd_ne (ne_of_none e h)]; exact e, by
    intro hm
    rcases List.mem_append.mp hm with hm | hm
    · exact hb hm
    · simp at hm; subst hm; rw [h] at e; cases e⟩⟩
/-- .. one that is changed: a live cell -/
theorem new_cell (S : SR K ca L s H) {ds : List D} {vs : List V} (r : RDs K L H ds vs) (p : post K ca (RD K) L H (.ok (.ref s.length) (s ++ [.lst ds])) Q E) : ∀ q, H q = none → Q (.ref q) (upd H q (.lst vs)) := fun q hq => by
  have k := keep_alloc S hq (.lst vs)
  obtain ⟨_, S'⟩ := S.alloc hq (o := .lst vs) (c := .lst ds) ⟨vs, upd_same, RDs.mono k.mono _ _ r⟩
  refine p _ _ _ k S' ?_
  simp only [RD]
  exact ⟨q, rfl, by rw [← S.len]; simp⟩

/-- lists that are read: the script, too -/
def rdS (s : Store) : D → Option (List D)
  | .lst xs => some xs
  | .ref l => match s[l]? with | some (.lst xs) => some xs | _ => none
  | .scr ns => some (ns.map .int)
  | _ => none
theorem rds_ints {ns : List Int} : RDs K L H (ns.map D.int) (ns.map V.int) := by
  induction ns with
  | nil => exact .nil
  | cons n ns ih => exact .cons rfl ih
theorem rdS_ok (S : SR K ca L s H) {d : D} {v : V} {xs : List D} (r : RD K L H d v) (e : rdS s d = some xs) : ∃ a vs, v = .ref a ∧ SqL K H a vs ∧ RDs K L H xs vs := by
  cases d with
  | lst ys =>
    cases e
    simp only [RD] at r
    obtain ⟨a, vs, e, f, q⟩ := r
    exact ⟨a, vs, e, f.sq, q⟩
  | ref l =>
    simp only [RD] at r
    obtain ⟨a, rfl, ea⟩ := r
    obtain ⟨c, ec, k⟩ := S.at ea
    unfold rdS at e
    simp only [ec] at e
    cases c with
    | lst ys => cases e; obtain ⟨vs, h1, h2⟩ := k; exact ⟨a, vs, rfl, SqL.of h1, h2⟩
    | _ => cases e
  | scr ns =>
    cases e
    simp only [RD] at r
    obtain ⟨a, rfl, f⟩ := r
    exact ⟨a, _, rfl, f.sq, rds_ints⟩
  | _ => cases e
end

/-! ### operators -/
def addD : D → D → Store → R D := fun x y s => match x, y with
  | .int i, .int j => .ok (.int (i + j)) s
  | .str i, .str j => if i.length + j.length ≤ sizeLine then .ok (.str (i ++ j)) s else .bad
  | .tup xs, .tup ys => if xs.length + ys.length ≤ sizeLine then .ok (.tup (xs ++ ys)) s else .bad
  | x, y => match rdL s x, rdL s y with
    | some xs, some ys => if xs.length + ys.length ≤ sizeLine then .ok (.lst (xs ++ ys)) s else .bad
    | _, _ => .bad
/-- two lists to one that is changed later -/
def addN : D → D → Store → R D := fun x y s => match rdL s x, rdL s y with
    | some xs, some ys => if xs.length + ys.length ≤ sizeLine then .ok (.ref s.length) (s ++ [.lst (xs ++ ys)]) else .bad
    | _, _ => .bad
def subD : D → D → Store → R D := fun x y s => match x, y with
  | .int i, .int j => .ok (.int (i - j)) s
  | _, _ => .bad
def BIG : Int := 18446744073709551616
def repL (k : Int) (xs : List D) : List D := (List.replicate k.toNat xs).flatten
def repS (k : Int) (z : Str) : Str := ⟨(List.replicate k.toNat z.cps).foldl (· ++ ·) #[]⟩
noncomputable def mulD : D → D → Store → R D := fun x y s => match x, y with
  | .int i, .int j => @ite (R _) ((-BIG < i ∧ i < BIG) ∨ (-BIG < j ∧ j < BIG)) (Classical.propDecidable _) (.ok (.int (i * j)) s) .bad
  | .str z, .int k => @ite (R _) (0 ≤ k ∧ k ≤ 100000 ∧ z.length ≤ 100) (Classical.propDecidable _) (.ok (.str (repS k z)) s) .bad
  | .tup xs, .int k => @ite (R _) (xs.length ≤ 1000 ∧ 2 ≤ k ∧ k ≤ 1000 ∧ xs ≠ []) (Classical.propDecidable _) (.ok (.tup (repL k xs)) s) .bad
  | x, .int k => match rdL s x with
    | some xs => @ite (R _) (-(2 ^ 63) ≤ k ∧ k < 2 ^ 63 ∧ xs.length * k.toNat ≤ sizeLine) (Classical.propDecidable _) (.ok (.lst (repL k xs)) s) .bad
    | none => .bad
  | _, _ => .bad
noncomputable def fdivD : D → D → Store → R D := fun x y s => match x, y with
  | .int i, .int j => @ite (R _) (0 < j ∧ j < 1073741824) (Classical.propDecidable _) (.ok (.int (i / j)) s) .bad
  | _, _ => .bad
noncomputable def modD : D → D → Store → R D := fun x y s => match x, y with
  | .int i, .int j => @ite (R _) (0 < j) (Classical.propDecidable _) (.ok (.int (i % j)) s) .bad
  | _, _ => .bad
noncomputable def powD : D → D → Store → R D := fun x y s => match x, y with
  | .int i, .int j => @ite (R _) (0 ≤ j ∧ j ≤ 1000000 ∧ i.natAbs < 2 ^ 64) (Classical.propDecidable _) (.ok (.int (i ^ j.toNat)) s) .bad
  | _, _ => .bad
def cmpI (f : Int → Int → Bool) : D → D → Store → R D := fun x y s => match x, y with
  | .int i, .int j => .ok (.bl (f i j)) s
  | _, _ => .bad
def ltD := cmpI fun i j => decide (i < j)
def leD := cmpI fun i j => decide (i ≤ j)
def gtD := cmpI fun i j => decide (j < i)
def geD := cmpI fun i j => decide (j ≤ i)
def isNon : D → Bool
  | .non => true
  | _ => false
def isD (neg : Bool) : D → D → Store → R D := fun x y s => match y with
  | .non => .ok (.bl (if neg then !isNon x else isNon x)) s
  | .bl b => match x with
    | .bl a => .ok (.bl (if neg then !decide (a = b) else decide (a = b))) s
    | _ => .bad
  | _ => .bad
def inD (neg : Bool) : D → D → Store → R D := fun x y s => match x, y with
  | .str i, .str j => match i.cps.toList with
    | [c] => .ok (.bl (if neg then !decide (c ∈ j.cps.toList) else decide (c ∈ j.cps.toList))) s
    | _ => .bad
  | x, y => match res s x, res s y with
    | some a, some (.tup ys) => if layD a = true ∧ layDs ys = true ∧ depD a ≤ 190 then .ok (.bl (if neg then !ys.any (fun y => eqv y a) else ys.any (fun y => eqv y a))) s else .bad
    | some a, some (.lst ys) => if layD a = true ∧ layDs ys = true ∧ depD a ≤ 190 then .ok (.bl (if neg then !ys.any (fun y => eqv y a) else ys.any (fun y => eqv y a))) s else .bad
    | _, _ => .bad
section
variable {X : Cx} {ca : Nat → Addr}
def rAddA (K : PySem.W.Frag) : R2 := fun x y H Q => (((rI0 fun i j => .int (i + j)) x y H Q ∨ (∃ i j, x = .str i ∧ y = .str j ∧ i.length + j.length ≤ sizeLine ∧ Q (.str (i ++ j)) H)) ∨ rCatA K x y H Q) ∨ rCat x y H Q
theorem op_addA : OpR X (binaryOp .Add) (rAddA X.K) := ((op_add.or op_add_str).or op_catA).or op_cat
theorem imp_add : Imp2 X.K ca addD (rAddA X.K) := by
  intro L H s x y v u Q E S hx hy p
  unfold addD at p
  split at p
  · simp only [RD] at hx hy
    exact .inl (.inl (.inl ⟨_, _, hx, hy, p L _ H Keep.refl S rfl⟩))
  · split at p
    · rename_i hz
      simp only [RD] at hx hy
      exact .inl (.inl (.inr ⟨_, _, hx, hy, hz, p L _ H Keep.refl S rfl⟩))
    · exact p.elim
  · split at p
    · rename_i xs ys hz
      simp only [RD] at hx hy
      obtain ⟨a, vs, rfl, f, rs⟩ := hx
      obtain ⟨b, ws, rfl, g, qs⟩ := hy
      refine .inl (.inr ⟨a, b, vs, ws, rfl, rfl, f.sq, g.sq, by rw [← rs.length, ← qs.length]; exact hz, fun e => ?_, fun e1 e2 => ?_, fun _ _ => new_tup S (rs.append qs) p⟩)
      · subst e
        have : xs = [] := by have := rs.length; simpa using this
        subst this
        exact p L _ H Keep.refl S (by simp only [RD]; exact ⟨b, ws, rfl, g, qs⟩)
      · subst e2
        have : ys = [] := by have := qs.length; simpa using this
        subst this
        exact p L _ H Keep.refl S (by simp only [RD, List.append_nil]; exact ⟨a, vs, rfl, f, rs⟩)
    · exact p.elim
  · split at p
    · rename_i xs ys ex ey
      split at p
      · rename_i hz
        obtain ⟨a, vs, rfl, h1, rs⟩ := rdL_ok S hx ex
        obtain ⟨b, ws, rfl, h2, qs⟩ := rdL_ok S hy ey
        exact .inr ⟨a, b, vs, ws, rfl, rfl, h1, h2, by rw [← rs.length, ← qs.length]; exact hz, new_lst S (rs.append qs) p⟩
      · exact p.elim
    · exact p.elim
theorem imp_addN : Imp2 X.K ca addN rCat := by
  intro L H s x y v u Q E S hx hy p
  unfold addN at p
  split at p
  · rename_i xs ys ex ey
    split at p
    · rename_i hz
      obtain ⟨a, vs, rfl, h1, rs⟩ := rdL_ok S hx ex
      obtain ⟨b, ws, rfl, h2, qs⟩ := rdL_ok S hy ey
      exact ⟨a, b, vs, ws, rfl, rfl, h1, h2, by rw [← rs.length, ← qs.length]; exact hz, new_cell S (rs.append qs) p⟩
    · exact p.elim
  · exact p.elim
theorem imp_sub : Imp2 X.K ca subD (rI0 fun i j => .int (i - j)) := by
  intro L H s x y v u Q E S hx hy p
  unfold subD at p
  split at p
  · simp only [RD] at hx hy
    exact ⟨_, _, hx, hy, p L _ H Keep.refl S rfl⟩
  · exact p.elim
theorem imp_fdiv : Imp2 X.K ca fdivD (rI CDiv fun i j => .int (i / j)) := by
  intro L H s x y v u Q E S hx hy p
  unfold fdivD at p
  split at p
  · split at p
    · rename_i hz
      simp only [RD] at hx hy
      exact ⟨_, _, hx, hy, hz, p L _ H Keep.refl S rfl⟩
    · exact p.elim
  · exact p.elim
theorem imp_mod : Imp2 X.K ca modD (rI (fun _ j => 0 < j) fun i j => .int (i % j)) := by
  intro L H s x y v u Q E S hx hy p
  unfold modD at p
  split at p
  · split at p
    · rename_i hz
      simp only [RD] at hx hy
      exact ⟨_, _, hx, hy, hz, p L _ H Keep.refl S rfl⟩
    · exact p.elim
  · exact p.elim
theorem imp_pow : Imp2 X.K ca powD (rI CPow fun i j => .int (i ^ j.toNat)) := by
  intro L H s x y v u Q E S hx hy p
  unfold powD at p
  split at p
  · split at p
    · rename_i hz
      simp only [RD] at hx hy
      exact ⟨_, _, hx, hy, hz, p L _ H Keep.refl S rfl⟩
    · exact p.elim
  · exact p.elim
theorem imp_cmp (f : Int → Int → Bool) : Imp2 X.K ca (cmpI f) (rI0 fun i j => .bl (f i j)) := by
  intro L H s x y v u Q E S hx hy p
  unfold cmpI at p
  split at p
  · simp only [RD] at hx hy
    exact ⟨_, _, hx, hy, p L _ H Keep.refl S rfl⟩
  · exact p.elim
theorem RD.isNon {K : PySem.W.Frag} {L : Lv} {H : Hp} {d : D} {v : V} (r : RD K L H d v) : decide (v = .non) = isNon d := by
  cases d <;> simp only [RD] at r <;> (try subst r) <;> (try rfl)
  · obtain ⟨a, _, rfl, _⟩ := r; rfl
  · obtain ⟨a, _, rfl, _⟩ := r; rfl
  · obtain ⟨a, _, rfl, _⟩ := r; rfl
  · obtain ⟨a, rfl, _⟩ := r; rfl
  · obtain ⟨a, rfl, _⟩ := r; rfl
  · obtain ⟨a, _, _, _, rfl, _⟩ := r; rfl
theorem imp_is : Imp2 X.K ca (isD false) (fun x y H Q => (y = .non ∧ Q (.bl (decide (x = .non))) H) ∨ rIsB x y H Q) := by
  intro L H s x y v u Q E S hx hy p
  unfold isD at p
  split at p
  · simp only [RD] at hy
    exact .inl ⟨hy, by rw [hx.isNon]; exact p L _ H Keep.refl S rfl⟩
  · split at p
    · simp only [RD] at hx hy
      exact .inr ⟨_, _, hx, hy, p L _ H Keep.refl S rfl⟩
    · exact p.elim
  · exact p.elim
theorem imp_isnot : Imp2 X.K ca (isD true) (fun x y H Q => (y = .non ∧ Q (.bl (!decide (x = .non))) H) ∨ rNotB x y H Q) := by
  intro L H s x y v u Q E S hx hy p
  unfold isD at p
  split at p
  · simp only [RD] at hy
    exact .inl ⟨hy, by rw [hx.isNon]; exact p L _ H Keep.refl S rfl⟩
  · split at p
    · simp only [RD] at hx hy
      exact .inr ⟨_, _, hx, hy, p L _ H Keep.refl S rfl⟩
    · exact p.elim
  · exact p.elim
theorem op_isA : OpR X (compareOp .Is) (fun x y H Q => (y = .non ∧ Q (.bl (decide (x = .non))) H) ∨ rIsB x y H Q) := op_isN.or op_isBl
theorem op_isnotA : OpR X (compareOp .IsNot) (fun x y H Q => (y = .non ∧ Q (.bl (!decide (x = .non))) H) ∨ rNotB x y H Q) := op_notN.or op_notBl

/-! in -/
def rInP (K : PySem.W.Frag) (neg : Bool) : R2 := fun x y H Q => ∃ d ds, Dp K H x d ∧ (Dp K H y (.list ds) ∨ Dp K H y (.tuple ds)) ∧ PyData.canLayAll0 ds = true ∧ d.canLay0 = true ∧ d.depth ≤ 190 ∧ Q (.bl (if neg then !ds.any (fun z => PyData.eqv z d) else ds.any (fun z => PyData.eqv z d))) H
theorem room_in {A : Around} {n m : Nat} (hu : A.units + 200 < cLine) (h : m ≤ 190) : A.units + 1 + min n m < cLine := by
  have := Nat.min_le_right n m
  omega
theorem op_inP (hu : X.A.units + 200 < cLine) : OpR X (compareOp .In) (rInP X.K false) := by
  intro pins s σ H x y v u Q I rx ry h
  obtain ⟨d, ds, hd, he, se, sd, dd, q⟩ := h
  obtain ⟨as, r1⟩ := Dp.reads I d x v hd rx
  rcases he with he | he
  · obtain ⟨bs, r2⟩ := Dp.reads I (.list ds) y u he ry
    exact SeqAt.in_list_reads r2 r1 se sd (room_in hu dd) ⟨.bl _, H, I, rfl, q⟩
  · obtain ⟨bs, r2⟩ := Dp.reads I (.tuple ds) y u he ry
    exact SeqAt.in_tuple_reads r2 r1 se sd (room_in hu dd) ⟨.bl _, H, I, rfl, q⟩
theorem op_notInP (hu : X.A.units + 200 < cLine) : OpR X (compareOp .NotIn) (rInP X.K true) := by
  intro pins s σ H x y v u Q I rx ry h
  obtain ⟨d, ds, hd, he, se, sd, dd, q⟩ := h
  obtain ⟨as, r1⟩ := Dp.reads I d x v hd rx
  rcases he with he | he
  · obtain ⟨bs, r2⟩ := Dp.reads I (.list ds) y u he ry
    exact SeqAt.notIn_list_reads r2 r1 se sd (room_in hu dd) ⟨.bl _, H, I, rfl, q⟩
  · obtain ⟨bs, r2⟩ := Dp.reads I (.tuple ds) y u he ry
    exact SeqAt.notIn_tuple_reads r2 r1 se sd (room_in hu dd) ⟨.bl _, H, I, rfl, q⟩
def rInS (neg : Bool) : R2 := fun x y H Q => ∃ (c : Nat) (z : Str), x = .str ⟨#[c]⟩ ∧ y = .str z ∧ Q (.bl (if neg then !decide (c ∈ z.cps.toList) else decide (c ∈ z.cps.toList))) H
theorem op_inA (hu : X.A.units + 200 < cLine) : OpR X (compareOp .In) (fun x y H Q => rInS false x y H Q ∨ rInP X.K false x y H Q) := OpR.or op_in_sign (op_inP hu)
theorem op_notInA (hu : X.A.units + 200 < cLine) : OpR X (compareOp .NotIn) (fun x y H Q => rInS true x y H Q ∨ rInP X.K true x y H Q) := OpR.or op_notIn_sign (op_notInP hu)
theorem any_py (a : D) : ∀ ys : List D, (pyOfs ys).any (fun z => PyData.eqv z (pyOf a)) = ys.any fun y => eqv y a
  | [] => rfl
  | y :: ys => by simp only [pyOfs, List.any_cons, any_py a ys, eqv]
theorem imp_in (neg : Bool) : Imp2 X.K ca (inD neg) (fun x y H Q => rInS neg x y H Q ∨ rInP X.K neg x y H Q) := by
  intro L H s x y v u Q E S hx hy p
  unfold inD at p
  split at p
  · rename_i i j
    split at p
    · rename_i c hc
      simp only [RD] at hx hy
      refine .inl ⟨c, j, ?_, hy, p L _ H Keep.refl S rfl⟩
      rw [hx]
      obtain ⟨cps⟩ := i
      have : cps = #[c] := by apply Array.toList_inj.mp; simpa using hc
      rw [this]
    · exact p.elim
  · split at p
    · rename_i a ys ea ey
      split at p
      · rename_i hl
        have h1 := lay_py a hl.1
        have h2 := lay_pys ys hl.2.1
        refine .inr ⟨pyOf a, pyOfs ys, dp_of a v hl.1 (res_ok S ea hx), .inr (dp_of (.tup ys) u (by simpa only [layD] using hl.2.1) (res_ok S ey hy)), h2.1, h1.1, by rw [h1.2]; exact hl.2.2, ?_⟩
        rw [any_py]
        exact p L _ H Keep.refl S rfl
      · exact p.elim
    · rename_i a ys ea ey
      split at p
      · rename_i hl
        have h1 := lay_py a hl.1
        have h2 := lay_pys ys hl.2.1
        refine .inr ⟨pyOf a, pyOfs ys, dp_of a v hl.1 (res_ok S ea hx), .inl (dp_of (.lst ys) u (by simpa only [layD] using hl.2.1) (res_ok S ey hy)), h2.1, h1.1, by rw [h1.2]; exact hl.2.2, ?_⟩
        rw [any_py]
        exact p L _ H Keep.refl S rfl
      · exact p.elim
    · exact p.elim

/-! * -/
theorem rd_rep {K : PySem.W.Frag} {L : Lv} {H : Hp} {xs : List D} {vs : List V} (h : RDs K L H xs vs) : ∀ k : Nat, RDs K L H (List.replicate k xs).flatten (List.replicate k vs).flatten
  | 0 => .nil
  | k + 1 => by
    rw [List.replicate_succ, List.replicate_succ, List.flatten_cons, List.flatten_cons]
    exact h.append (rd_rep h k)
theorem size_repS (z : Array Nat) : ∀ k : Nat, ((List.replicate k z).foldl (· ++ ·) #[]).size = k * z.size := by
  have : ∀ (k : Nat) (acc : Array Nat), ((List.replicate k z).foldl (· ++ ·) acc).size = acc.size + k * z.size := by
    intro k
    induction k with
    | zero => intro acc; simp
    | succ k ih => intro acc; rw [List.replicate_succ, List.foldl_cons, ih]; simp [Nat.succ_mul]; omega
  intro k
  rw [this]; simp
def rRepS : R2 := fun x y H Q => ∃ z k, x = .str z ∧ y = .int k ∧ 0 ≤ k ∧ k ≤ 100000 ∧ z.length ≤ 100 ∧ Q (.str (repS k z)) H
theorem op_repS : OpR X (binaryOp .Mult) rRepS := by
  intro pins s σ H x y v u Q I rx ry h
  obtain ⟨z, k, rfl, rfl, h0, h1, hz, q⟩ := h
  obtain ⟨t, rfl⟩ := rx
  obtain ⟨t', rfl⟩ := ry
  have hb : (2 : Int) ^ 63 = 9223372036854775808 := by decide
  refine P.mul_str (by rw [decide_eq_false (by omega), decide_eq_false (by omega)]; rfl) (fun h1 _ => ?_) (fun h1 _ => ?_) ?_
  · intro hh
    have h5 : (2 ^ 63 - 1 : Int) / k ≥ (2 ^ 63 - 1 : Int) / 100000 := by
      rw [hb]
      have hk : 0 < k := by omega
      have := Int.ediv_mul_le (9223372036854775808 - 1 : Int) (show (100000 : Int) ≠ 0 by decide)
      refine (Int.le_ediv_iff_mul_le hk).mpr ?_
      refine Int.le_trans (Int.mul_le_mul_of_nonneg_left (show k ≤ 100000 by omega) (by decide)) this
    have h6 : ((2 ^ 63 - 1 : Int) / 100000) = 92233720368547 := by decide
    omega
  · have : z.length * k.toNat ≤ 100 * 100000 := Nat.mul_le_mul hz (by omega)
    have hs : sizeLine = 16777216 := by decide
    unfold Builtin.Str.tooLong
    simp only [decide_eq_false_iff_not, hs]
    omega
  · split
    · rename_i hk
      have hk0 : k = 0 := by omega
      subst hk0
      exact ⟨by decide, .str _, H, I.tok _, ⟨_, rfl⟩, q⟩
    · split
      · rename_i hk hh
        refine ⟨.str (repS k z), H, I, ?_, q⟩
        have : repS k z = z := by
          simp only [Bool.or_eq_true, beq_iff_eq] at hh
          unfold repS
          rcases hh with hh | hh
          · subst hh
            simp [List.replicate_succ]
          · have e : z.cps = #[] := Array.eq_empty_of_size_eq_zero hh
            have f : ((List.replicate k.toNat z.cps).foldl (· ++ ·) #[]) = #[] := Array.eq_empty_of_size_eq_zero (by rw [size_repS, e]; simp)
            rw [f]
            obtain ⟨c⟩ := z
            simpa using e.symm
        rw [this]
        exact ⟨_, rfl⟩
      · refine ⟨?_, .str (repS k z), H, I.tok _, ⟨_, rfl⟩, q⟩
        have hs : sizeLine = 16777216 := by decide
        show Array.size _ ≤ sizeLine
        rw [size_repS, hs]
        have : k.toNat * z.cps.size ≤ 100000 * 100 := Nat.mul_le_mul (by omega) hz
        omega
def rMulA (K : PySem.W.Frag) : R2 := fun x y H Q => (((rI CMul fun i j => .int (i * j)) x y H Q ∨ rRepS x y H Q) ∨ rRepT K x y H Q) ∨ rRep x y H Q
theorem op_mulA : OpR X (binaryOp .Mult) (rMulA X.K) := ((op_mul.or op_repS).or op_repT).or op_rep
theorem imp_mul : Imp2 X.K ca mulD (rMulA X.K) := by
  intro L H s x y v u Q E S hx hy p
  unfold mulD at p
  split at p
  · split at p
    · rename_i hz
      simp only [RD] at hx hy
      exact .inl (.inl (.inl ⟨_, _, hx, hy, hz, p L _ H Keep.refl S rfl⟩))
    · exact p.elim
  · split at p
    · rename_i hz
      simp only [RD] at hx hy
      exact .inl (.inl (.inr ⟨_, _, hx, hy, hz.1, hz.2.1, hz.2.2, p L _ H Keep.refl S rfl⟩))
    · exact p.elim
  · split at p
    · rename_i xs k hz
      simp only [RD] at hx hy
      obtain ⟨a, vs, rfl, f, rs⟩ := hx
      subst hy
      refine .inl (.inr ⟨a, k, vs, rfl, rfl, f.sq, ?_, hz.2.1, hz.2.2.1, by rw [← rs.length]; exact hz.1, new_tup S (rd_rep rs _) p⟩)
      rintro rfl
      exact hz.2.2.2 (by have := rs.length; simpa using this)
    · exact p.elim
  · split at p
    · rename_i xs ex
      split at p
      · rename_i hz
        simp only [RD] at hy
        subst hy
        obtain ⟨a, vs, rfl, h1, rs⟩ := rdL_ok S hx ex
        exact .inr ⟨a, _, vs, rfl, rfl, h1, hz.1, hz.2.1, by rw [← rs.length]; exact hz.2.2, new_lst S (rd_rep rs _) p⟩
      · exact p.elim
    · exact p.elim
  · exact p.elim
end

/-! ### argument lists, displays -/
section
variable {X : Cx} {ca : Nat → Addr} {W : WX} {e : Expr} {es : List Expr} {m : EM} {ms : AM} {pos : Pos}
def aNil : AM := fun _ s => .ok [] s
def aCons (m : EM) (ms : AM) : AM := fun env s => (m env s).bind fun d s => (ms env s).bind fun ds s => .ok (d :: ds) s
theorem da_nil : DA X ca W [] aNil := PA.imp pa_nil fun σ H Q ⟨L, env, s, S, e, p⟩ => p L [] H Keep.refl S .nil
theorem da_cons (h : DE X ca W e m) (hr : DA X ca W es ms) (hs : starEach (e :: es) X.env = (false, eval e X.env) :: starEach es X.env := by rfl) : DA X ca W (e :: es) (aCons m ms) :=
  PA.imp (pa_cons h hr hs) fun σ H Q ⟨L, env, s, S, e, p⟩ => ⟨L, env, s, S, e, p.bind.imp fun v H1 ⟨L1, s1, d, k1, S1, r1, p1⟩ =>
    ⟨L1, env, s1, S1, e.mono k1.mono, p1.bind.imp fun vs H2 ⟨L2, s2, ds, k2, S2, r2, p2⟩ => p2 L2 _ H2 Keep.refl S2 (.cons (RD.mono k2.mono _ _ r1) r2)⟩⟩
def LINE : Nat := 16777216
theorem line_eq : sizeLine = LINE := by decide
def eTup (ms : AM) : EM := fun env s => (ms env s).bind fun ds s => if ds.length ≤ LINE then .ok (.tup ds) s else .bad
def eLst (ms : AM) : EM := fun env s => (ms env s).bind fun ds s => if ds.length ≤ LINE then .ok (.lst ds) s else .bad
/-- a list that is changed later -/
def eNew (ms : AM) : EM := fun env s => (ms env s).bind fun ds s => if ds.length ≤ LINE then .ok (.ref s.length) (s ++ [.lst ds]) else .bad
theorem de_tup {x1} (h : DA X ca W es ms) : DE X ca W (.Tuple es x1 pos) (eTup ms) := PE.imp (pe_tup h) fun σ H Q ⟨L, env, s, S, e, p⟩ =>
  ⟨L, env, s, S, e, p.bind.imp fun vs H1 ⟨L1, s1, ds, k1, S1, r1, p1⟩ => by
    split at p1
    · rename_i hz
      exact ⟨by rw [← r1.length, line_eq]; exact hz, new_tup S1 r1 p1⟩
    · exact p1.elim⟩
theorem de_lst (h : DA X ca W es ms) : DE X ca W (.List es pos) (eLst ms) := PE.imp (pe_lst h) fun σ H Q ⟨L, env, s, S, e, p⟩ =>
  ⟨L, env, s, S, e, p.bind.imp fun vs H1 ⟨L1, s1, ds, k1, S1, r1, p1⟩ => by
    split at p1
    · rename_i hz
      exact ⟨by rw [← r1.length, line_eq]; exact hz, new_lst S1 r1 p1⟩
    · exact p1.elim⟩
theorem de_new (h : DA X ca W es ms) : DE X ca W (.List es pos) (eNew ms) := PE.imp (pe_lst h) fun σ H Q ⟨L, env, s, S, e, p⟩ =>
  ⟨L, env, s, S, e, p.bind.imp fun vs H1 ⟨L1, s1, ds, k1, S1, r1, p1⟩ => by
    split at p1
    · rename_i hz
      exact ⟨by rw [← r1.length, line_eq]; exact hz, new_cell S1 r1 p1⟩
    · exact p1.elim⟩
end

/-! ### subscripts -/
def ixD : D → D → Store → R D := fun x y s => match y with
  | .int i => match x with
    | .tup xs => match atI xs i with | some d => .ok d s | none => .bad
    | .str z => if z.length ≤ LINE then match atI z.cps.toList i with | some c => .ok (.str ⟨#[c]⟩) s | none => .bad else .bad
    | x => match rdS s x with
      | some xs => match atI xs i with | some d => .ok d s | none => .bad
      | none => .bad
  | _ => .bad
section
variable {X : Cx} {ca : Nat → Addr} {W : WX} {a b : Expr} {ma mb : EM} {pos : Pos}
theorem at_rd {K : PySem.W.Frag} {L : Lv} {H : Hp} {xs : List D} {vs : List V} {i : Int} {d : D} (r : RDs K L H xs vs) (e : atI xs i = some d) : ∃ v, atI vs i = some v ∧ RD K L H d v := by
  unfold atI at e ⊢
  rw [← r.length]
  cases q : ixN xs.length i with
  | none => rw [q] at e; cases e
  | some j =>
    rw [q] at e
    exact RDs.get r e
theorem imp_ix : Imp2 X.K ca ixD (rIx X.K) := by
  intro L H s x y v u Q E S hx hy p
  unfold ixD at p
  split at p
  · rename_i i
    simp only [RD] at hy
    split at p
    · rename_i xs
      split at p
      · rename_i d ed
        simp only [RD] at hx
        obtain ⟨a, vs, rfl, f, rs⟩ := hx
        obtain ⟨w, ew, rw_⟩ := at_rd rs ed
        exact .inr (.inl ⟨a, vs, i, w, rfl, hy, f.sq, ew, p L _ H Keep.refl S rw_⟩)
      · exact p.elim
    · split at p
      · rename_i hz
        split at p
        · rename_i c ec
          simp only [RD] at hx
          exact .inr (.inr ⟨_, i, c, hx, hy, by rw [line_eq]; exact hz, ec, p L _ H Keep.refl S rfl⟩)
        · exact p.elim
      · exact p.elim
    · split at p
      · rename_i xs ex
        split at p
        · rename_i d ed
          obtain ⟨a, vs, rfl, f, rs⟩ := rdS_ok S hx ex
          obtain ⟨w, ew, rw_⟩ := at_rd rs ed
          exact .inl ⟨a, vs, i, w, rfl, hy, f, ew, p L _ H Keep.refl S rw_⟩
        · exact p.elim
      · exact p.elim
  · exact p.elim
theorem de_ix (ha : DE X ca W a ma) (hb : DE X ca W b mb) (hs : PlainIx b := by exact fun _ _ => rfl) : DE X ca W (.Subscript a b pos) (e2 ixD ma mb) := PE.imp (pe_ix ix_seq ha hb hs) (tOp_of imp_ix)
end

/-! ### slices -/
abbrev OM := Env → Store → R (Option Int)
def tO (K : PySem.W.Frag) (ca : Nat → Addr) (W : WX) (m : OM) : TO := fun σ H Q => ∃ L env s, SR K ca L s H ∧ ER K L H env σ ∧ post K ca (fun _ _ a b => a = b) L H (m env s) Q (wE ca W σ)
def DO (X : Cx) (ca : Nat → Addr) (W : WX) (e : Option Expr) (m : OM) : Prop := PO X e (tO X.K ca W m)
def oNone : OM := fun _ s => .ok none s
def oSome (m : EM) : OM := fun env s => (m env s).bind fun d s => match d with | .int i => .ok (some i) s | _ => .bad
def cutL {α : Type} (xs : List α) (lo hi : Option Int) : List α := (xs.drop (HT.sIx xs.length 0 lo)).take (HT.sIx xs.length xs.length hi - HT.sIx xs.length 0 lo)
def cutD : D → Option Int → Option Int → Store → R D := fun x lo hi s => match x with
  | .tup xs => .ok (.tup (cutL xs lo hi)) s
  | .str z => if z.length ≤ LINE then .ok (.str ⟨(cutL z.cps.toList lo hi).toArray⟩) s else .bad
  | x => match rdS s x with
    | some xs => .ok (.lst (cutL xs lo hi)) s
    | none => .bad
def eCut (m : EM) (lo hi : OM) : EM := fun env s => (m env s).bind fun x s => (lo env s).bind fun l s => (hi env s).bind fun h s => cutD x l h s
section
variable {X : Cx} {ca : Nat → Addr} {W : WX} {e : Expr} {m : EM} {lo hi : Option Expr} {ml mh : OM} {pos p2 : Pos}
theorem PO.imp {e : Option Expr} {t t' : TO} (h : PO X e t) (i : ∀ σ H Q, t' σ H Q → t σ H Q) : PO X e t' := ⟨fun pins s σ H Q I q => h.run pins s σ H Q I (i σ H Q q)⟩
theorem do_none : DO X ca W none oNone := PO.imp po_none fun σ H Q ⟨L, env, s, S, e, p⟩ => p L none H Keep.refl S rfl
theorem do_some (h : DE X ca W e m) : DO X ca W (some e) (oSome m) := PO.imp (po_some h) fun σ H Q ⟨L, env, s, S, e, p⟩ =>
  ⟨L, env, s, S, e, p.bind.imp fun v H1 ⟨L1, s1, d, k1, S1, r1, p1⟩ => by
    split at p1
    · simp only [RD] at r1
      exact ⟨_, r1, p1 L1 _ H1 Keep.refl S1 rfl⟩
    · exact p1.elim⟩
theorem rd_cut {K : PySem.W.Frag} {L : Lv} {H : Hp} {xs : List D} {vs : List V} (r : RDs K L H xs vs) (lo hi : Option Int) : RDs K L H (cutL xs lo hi) (cutV vs lo hi) := by
  unfold cutL cutV
  rw [← r.length]
  exact (r.drop _).take _
end
end DE
/-! DE4: slices, tests, and / or / not, if-else, calls of built-ins -/
namespace DE
open PySem PySem.Spec PyProof.Rows L2
section
variable {X : Cx} {ca : Nat → Addr} {W : WX} {e a b c : Expr} {es rest : List Expr} {m ma mb mc : EM} {lo hi : Option Expr} {ml mh : OM} {pos p2 : Pos}
def rCutA (K : PySem.W.Frag) : V → Option Int → Option Int → Hp → VK → Prop := fun x lo hi H Q => (rSlL K x lo hi H Q ∨ rSlA K x lo hi H Q) ∨ rSlS x lo hi H Q
theorem sl_cutA : SlR X (rCutA X.K) := (sl_list.or sl_tupA).or sl_str
theorem cut_whole {α : Type} (xs : List α) (lo hi : Option Int) (h : HT.sIx xs.length 0 lo = 0 ∧ HT.sIx xs.length xs.length hi = xs.length) : cutL xs lo hi = xs := by
  unfold cutL
  rw [h.1, h.2, List.drop_zero, Nat.sub_zero, List.take_length]
theorem imp_cut {L : Lv} {H : Hp} {s : Store} {x : D} {v : V} {l u : Option Int} {Q : VK} {E : Nat → Hp → Prop} (S : SR X.K ca L s H) (r : RD X.K L H x v) (p : post X.K ca (RD X.K) L H (cutD x l u s) Q E) : rCutA X.K v l u H Q := by
  unfold cutD at p
  split at p
  · rename_i xs
    simp only [RD] at r
    obtain ⟨a, vs, rfl, f, rs⟩ := r
    refine .inl (.inr ⟨a, vs, rfl, f.sq, fun hw => ?_, fun hw => ?_⟩)
    · rw [cut_whole xs l u (by rw [rs.length]; exact hw)] at p
      exact p L _ H Keep.refl S (by simp only [RD]; exact ⟨a, vs, rfl, f, rs⟩)
    · exact new_tup S (rd_cut rs l u) p
  · split at p
    · rename_i z hz
      simp only [RD] at r
      exact .inr ⟨z, r, by rw [line_eq]; exact hz, p L _ H Keep.refl S rfl⟩
    · exact p.elim
  · split at p
    · rename_i xs ex
      obtain ⟨a, vs, rfl, f, rs⟩ := rdS_ok S r ex
      exact .inl (.inl ⟨a, vs, rfl, f, new_lst S (rd_cut rs l u) p⟩)
    · exact p.elim
theorem de_cut (he : DE X ca W e m) (hl : DO X ca W lo ml) (hh : DO X ca W hi mh) : DE X ca W (.Subscript e (.Slice lo hi none p2) pos) (eCut m ml mh) :=
  PE.imp (pe_slice sl_cutA he hl hh) fun σ H Q ⟨L, env, s, S, e, p⟩ => ⟨L, env, s, S, e, p.bind.imp fun v H1 ⟨L1, s1, d, k1, S1, r1, p1⟩ =>
    ⟨L1, env, s1, S1, e.mono k1.mono, p1.bind.imp fun l H2 ⟨L2, s2, l', k2, S2, r2, p2⟩ =>
      ⟨L2, env, s2, S2, (e.mono k1.mono).mono k2.mono, p2.bind.imp fun u H3 ⟨L3, s3, u', k3, S3, r3, p3⟩ => by
        subst r2; subst r3
        exact imp_cut S3 (RD.mono k3.mono _ _ (RD.mono k2.mono _ _ r1)) p3⟩⟩⟩

/-! ### tests -/
def tVal (m : EM) : TM := fun env s => (m env s).bind fun d s => match d with | .bl b => .ok b s | _ => .bad
theorem dt_val (h : DE X ca W e m) (he : ∀ whole, isTrue e X.env whole = (do let v ← whole; standAt e.pos; holding [v] (truthy v)) := by intro _; rfl) : DT X ca W e (tVal m) := PT.imp (pt_val h he) fun σ H Q ⟨L, env, s, S, e, p⟩ =>
  ⟨L, env, s, S, e, p.bind.imp fun v H1 ⟨L1, s1, d, k1, S1, r1, p1⟩ => by
    split at p1
    · simp only [RD] at r1
      exact ⟨_, r1, p1 L1 _ H1 Keep.refl S1 rfl⟩
    · exact p1.elim⟩
theorem dt_cmp {op : CmpOp} {f : D → D → Store → R D} {r : R2} (ho : OpR X (compareOp op) r) (hi : Imp2 X.K ca f r) (ha : DE X ca W a ma) (hb : DE X ca W b mb) (hm : behindInMarks op b = false := by rfl) : DT X ca W (.Compare a [op] [b] pos) (tVal (e2 f ma mb)) :=
  PT.imp (pt_cmpR ho ha hb hm) fun σ H Q ⟨L, env, s, S, e, p⟩ => by
    refine tOp_of (W := W) (ma := ma) (mb := mb) hi σ H _ ⟨L, env, s, S, e, (p.bind (RA := RD X.K)).imp fun v H1 ⟨L1, s1, d, k1, S1, r1, p1⟩ => ?_⟩
    split at p1
    · simp only [RD] at r1
      exact ⟨_, r1, p1 L1 _ H1 Keep.refl S1 rfl⟩
    · exact p1.elim
theorem dt_chain {op op' : CmpOp} {f g : D → D → Store → R D} {r r' : R2} (ho : OpR X (compareOp op) r) (ho' : OpR X (compareOp op') r') (hi : Imp2 X.K ca f r) (hi' : Imp2 X.K ca g r') (ha : DE X ca W a ma) (hb : DE X ca W b mb) (hc : DE X ca W c mc)
    (hm : lastMarks [op, op'] [b, c] = false := by with_unfolding_all rfl) : DT X ca W (.Compare a [op, op'] [b, c] pos) (tVal (eChain f g ma mb mc)) :=
  PT.imp (pt_chain ho ho' ha hb hc hm) fun σ H Q ⟨L, env, s, S, e, p⟩ =>
    ⟨L, env, s, S, e, by
      unfold tVal eChain at p
      rw [R.bind_assoc] at p
      refine p.bind.imp fun v H1 ⟨L1, s1, d, k1, S1, r1, p1⟩ => ⟨L1, env, s1, S1, e.mono k1.mono, ?_⟩
      rw [R.bind_assoc] at p1
      refine p1.bind.imp fun u H2 ⟨L2, s2, d2, k2, S2, r2, p2⟩ => hi L2 H2 s2 d d2 v u _ (wE ca W σ) S2 (RD.mono k2.mono _ _ r1) r2 ?_
      rw [R.bind_assoc] at p2
      refine p2.bind.imp fun z H3 ⟨L3, s3, d3, k3, S3, r3, p3⟩ => ?_
      cases d3 with
      | bl q =>
        simp only [RD] at r3
        refine ⟨q, r3, ?_⟩
        cases q with
        | true =>
          refine iteT ⟨L3, env, s3, S3, ((e.mono k1.mono).mono k2.mono).mono k3.mono, ?_⟩
          simp only [R.bind_assoc] at p3
          refine p3.bind.imp fun w' H4 ⟨L4, s4, d4, k4, S4, r4, p4⟩ => ?_
          refine hi' L4 H4 s4 d2 d4 u w' _ (wE ca W σ) S4 (RD.mono k4.mono _ _ (RD.mono k3.mono _ _ r2)) r4 (p4.bind.imp fun y H5 ⟨L5, s5, d5, k5, S5, r5, p5⟩ => ?_)
          split at p5
          · simp only [RD] at r5
            exact ⟨_, r5, p5 L5 _ H5 Keep.refl S5 rfl⟩
          · exact p5.elim
        | false => exact iteF ⟨false, rfl, p3 L3 _ H3 Keep.refl S3 rfl⟩
      | _ => exact p3.elim⟩
def tAndM (ma mb : TM) : TM := fun env s => (ma env s).bind fun b s => if b = true then mb env s else .ok false s
def tOrM (ma mb : TM) : TM := fun env s => (ma env s).bind fun b s => if b = true then .ok true s else mb env s
def tNotM (ma : TM) : TM := fun env s => (ma env s).bind fun b s => .ok (!b) s
section
variable {ta tb : TM}
theorem dw_and1 (ha : DT X ca W a ta) : DW X ca W (.BoolOp .And [a] pos) ta := pw_and1 ha
theorem dw_or1 (ha : DT X ca W a ta) : DW X ca W (.BoolOp .Or [a] pos) ta := pw_or1 ha
theorem dw_and (ha : DT X ca W a ta) (hb : DW X ca W (.BoolOp .And (b :: rest) pos) tb) : DW X ca W (.BoolOp .And (a :: b :: rest) pos) (tAndM ta tb) := PW.imp (pw_and ha hb) fun σ H Q ⟨L, env, s, S, e, p⟩ =>
  ⟨L, env, s, S, e, p.bind.imp fun v H1 ⟨L1, s1, d, k1, S1, r1, p1⟩ => by
    subst r1
    cases d with
    | true => exact iteT ⟨L1, env, s1, S1, e.mono k1.mono, by rw [if_pos rfl] at p1; exact p1⟩
    | false => exact iteF (by rw [if_neg Bool.false_ne_true] at p1; exact p1 L1 _ H1 Keep.refl S1 rfl)⟩
theorem dw_or (ha : DT X ca W a ta) (hb : DW X ca W (.BoolOp .Or (b :: rest) pos) tb) : DW X ca W (.BoolOp .Or (a :: b :: rest) pos) (tOrM ta tb) := PW.imp (pw_or ha hb) fun σ H Q ⟨L, env, s, S, e, p⟩ =>
  ⟨L, env, s, S, e, p.bind.imp fun v H1 ⟨L1, s1, d, k1, S1, r1, p1⟩ => by
    subst r1
    cases d with
    | true => exact iteT (by rw [if_pos rfl] at p1; exact p1 L1 _ H1 Keep.refl S1 rfl)
    | false => exact iteF ⟨L1, env, s1, S1, e.mono k1.mono, by rw [if_neg Bool.false_ne_true] at p1; exact p1⟩⟩
theorem dt_w (h : DW X ca W e ta) : DT X ca W e ta := h.pt
theorem dt_not (ha : DT X ca W a ta) : DT X ca W (.UnaryOp .Not a pos) (tNotM ta) := PT.imp (pt_not ha) fun σ H Q ⟨L, env, s, S, e, p⟩ =>
  ⟨L, env, s, S, e, p.bind.imp fun v H1 ⟨L1, s1, d, k1, S1, r1, p1⟩ => by
    subst r1
    exact p1 L1 _ H1 Keep.refl S1 rfl⟩
/-- as values -/
def eAnd (ma mb : EM) : EM := fun env s => (ma env s).bind fun d s => match d with | .bl true => mb env s | .bl false => .ok (.bl false) s | _ => .bad
def eOr (ma mb : EM) : EM := fun env s => (ma env s).bind fun d s => match d with | .bl true => .ok (.bl true) s | .bl false => mb env s | _ => .bad
def eNot (ma : EM) : EM := fun env s => (ma env s).bind fun d s => match d with | .bl b => .ok (.bl (!b)) s | _ => .bad
theorem de_one {op} (h : DE X ca W a ma) : DE X ca W (.BoolOp op [a] pos) ma := pe_one h
theorem de_and (ha : DE X ca W a ma) (hb : DE X ca W (.BoolOp .And (b :: rest) pos) mb) : DE X ca W (.BoolOp .And (a :: b :: rest) pos) (eAnd ma mb) := PE.imp (pe_and ha hb) fun σ H Q ⟨L, env, s, S, e, p⟩ =>
  ⟨L, env, s, S, e, p.bind.imp fun v H1 ⟨L1, s1, d, k1, S1, r1, p1⟩ => by
    split at p1
    · simp only [RD] at r1
      exact ⟨true, r1, iteT ⟨L1, env, s1, S1, e.mono k1.mono, p1⟩⟩
    · simp only [RD] at r1
      exact ⟨false, r1, iteF (p1 L1 _ H1 Keep.refl S1 rfl)⟩
    · exact p1.elim⟩
theorem de_or (ha : DE X ca W a ma) (hb : DE X ca W (.BoolOp .Or (b :: rest) pos) mb) : DE X ca W (.BoolOp .Or (a :: b :: rest) pos) (eOr ma mb) := PE.imp (pe_or ha hb) fun σ H Q ⟨L, env, s, S, e, p⟩ =>
  ⟨L, env, s, S, e, p.bind.imp fun v H1 ⟨L1, s1, d, k1, S1, r1, p1⟩ => by
    split at p1
    · simp only [RD] at r1
      exact ⟨true, r1, iteT (p1 L1 _ H1 Keep.refl S1 rfl)⟩
    · simp only [RD] at r1
      exact ⟨false, r1, iteF ⟨L1, env, s1, S1, e.mono k1.mono, p1⟩⟩
    · exact p1.elim⟩
theorem de_not (ha : DE X ca W a ma) : DE X ca W (.UnaryOp .Not a pos) (eNot ma) := PE.imp (pe_not ha) fun σ H Q ⟨L, env, s, S, e, p⟩ =>
  ⟨L, env, s, S, e, p.bind.imp fun v H1 ⟨L1, s1, d, k1, S1, r1, p1⟩ => by
    split at p1
    · simp only [RD] at r1
      exact ⟨_, r1, p1 L1 _ H1 Keep.refl S1 rfl⟩
    · exact p1.elim⟩
def eIf (t : TM) (ma mb : EM) : EM := fun env s => (t env s).bind fun b s => if b = true then ma env s else mb env s
theorem de_if (hc : DT X ca W c ta) (ha : DE X ca W a ma) (hb : DE X ca W b mb) : DE X ca W (.IfExp c a b pos) (eIf ta ma mb) := PE.imp (pe_ifExp hc ha hb) fun σ H Q ⟨L, env, s, S, e, p⟩ =>
  ⟨L, env, s, S, e, p.bind.imp fun v H1 ⟨L1, s1, d, k1, S1, r1, p1⟩ => by
    subst r1
    cases d with
    | true => exact iteT ⟨L1, env, s1, S1, e.mono k1.mono, by rw [if_pos rfl] at p1; exact p1⟩
    | false => exact iteF ⟨L1, env, s1, S1, e.mono k1.mono, by rw [if_neg Bool.false_ne_true] at p1; exact p1⟩⟩
end
/-- minus -/
def eNeg (ma : EM) : EM := fun env s => (ma env s).bind fun d s => match d with | .int i => .ok (.int (-i)) s | _ => .bad
theorem de_neg (ha : DE X ca W a ma) : DE X ca W (.UnaryOp .USub a pos) (eNeg ma) := PE.imp (pe_un un_neg ha) fun σ H Q ⟨L, env, s, S, e, p⟩ =>
  ⟨L, env, s, S, e, p.bind.imp fun v H1 ⟨L1, s1, d, k1, S1, r1, p1⟩ => by
    split at p1
    · simp only [RD] at r1
      exact ⟨_, r1, p1 L1 _ H1 Keep.refl S1 rfl⟩
    · exact p1.elim⟩

/-! ### calls of built-ins -/
def ImpC (K : PySem.W.Frag) (ca : Nat → Addr) (f : List D → Store → R D) (r : List V → Hp → VK → Prop) : Prop := ∀ (L : Lv) (H : Hp) (s : Store) (xs : List D) (vs : List V) (Q : VK) (E : Nat → Hp → Prop),
  SR K ca L s H → RDs K L H xs vs → post K ca (RD K) L H (f xs s) Q E → r vs H Q
def eCall (f : List D → Store → R D) (ms : AM) : EM := fun env s => (ms env s).bind fun ds s => f ds s
theorem tCB_of {f : List D → Store → R D} {r : List V → Hp → VK → Prop} {ms : AM} (hi : ImpC X.K ca f r) : ∀ σ H Q, tE X.K ca W (eCall f ms) σ H Q → tCB r (tA X.K ca W ms) σ H Q := fun σ H Q ⟨L, env, s, S, e, p⟩ =>
  ⟨L, env, s, S, e, p.bind.imp fun vs H1 ⟨L1, s1, ds, k1, S1, r1, p1⟩ => hi L1 H1 s1 ds vs Q _ S1 r1 p1⟩
section
variable {id T : String} {r : List V → Hp → VK → Prop} {f : List D → Store → R D} {ms : AM} {x : Str} {p : Pos}
theorem de_callB (hc : CallR X (.builtin id) r) (hi : ImpC X.K ca f r) (hg : Gl X x) (hm : X.mg x = none) (hv : bootBuiltins x = some (.builtin id)) (ha : DA X ca W (e :: es) ms) (hn : x ≠ "__name__" := by decide) (hdb : (x == ("__debug__" : Str)) = false := by decide)
    (he : starEach (e :: es) X.env = (false, eval e X.env) :: starEach es X.env := by rfl) (hpl : (backTo pos (starEach es X.env)).any (·.1) = false := by rfl) : DE X ca W (.Call (.Name x p) (e :: es) [] pos) (eCall f ms) :=
  PE.imp (pe_callB hc hg hm hv ha hn hdb he hpl) (tCB_of hi)
theorem de_callTy (hc : CallR X (.type T) r) (hi : ImpC X.K ca f r) (hg : Gl X x) (hm : X.mg x = none) (hv : bootBuiltins x = some (.type T)) (ha : DA X ca W (e :: es) ms) (hn : x ≠ "__name__" := by decide) (hdb : (x == ("__debug__" : Str)) = false := by decide)
    (he : starEach (e :: es) X.env = (false, eval e X.env) :: starEach es X.env := by rfl) (hpl : (backTo pos (starEach es X.env)).any (·.1) = false := by rfl) : DE X ca W (.Call (.Name x p) (e :: es) [] pos) (eCall f ms) :=
  PE.imp (pe_callTy hc hg hm hv ha hn hdb he hpl) (tCB_of hi)
end
def lenD : List D → Store → R D := fun xs s => match xs with
  | [.str z] => if z.length ≤ LINE then .ok (.int z.length) s else .bad
  | [.tup xs] => .ok (.int xs.length) s
  | [x] => match rdS s x with | some xs => .ok (.int xs.length) s | none => .bad
  | _ => .bad
theorem RDs.one {K : PySem.W.Frag} {L : Lv} {H : Hp} {x : D} {vs : List V} (h : RDs K L H [x] vs) : ∃ v, vs = [v] ∧ RD K L H x v := by
  simp only [RDs] at h
  obtain ⟨v, ws, rfl, r, rfl⟩ := h
  exact ⟨v, rfl, r⟩
theorem RDs.two {K : PySem.W.Frag} {L : Lv} {H : Hp} {x y : D} {vs : List V} (h : RDs K L H [x, y] vs) : ∃ v w, vs = [v, w] ∧ RD K L H x v ∧ RD K L H y w := by
  simp only [RDs] at h
  obtain ⟨v, ws, rfl, r, w, us, rfl, r2, rfl⟩ := h
  exact ⟨v, w, rfl, r, r2⟩
theorem imp_len : ImpC X.K ca lenD (fun xs H Q => ∃ x n, xs = [x] ∧ LenV X.K x H n ∧ Q (.int n) H) := by
  intro L H s xs vs Q E S h p
  unfold lenD at p
  split at p
  · split at p
    · rename_i z hz
      obtain ⟨v, rfl, r⟩ := h.one
      simp only [RD] at r
      subst r
      exact ⟨_, z.length, rfl, ⟨by rw [line_eq]; exact hz, rfl⟩, p L _ H Keep.refl S rfl⟩
    · exact p.elim
  · rename_i xs
    obtain ⟨v, rfl, r⟩ := h.one
    simp only [RD] at r
    obtain ⟨a, vs, rfl, f, rs⟩ := r
    exact ⟨_, xs.length, rfl, .inr ⟨vs, f.sq, rs.length⟩, p L _ H Keep.refl S rfl⟩
  · split at p
    · rename_i xs ex
      obtain ⟨v, rfl, r⟩ := h.one
      obtain ⟨a, vs, rfl, f, rs⟩ := rdS_ok S r ex
      exact ⟨_, xs.length, rfl, .inl ⟨vs, f, rs.length⟩, p L _ H Keep.refl S rfl⟩
    · exact p.elim
  · exact p.elim
def listD : List D → Store → R D := fun xs s => match xs with
  | [.tup xs] => .ok (.lst xs) s
  | [x] => match rdS s x with | some xs => .ok (.lst xs) s | none => .bad
  | _ => .bad
theorem imp_list : ImpC X.K ca listD (fun xs H Q => ∃ p ys, xs = [.ref p] ∧ (SqL X.K H p ys ∨ SqT X.K H p ys) ∧ ∀ l, H l = none → Q (.ref l) (upd H l (.lst ys))) := by
  intro L H s xs vs Q E S h p
  unfold listD at p
  split at p
  · obtain ⟨v, rfl, r⟩ := h.one
    simp only [RD] at r
    obtain ⟨a, vs, rfl, f, rs⟩ := r
    exact ⟨a, vs, rfl, .inr f.sq, new_lst S rs p⟩
  · split at p
    · rename_i ex
      obtain ⟨v, rfl, r⟩ := h.one
      obtain ⟨a, vs, rfl, f, rs⟩ := rdS_ok S r ex
      exact ⟨a, vs, rfl, .inl f, new_lst S rs p⟩
    · exact p.elim
  · exact p.elim
def tupleD : List D → Store → R D := fun xs s => match xs with
  | [.tup xs] => .ok (.tup xs) s
  | [x] => match rdS s x with | some xs => .ok (.tup xs) s | none => .bad
  | _ => .bad
theorem imp_tuple : ImpC X.K ca tupleD (fun xs H Q => ∃ p ys, xs = [.ref p] ∧ ((SqL X.K H p ys ∧ ∀ l, H l = none → Q (.ref l) (upd H l (.tup ys))) ∨ (SqT X.K H p ys ∧ Q (.ref p) H))) := by
  intro L H s xs vs Q E S h p
  unfold tupleD at p
  split at p
  · obtain ⟨v, rfl, r⟩ := h.one
    have r' := r
    simp only [RD] at r
    obtain ⟨a, vs, rfl, f, rs⟩ := r
    exact ⟨a, vs, rfl, .inr ⟨f.sq, p L _ H Keep.refl S r'⟩⟩
  · split at p
    · rename_i ex
      obtain ⟨v, rfl, r⟩ := h.one
      obtain ⟨a, vs, rfl, f, rs⟩ := rdS_ok S r ex
      exact ⟨a, vs, rfl, .inl ⟨f, new_tup S rs p⟩⟩
    · exact p.elim
  · exact p.elim
def bools : List D → Option (List Bool)
  | [] => some []
  | .bl b :: r => (bools r).map (b :: ·)
  | _ => none
theorem bools_ok {K : PySem.W.Frag} {L : Lv} {H : Hp} : ∀ {ds : List D} {vs : List V} {bs : List Bool}, bools ds = some bs → RDs K L H ds vs → vs = bs.map V.bl
  | [], vs, bs, e, r => by simp only [bools] at e; cases e; simp only [RDs] at r; subst r; rfl
  | d :: ds, vs, bs, e, r => by
    cases d with
    | bl b =>
      simp only [bools] at e
      cases q : bools ds with
      | none => rw [q] at e; cases e
      | some cs =>
        rw [q] at e; cases e
        simp only [RDs] at r
        obtain ⟨w, ws, rfl, r1, r2⟩ := r
        simp only [RD] at r1
        subst r1
        rw [bools_ok q r2]; rfl
    | _ => cases e
def intsD : List D → Option (List Int)
  | [] => some []
  | .int b :: r => (intsD r).map (b :: ·)
  | _ => none
theorem intsD_ok {K : PySem.W.Frag} {L : Lv} {H : Hp} : ∀ {ds : List D} {vs : List V} {bs : List Int}, intsD ds = some bs → RDs K L H ds vs → vs = bs.map V.int
  | [], vs, bs, e, r => by simp only [intsD] at e; cases e; simp only [RDs] at r; subst r; rfl
  | d :: ds, vs, bs, e, r => by
    cases d with
    | int b =>
      simp only [intsD] at e
      cases q : intsD ds with
      | none => rw [q] at e; cases e
      | some cs =>
        rw [q] at e; cases e
        simp only [RDs] at r
        obtain ⟨w, ws, rfl, r1, r2⟩ := r
        simp only [RD] at r1
        subst r1
        rw [intsD_ok q r2]; rfl
    | _ => cases e
def allD : List D → Store → R D := fun xs s => match xs with
  | [x] => match rdS s x with | some xs => (match bools xs with | some bs => .ok (.bl (bs.all id)) s | none => .bad) | none => .bad
  | _ => .bad
def anyD : List D → Store → R D := fun xs s => match xs with
  | [x] => match rdS s x with | some xs => (match bools xs with | some bs => .ok (.bl (bs.any id)) s | none => .bad) | none => .bad
  | _ => .bad
def sumD : List D → Store → R D := fun xs s => match xs with
  | [x] => match rdS s x with | some xs => (match intsD xs with | some bs => .ok (.int bs.sum) s | none => .bad) | none => .bad
  | _ => .bad
theorem imp_all : ImpC X.K ca allD (rAll X.K) := by
  intro L H s xs vs Q E S h p
  unfold allD at p
  split at p
  · split at p
    · rename_i ex
      split at p
      · rename_i bs eb
        obtain ⟨v, rfl, r⟩ := h.one
        obtain ⟨a, vs, rfl, f, rs⟩ := rdS_ok S r ex
        have := bools_ok eb rs
        subst this
        exact ⟨a, bs, rfl, f, p L _ H Keep.refl S rfl⟩
      · exact p.elim
    · exact p.elim
  · exact p.elim
theorem imp_any : ImpC X.K ca anyD (rAny X.K) := by
  intro L H s xs vs Q E S h p
  unfold anyD at p
  split at p
  · split at p
    · rename_i ex
      split at p
      · rename_i bs eb
        obtain ⟨v, rfl, r⟩ := h.one
        obtain ⟨a, vs, rfl, f, rs⟩ := rdS_ok S r ex
        have := bools_ok eb rs
        subst this
        exact ⟨a, bs, rfl, f, p L _ H Keep.refl S rfl⟩
      · exact p.elim
    · exact p.elim
  · exact p.elim
theorem imp_sum : ImpC X.K ca sumD (rSum X.K) := by
  intro L H s xs vs Q E S h p
  unfold sumD at p
  split at p
  · split at p
    · rename_i ex
      split at p
      · rename_i bs eb
        obtain ⟨v, rfl, r⟩ := h.one
        obtain ⟨a, vs, rfl, f, rs⟩ := rdS_ok S r ex
        have := intsD_ok eb rs
        subst this
        exact ⟨a, bs, rfl, f, p L _ H Keep.refl S rfl⟩
      · exact p.elim
    · exact p.elim
  · exact p.elim
def maxD : List D → Store → R D := fun xs s => match xs with | [.int i, .int j] => .ok (.int (if j > i then j else i)) s | _ => .bad
def minD : List D → Store → R D := fun xs s => match xs with | [.int i, .int j] => .ok (.int (if j < i then j else i)) s | _ => .bad
def intD : List D → Store → R D := fun xs s => match xs with | [.int i] => .ok (.int i) s | [.bl b] => .ok (.int (if b then 1 else 0)) s | _ => .bad
def absD : List D → Store → R D := fun xs s => match xs with | [.int i] => .ok (.int (if i < 0 then -i else i)) s | _ => .bad
theorem imp_max : ImpC X.K ca maxD (fun xs H Q => ∃ i j, xs = [.int i, .int j] ∧ Q (.int (if j > i then j else i)) H) := by
  intro L H s xs vs Q E S h p
  unfold maxD at p
  split at p
  · obtain ⟨v, w, rfl, r, r2⟩ := h.two
    simp only [RD] at r r2
    subst r; subst r2
    exact ⟨_, _, rfl, p L _ H Keep.refl S rfl⟩
  · exact p.elim
theorem imp_min : ImpC X.K ca minD (fun xs H Q => ∃ i j, xs = [.int i, .int j] ∧ Q (.int (if j < i then j else i)) H) := by
  intro L H s xs vs Q E S h p
  unfold minD at p
  split at p
  · obtain ⟨v, w, rfl, r, r2⟩ := h.two
    simp only [RD] at r r2
    subst r; subst r2
    exact ⟨_, _, rfl, p L _ H Keep.refl S rfl⟩
  · exact p.elim
theorem imp_int : ImpC X.K ca intD (fun xs H Q => (∃ i, xs = [.int i] ∧ Q (.int i) H) ∨ ∃ k, xs = [.bl k] ∧ Q (.int (if k then 1 else 0)) H) := by
  intro L H s xs vs Q E S h p
  unfold intD at p
  split at p
  · obtain ⟨v, rfl, r⟩ := h.one
    simp only [RD] at r
    subst r
    exact .inl ⟨_, rfl, p L _ H Keep.refl S rfl⟩
  · obtain ⟨v, rfl, r⟩ := h.one
    simp only [RD] at r
    subst r
    exact .inr ⟨_, rfl, p L _ H Keep.refl S rfl⟩
  · exact p.elim
theorem imp_abs : ImpC X.K ca absD (fun xs H Q => ∃ i, xs = [.int i] ∧ Q (.int (if i < 0 then -i else i)) H) := by
  intro L H s xs vs Q E S h p
  unfold absD at p
  split at p
  · obtain ⟨v, rfl, r⟩ := h.one
    simp only [RD] at r
    subst r
    exact ⟨_, rfl, p L _ H Keep.refl S rfl⟩
  · exact p.elim
end
end DE
/-! DE5: isinstance, methods of texts, calls of the text's defs, statements, a def by its body -/
namespace DE
open PySem PySem.Spec PyProof.Rows L2

/-! ### isinstance -/
def tyOf (s : Store) : D → Option String
  | .non => some "NoneType"
  | .bl _ => some "bool"
  | .int _ => some "int"
  | .str _ => some "str"
  | .tup _ => some "tuple"
  | .lst _ => some "list"
  | .dct _ _ => some "dict"
  | .ref l => match s[l]? with
    | some (.lst _) => some "list"
    | some (.dK _ _) => some "dict"
    | some (.dT _ _) => some "dict"
    | _ => none
  | .scr _ => some "list"
  | .exc _ _ => none
  | .obj _ _ => none
def isTy (a b : String) : Bool := a == b || (a == "bool" && b == "int")
def tys : List String := ["NoneType", "bool", "int", "str", "tuple", "list", "dict"]
theorem kit_tys : (tys.all fun a => tys.all fun b => decide (kitB a b = some (isTy a b))) = true := by decide +kernel
theorem kit_of {a b : String} (ha : a ∈ tys) (hb : b ∈ tys) : kitB a b = some (isTy a b) := of_decide_eq_true (List.all_eq_true.mp (List.all_eq_true.mp kit_tys a ha) b hb)
def isiD (n : String) (m : EM) : EM := fun env s => (m env s).bind fun d s => match tyOf s d with | some t => .ok (.bl (isTy t n)) s | none => .bad
section
variable {X : Cx} {ca : Nat → Addr} {W : WX} {e a b c : Expr} {es rest : List Expr} {m ma mb mc : EM} {ms : AM} {pos p p2 apos : Pos}
theorem ty_ok {K : PySem.W.Frag} {L : Lv} {H : Hp} {s : Store} (S : SR K ca L s H) {d : D} {v : V} {t : String} (r : RD K L H d v) (e : tyOf s d = some t) : TyX K H v (.type t) ∧ t ∈ tys := by
  cases d with
  | non => cases e; simp only [RD] at r; subst r; exact ⟨.base .non, by decide⟩
  | bl b => cases e; simp only [RD] at r; subst r; exact ⟨.base (.bl b), by decide⟩
  | int i => cases e; simp only [RD] at r; subst r; exact ⟨.base (.int i), by decide⟩
  | str x => cases e; simp only [RD] at r; subst r; exact ⟨.base (.str x), by decide⟩
  | tup xs =>
    cases e
    simp only [RD] at r
    obtain ⟨a, vs, rfl, f, _⟩ := r
    refine ⟨?_, by decide⟩
    rcases f with ⟨_, _, q⟩ | ⟨_, o, its, n, h1, h2, _⟩
    · exact .base (.tup q)
    · exact .kTuple h1 h2
  | lst xs =>
    cases e
    simp only [RD] at r
    obtain ⟨a, vs, rfl, f, _⟩ := r
    exact ⟨.base (.lst f.2.2), by decide⟩
  | dct ks xs =>
    cases e
    simp only [RD] at r
    obtain ⟨a, vs, rfl, f, _⟩ := r
    exact ⟨.base (.dK f.2.2), by decide⟩
  | ref l =>
    simp only [RD] at r
    obtain ⟨a, rfl, ea⟩ := r
    obtain ⟨c, ec, k⟩ := S.at ea
    unfold tyOf at e
    simp only [ec] at e
    cases c with
    | lst ys => cases e; obtain ⟨vs, h1, h2⟩ := k; exact ⟨.base (.lst h1), by decide⟩
    | dK ks ys => cases e; obtain ⟨vs, h1, h2⟩ := k; exact ⟨.base (.dK h1), by decide⟩
    | dT ks ys => cases e; obtain ⟨vs, h1, h2⟩ := k; exact ⟨.base (.dT h1), by decide⟩
    | ins => cases e
  | scr ns =>
    cases e
    simp only [RD] at r
    obtain ⟨a, rfl, f⟩ := r
    refine ⟨?_, by decide⟩
    rcases f with ⟨_, _, q | ⟨ob, q⟩⟩ | ⟨o, its, n, h1, h2, _⟩
    · exact .base (.lst q)
    · exact .base (.frz q)
    · exact .kList h1 h2
  | exc => cases e
  | obj => cases e
theorem de_isi {T : Str} {n : String} (hm : X.mg "isinstance" = none) (hT : X.mg T = none) (hv : bootBuiltins T = some (.type n)) (hn : n ∈ tys) (he : DE X ca W e m) (hg : Gl X "isinstance" := by rfl) (hgT : Gl X T := by rfl) (hT0 : T ≠ "__name__" := by decide) (hTd : (T == ("__debug__" : Str)) = false := by decide)
    (h1 : starEach (.Name T p2 :: []) X.env = (false, eval (.Name T p2) X.env) :: starEach [] X.env := by rfl) (h2 : starEach (e :: [.Name T p2]) X.env = (false, eval e X.env) :: starEach [.Name T p2] X.env := by rfl) (hpl : (backTo pos (starEach [.Name T p2] X.env)).any (·.1) = false := by rfl) :
    DE X ca W (.Call (.Name "isinstance" p) [e, .Name T p2] [] pos) (isiD n m) :=
  PE.imp (pe_callB call_isi hg hm boot_isinstance (pa_cons he (pa_cons (pe_bltn (v := .ty n) hgT hT hv rfl hT0 hTd) pa_nil h1) h2) (by decide) (by decide) h2 hpl) fun σ H Q ⟨L, env, s, S, e, p⟩ =>
    ⟨L, env, s, S, e, p.bind.imp fun v H1 ⟨L1, s1, d, k1, S1, r1, p1⟩ => by
      split at p1
      · rename_i t et
        obtain ⟨ty, ht⟩ := ty_ok S1 r1 et
        exact ⟨v, .ty n, .type t, .type n, _, rfl, .ty n, ty, kit_ty (kit_of ht hn), p1 L1 _ H1 Keep.refl S1 rfl⟩
      · exact p1.elim⟩

/-! ### methods of texts -/
def strsD : List D → Option (List Str)
  | [] => some []
  | .str b :: r => (strsD r).map (b :: ·)
  | _ => none
theorem strsD_ok {K : PySem.W.Frag} {L : Lv} {H : Hp} : ∀ {ds : List D} {vs : List V} {bs : List Str}, strsD ds = some bs → RDs K L H ds vs → vs = bs.map V.str
  | [], vs, bs, e, r => by simp only [strsD] at e; cases e; simp only [RDs] at r; subst r; rfl
  | d :: ds, vs, bs, e, r => by
    cases d with
    | str b =>
      simp only [strsD] at e
      cases q : strsD ds with
      | none => rw [q] at e; cases e
      | some cs =>
        rw [q] at e; cases e
        simp only [RDs] at r
        obtain ⟨w, ws, rfl, r1, r2⟩ := r
        simp only [RD] at r1
        subst r1
        rw [strsD_ok q r2]; rfl
    | _ => cases e
/-- o.name(e), o a text -/
def eM1 (f : Str → D → Store → R D) (ma m : EM) : EM := fun env s => (ma env s).bind fun x s => match x with
  | .str z => (m env s).bind fun y s => f z y s
  | _ => .bad
def ImpS (K : PySem.W.Frag) (ca : Nat → Addr) (f : Str → D → Store → R D) (r : V → List V → Hp → VK → Prop) : Prop := ∀ (L : Lv) (H : Hp) (s : Store) (z : Str) (y : D) (u : V) (Q : VK) (E : Nat → Hp → Prop),
  SR K ca L s H → RD K L H y u → post K ca (RD K) L H (f z y s) Q E → r (.str z) [u] H Q
theorem tM1_of {f : Str → D → Store → R D} {r : V → List V → Hp → VK → Prop} (hi : ImpS X.K ca f r) : ∀ σ H Q, tE X.K ca W (eM1 f ma m) σ H Q → tM1 r (tE X.K ca W ma) (tE X.K ca W m) σ H Q := fun σ H Q ⟨L, env, s, S, e, p⟩ =>
  ⟨L, env, s, S, e, p.bind.imp fun v H1 ⟨L1, s1, d, k1, S1, r1, p1⟩ => by
    cases d with
    | str z =>
      simp only [RD] at r1
      subst r1
      exact ⟨⟨z, rfl⟩, L1, env, s1, S1, e.mono k1.mono, p1.bind.imp fun w H2 ⟨L2, s2, d2, k2, S2, r2, p2⟩ => hi L2 H2 s2 z d2 w Q _ S2 r2 p2⟩
    | _ => exact p1.elim⟩
def joinD : Str → D → Store → R D := fun a y s => match rdS s y with
  | some ys => match strsD ys with
    | some zs => if (zs.map (·.length)).sum + zs.length * a.length ≤ LINE then .ok (.str (Txt.join a zs)) s else .bad
    | none => .bad
  | none => .bad
theorem imp_join : ImpS X.K ca joinD (fun x xs H Q => ∃ a p, ∃ ys : List Str, x = .str a ∧ xs = [.ref p] ∧ (SqL X.K H p (ys.map V.str) ∨ SqT X.K H p (ys.map V.str)) ∧ (ys.map (·.length)).sum + ys.length * a.length ≤ 16777216 ∧ Q (.str (Txt.join a ys)) H) := by
  intro L H s z y u Q E S r p
  unfold joinD at p
  split at p
  · rename_i ys ey
    obtain ⟨q, vs, rfl, f, rs⟩ := rdS_ok S r ey
    split at p
    · rename_i zs ez
      split at p
      · rename_i hz
        have := strsD_ok ez rs
        subst this
        exact ⟨z, q, zs, rfl, rfl, .inl f, hz, p L _ H Keep.refl S rfl⟩
      · exact p.elim
    · exact p.elim
  · exact p.elim
theorem de_join (ho : DE X ca W a ma) (he : DE X ca W e m) (hs : starEach [e] X.env = [(false, eval e X.env)] := by rfl) (hbase : attributeBase a "join" X.env (eval a X.env) = eval a X.env := by rfl) (hline : (apos.endLine == pos.line) = true := by rfl) :
    DE X ca W (.Call (.Attribute a "join" apos) [e] [] pos) (eM1 joinD ma m) := PE.imp (pe_join ho he hs hbase hline) (tM1_of imp_join)
def countD : Str → D → Store → R D := fun a y s => match y with
  | .str b => .ok (.int (Txt.count a b)) s
  | _ => .bad
theorem imp_count : ImpS X.K ca countD (fun x xs H Q => ∃ a b, x = .str a ∧ xs = [.str b] ∧ Q (.int (Txt.count a b)) H) := by
  intro L H s z y u Q E S r p
  unfold countD at p
  split at p
  · simp only [RD] at r
    subst r
    exact ⟨_, _, rfl, rfl, p L _ H Keep.refl S rfl⟩
  · exact p.elim
theorem de_count (ho : DE X ca W a ma) (he : DE X ca W e m) (hs : starEach [e] X.env = [(false, eval e X.env)] := by rfl) (hbase : attributeBase a "count" X.env (eval a X.env) = eval a X.env := by rfl) (hline : (apos.endLine == pos.line) = true := by rfl) :
    DE X ca W (.Call (.Attribute a "count" apos) [e] [] pos) (eM1 countD ma m) := PE.imp (pe_m1 PySem.F.slot_str_count PySem.F.type_str_count mt_count ho he hs hbase hline) (tM1_of imp_count)

/-! ### calls of the text's defs -/
abbrev Fn := List D → Store → R D
/-- what a def promises: its function's result -/
def spOf (K : PySem.W.Frag) (ca : Nat → Addr) (n : Nat) (fn : Fn) : Sp := fun vs H Q E => ∃ L ds s, ds.length = n ∧ SR K ca L s H ∧ RDs K L H ds vs ∧ post K ca (RD K) L H (fn ds s) Q (fun c H' => E (.ref (ca c)) none H')
/-- .. with so many arguments -/
def ar (n : Nat) (fn : Fn) : Fn := fun ds s => if ds.length = n then fn ds s else .bad
theorem de_call {k n : Nat} {f : Addr} {fd : FuncData} {ps : List Str} {fn : Fn} {x : Str} (F : FnOk X.prog X.w X.K X.mg X.base (L2N.CX X.prog X.w) k f fd ps (spOf X.K ca n fn)) (hr : Room k X.A) (tk : L2N.Takes X W) (hm : X.mg x = some (.ref f)) (hk : PySem.W.keepIn X.K (.ref f) = true) (hb : Binds X.K fd ps [])
    (ha : DA X ca W (e :: es) ms) (hg : Gl X x := by rfl) (hdb : (x == ("__debug__" : Str)) = false := by decide) (he : starEach (e :: es) X.env = (false, eval e X.env) :: starEach es X.env := by rfl) (hpl : (backTo pos (starEach es X.env)).any (·.1) = false := by rfl) :
    DE X ca W (.Call (.Name x p) (e :: es) [] pos) (eCall (ar n fn) ms) :=
  PE.imp (pe_callS (E := WE W) F hr hg hm hk hb (L2N.passAt tk) ha hdb he hpl) fun σ H Q ⟨L, env, s, S, e, p⟩ =>
    ⟨L, env, s, S, e, p.bind.imp fun vs H1 ⟨L1, s1, ds, k1, S1, r1, p1⟩ => by
      unfold ar at p1
      split at p1
      · rename_i hn
        exact ⟨L1, ds, s1, hn, S1, r1, p1⟩
      · exact p1.elim⟩

/-! ### statements -/
inductive RS where
  | next (env : Env) (s : Store) | ret (d : D) (s : Store) | brk (env : Env) (s : Store) | cnt (env : Env) (s : Store) | exc (c : Nat) (s : Store) | bad
abbrev SM := Env → Store → RS
def R.bindS {α : Type} (r : R α) (k : α → Store → RS) : RS := match r with
  | .ok a s => k a s
  | .exc c s => .exc c s
  | .bad => .bad
@[simp] theorem R.bindS_ok {α : Type} (a : α) (s : Store) (k : α → Store → RS) : (R.ok a s).bindS k = k a s := rfl
@[simp] theorem R.bindS_exc {α : Type} (c : Nat) (s : Store) (k : α → Store → RS) : (R.exc c s : R α).bindS k = .exc c s := rfl
@[simp] theorem R.bindS_bad {α : Type} (k : α → Store → RS) : (R.bad : R α).bindS k = .bad := rfl
def RS.bind (r : RS) (k : SM) : RS := match r with
  | .next env s => k env s
  | r => r
@[simp] theorem RS.bind_next (env : Env) (s : Store) (k : SM) : (RS.next env s).bind k = k env s := rfl
@[simp] theorem RS.bind_ret (d : D) (s : Store) (k : SM) : (RS.ret d s).bind k = .ret d s := rfl
@[simp] theorem RS.bind_brk (env : Env) (s : Store) (k : SM) : (RS.brk env s).bind k = .brk env s := rfl
@[simp] theorem RS.bind_cnt (env : Env) (s : Store) (k : SM) : (RS.cnt env s).bind k = .cnt env s := rfl
@[simp] theorem RS.bind_exc (c : Nat) (s : Store) (k : SM) : (RS.exc c s).bind k = .exc c s := rfl
@[simp] theorem RS.bind_bad (k : SM) : RS.bad.bind k = .bad := rfl
def postS (K : PySem.W.Frag) (ca : Nat → Addr) (L : Lv) (H : Hp) (r : RS) (T : Ends) (E : Nat → Hp → Prop) : Prop := match r with
  | .next env s => ∀ L' σ' H', Keep L H L' H' → SR K ca L' s H' → ER K L' H' env σ' → T.nx σ' H'
  | .brk env s => ∀ L' σ' H', Keep L H L' H' → SR K ca L' s H' → ER K L' H' env σ' → T.bk σ' H'
  | .cnt env s => ∀ L' σ' H', Keep L H L' H' → SR K ca L' s H' → ER K L' H' env σ' → T.ct σ' H'
  | .ret d s => ∀ L' v H', Keep L H L' H' → SR K ca L' s H' → RD K L' H' d v → T.rt v H'
  | .exc c s => ∀ L' H', Keep L H L' H' → SR K ca L' s H' → E c H'
  | .bad => False
section
variable {K : PySem.W.Frag} {L L2 : Lv} {H H2 : Hp} {r : RS} {T T' : Ends} {E E' : Nat → Hp → Prop}
theorem postS.from (p : postS K ca L H r T E) (k : Keep L H L2 H2) : postS K ca L2 H2 r T E := by
  cases r with
  | next env s => exact fun L' b H' k' => p L' b H' (k.trans k')
  | brk env s => exact fun L' b H' k' => p L' b H' (k.trans k')
  | cnt env s => exact fun L' b H' k' => p L' b H' (k.trans k')
  | ret env s => exact fun L' b H' k' => p L' b H' (k.trans k')
  | exc c s => exact fun L' H' k' => p L' H' (k.trans k')
  | bad => exact p
theorem postS.impE (p : postS K ca L H r T E) (h : ∀ c H', E c H' → E' c H') : postS K ca L H r T E' := by
  cases r with
  | exc c s => exact fun L' H' k' S => h _ _ (p L' H' k' S)
  | next env s => exact p
  | brk env s => exact p
  | cnt env s => exact p
  | ret env s => exact p
  | bad => exact p
theorem postS.ofR {α β : Type} {RA : Lv → Hp → α → β → Prop} {q : R α} {k : α → Store → RS} (p : postS K ca L H (q.bindS k) T E) :
    post K ca RA L H q (fun b H1 => ∃ L1 s1 a, Keep L H L1 H1 ∧ SR K ca L1 s1 H1 ∧ RA L1 H1 a b ∧ postS K ca L1 H1 (k a s1) T E) E := by
  cases q with
  | ok a s => exact fun L' b H' k' S q => ⟨L', s, a, k', S, q, p.from k'⟩
  | exc c s => exact p
  | bad => exact p
end
def tS (K : PySem.W.Frag) (ca : Nat → Addr) (W : WX) (m : SM) : TS := fun T σ H => ∃ L env s, SR K ca L s H ∧ ER K L H env σ ∧ postS K ca L H (m env s) T (wE ca W σ)
def DS (X : Cx) (ca : Nat → Addr) (W : WX) (st : Stmt) (m : SM) : Prop := PS X st (tS X.K ca W m)
def DSs (X : Cx) (ca : Nat → Addr) (W : WX) (st : List Stmt) (m : SM) : Prop := PSs X st (tS X.K ca W m)
def sPass : SM := fun env s => .next env s
def sBad : SM := fun _ _ => .bad
def sRet (m : EM) : SM := fun env s => (m env s).bindS fun d s => .ret d s
def sRetN : SM := fun _ s => .ret .non s
def sExpr (m : EM) : SM := fun env s => (m env s).bindS fun _ s => .next env s
def sSet (i : Nat) (m : EM) : SM := fun env s => (m env s).bindS fun d s => .next (env.set i (some d)) s
def sSeq (m n : SM) : SM := fun env s => (m env s).bind n
def sIf (t : TM) (m n : SM) : SM := fun env s => (t env s).bindS fun b s => if b = true then m env s else n env s
/-- the wish looks at no slots -/
def Wid (W : WX) : Prop := ∀ c d σ σ' H, W c d σ H → W c d σ' H
variable {st : Stmt} {sts : List Stmt} {sm sn : SM} {tc : TM}
theorem ds_pass : DS X ca W (.Pass pos) sPass := PS.imp ps_pass fun T σ H ⟨L, env, s, S, e, p⟩ => p L σ H Keep.refl S e
theorem ds_break : DS X ca W (.Break pos) (fun env s => .brk env s) := PS.imp ps_break fun T σ H ⟨L, env, s, S, e, p⟩ => p L σ H Keep.refl S e
theorem ds_never : DS X ca W st sBad := ⟨fun _ _ _ _ _ _ ⟨_, _, _, _, _, p⟩ => p.elim⟩
theorem dss_never : DSs X ca W sts sBad := ⟨fun _ _ _ _ _ _ ⟨_, _, _, _, _, p⟩ => p.elim⟩
theorem ds_ret (h : DE X ca W e m) : DS X ca W (.Return (some e) pos) (sRet m) := PS.imp (ps_ret h) fun T σ H ⟨L, env, s, S, e, p⟩ =>
  ⟨L, env, s, S, e, p.ofR.imp fun v H1 ⟨L1, s1, d, k1, S1, r1, p1⟩ => p1 L1 v H1 Keep.refl S1 r1⟩
theorem ds_retN : DS X ca W (.Return none pos) sRetN := PS.imp ps_retN fun T σ H ⟨L, env, s, S, e, p⟩ => p L _ H Keep.refl S rfl
theorem ds_expr (h : DE X ca W e m) (hs : swapsWith e none pos.line X.env = pure false := by rfl) : DS X ca W (.Expr e pos) (sExpr m) := PS.imp (ps_expr h hs) fun T σ H ⟨L, env, s, S, e, p⟩ =>
  ⟨L, env, s, S, e, p.ofR.imp fun v H1 ⟨L1, s1, d, k1, S1, r1, p1⟩ => p1 L1 σ H1 Keep.refl S1 (e.mono k1.mono)⟩
theorem ds_set (i : Nat) {x : Str} {pos' : Pos} (hN : X.N.Nodup) (h : DE X ca W e m) (hi : X.N[i]? = some x := by rfl) (hx : Loc X.env.scope x := by first | exact Or.inl rfl | exact Or.inr rfl) (hs : swapsWith e (some (.Name x pos')) pos.line X.env = pure false := by rfl)
    (hf : X.fn x = true ∨ X.env.scope.names.lookup x = some .local := by first | exact .inl rfl | exact .inr rfl | assumption) : DS X ca W (.Assign [.Name x pos'] e pos) (sSet i m) := PS.imp (ps_set hN hi hx h hs hf) fun T σ H ⟨L, env, s, S, e, p⟩ =>
  ⟨L, env, s, S, e, p.ofR.imp fun v H1 ⟨L1, s1, d, k1, S1, r1, p1⟩ => p1 L1 _ H1 Keep.refl S1 ((e.mono k1.mono).set r1)⟩
theorem ds_if {a b : List Stmt} (hc : DT X ca W c tc) (ha : DSs X ca W a sm) (hb : DSs X ca W b sn) : DS X ca W (.If c a b pos) (sIf tc sm sn) := PS.imp (ps_if hc ha hb) fun T σ H ⟨L, env, s, S, e, p⟩ =>
  ⟨L, env, s, S, e, p.ofR.imp fun v H1 ⟨L1, s1, d, k1, S1, r1, p1⟩ => by
    subst r1
    cases d with
    | true => exact iteT ⟨L1, env, s1, S1, e.mono k1.mono, by rw [if_pos rfl] at p1; exact p1⟩
    | false => exact iteF ⟨L1, env, s1, S1, e.mono k1.mono, by rw [if_neg Bool.false_ne_true] at p1; exact p1⟩⟩
theorem dss_nil : DSs X ca W [] sPass := PSs.imp pss_nil fun T σ H ⟨L, env, s, S, e, p⟩ => p L σ H Keep.refl S e
theorem dss_one (h : DS X ca W st sm) : DSs X ca W [st] sm := pss_one h
theorem dss_cons (hW : Wid W) (h : DS X ca W st sm) (hr : DSs X ca W sts sn) : DSs X ca W (st :: sts) (sSeq sm sn) := PSs.imp (pss_cons h hr) fun T σ H ⟨L, env, s, S, e, p⟩ =>
  ⟨L, env, s, S, e, by
    unfold sSeq at p
    cases q : sm env s with
    | next env' s' =>
      rw [q] at p
      exact fun L' σ' H' k S' e' => ⟨L', env', s', S', e', (p.from k).impE fun c H' h => hW _ _ _ _ _ h⟩
    | brk env s => rw [q] at p; exact p
    | cnt env s => rw [q] at p; exact p
    | ret env s => rw [q] at p; exact p
    | exc c s => rw [q] at p; exact p
    | bad => rw [q] at p; exact p⟩

/-! ### a def by its body -/
def env0 (n : Nat) (ds : List D) : Env := ds.map some ++ List.replicate (n - ds.length) none
def bodyF (n : Nat) (m : SM) : Fn := fun ds s => match m (env0 n ds) s with
  | .next _ s => .ok .non s
  | .ret d s => .ok d s
  | .exc c s => .exc c s
  | _ => .bad
theorem er_start {K : PySem.W.Frag} {L : Lv} {H : Hp} {N : List Str} {ds : List D} {vs : List V} (r : RDs K L H ds vs) : ER K L H (env0 N.length ds) (L2.start N vs) := by
  unfold env0 L2.start
  refine ⟨by simp [r.length], fun i d h => ?_⟩
  by_cases hi : i < ds.length
  · rw [List.getElem?_append_left (by simpa using hi), List.getElem?_map] at h
    cases q : ds[i]? with
    | none => rw [q] at h; cases h
    | some d' =>
      rw [q] at h
      simp only [Option.map_some, Option.some.injEq] at h
      subst h
      obtain ⟨v, hv, rv⟩ := r.get q
      exact ⟨v, by rw [List.getElem?_append_left (by simpa [← r.length] using hi), List.getElem?_map, hv]; rfl, rv⟩
  · rw [List.getElem?_append_right (by simpa using hi), List.getElem?_replicate] at h
    split at h <;> cases h
section
variable {P : Program} {w : World} {K : PySem.W.Frag} {mg : Str → Option Value} {base : Heap}
theorem fn_ok {x qual : Str} {st : Stmt} {f : Addr} {fd : FuncData} {N ps : List Str} {k : Nat} (n j : Nat) (m : SM) (hn : N.length = n) (hj : ps.length = j) (F : Fun K x qual st f fd) (S : FnScope N ps (defScope st))
    (hbody : ∀ (X : Cx) (E : XK), (∃ cdv A outer s H, X = cxOf (L2N.CX P w) P w K mg base N qual (defScope st) f cdv A outer s H E) → Room k X.A → DSs X ca (fun cls d _ H => E cls d H) (defBody st) m) :
    FnOk P w K mg base (L2N.CX P w) (k + 1) f fd ps (spOf K ca j (bodyF n m)) := by
  subst hn; subst hj
  obtain ⟨oc, od, kV, doc, pm, an, cdv, ct, osl, rfl, lk, hcd⟩ := F.ex
  refine fn_of lk hcd S (fun vs H Q E h => ?_) (fun A outer s H vs Q E hr h => ?_)
  · obtain ⟨L, ds, s, hn, _, r, _⟩ := h
    rw [← r.length, hn]
  · obtain ⟨L, ds, s', hn, SS, r, p⟩ := h
    refine ⟨_, hbody _ E ⟨cdv, A, outer, s, H, rfl⟩ hr, L, env0 N.length ds, s', SS, er_start r, ?_⟩
    unfold bodyF at p
    cases q : m (env0 N.length ds) s' with
    | next env' s1 =>
      rw [q] at p
      exact fun L' σ' H' k' S' _ => p L' .non H' k' S' rfl
    | brk env s => rw [q] at p; exact p.elim
    | cnt env s => rw [q] at p; exact p.elim
    | ret d s => rw [q] at p; exact p
    | exc c s => rw [q] at p; exact p
    | bad => rw [q] at p; exact p.elim
end
end
end DE
/-! DE6: targets, what is walked, for, while, comprehensions -/
namespace DE
open PySem PySem.Spec PyProof.Rows L2
section
variable {X : Cx} {ca : Nat → Addr} {W : WX} {e a b c tg iter elt : Expr} {es rest : List Expr} {m ma mb mc : EM} {ms : AM} {pos p p2 apos : Pos} {st : Stmt} {sts body : List Stmt} {sm sn : SM} {tc : TM}

/-! ### targets -/
abbrev GM := D → Env → Store → R Env
abbrev GMs := List D → Env → Store → R Env
def tG (K : PySem.W.Frag) (ca : Nat → Addr) (W : WX) (gm : GM) : TG := fun v σ H Q => ∃ L env s d, SR K ca L s H ∧ ER K L H env σ ∧ RD K L H d v ∧ post K ca (fun L H env σ => ER K L H env σ) L H (gm d env s) (fun σ' H' => Q σ' H') (wE ca W σ)
def tGs (K : PySem.W.Frag) (ca : Nat → Addr) (W : WX) (gm : GMs) : TGs := fun vs σ H Q => ∃ L env s ds, SR K ca L s H ∧ ER K L H env σ ∧ RDs K L H ds vs ∧ post K ca (fun L H env σ => ER K L H env σ) L H (gm ds env s) (fun σ' H' => Q σ' H') (wE ca W σ)
def DG (X : Cx) (ca : Nat → Addr) (W : WX) (e : Expr) (gm : GM) : Prop := PG X e (tG X.K ca W gm)
def DGs (X : Cx) (ca : Nat → Addr) (W : WX) (es : List Expr) (gm : GMs) : Prop := PGs X es (tGs X.K ca W gm)
def gVar (i : Nat) : GM := fun d env s => .ok (env.set i (some d)) s
def gNone : GMs := fun ds env s => match ds with | [] => .ok env s | _ => .bad
def gMore (g : GM) (gs : GMs) : GMs := fun ds env s => match ds with | d :: r => (g d env s).bind (gs r) | _ => .bad
def gTupD (n : Nat) (gs : GMs) : GM := fun d env s => match d with
  | .tup xs => if xs.length = n then gs xs env s else .bad
  | _ => .bad
theorem dg_name (i : Nat) {x : Str} {pos : Pos} (hN : X.N.Nodup) (hi : X.N[i]? = some x := by rfl) (hx : Loc X.env.scope x := by first | exact Or.inl rfl | exact Or.inr rfl) (hf : X.fn x = true ∨ X.env.scope.names.lookup x = some .local := by first | exact .inl rfl | exact .inr rfl | assumption) :
    DG X ca W (.Name x pos) (gVar i) := PG.imp (pg_name hN hi hx hf) fun v σ H Q ⟨L, env, s, d, S, e, r, p⟩ => p L _ H Keep.refl S (e.set r)
theorem dgs_nil : DGs X ca W [] gNone := PGs.imp pgs_nil fun v σ H Q ⟨L, env, s, ds, S, e, r, p⟩ => by
  unfold gNone at p
  split at p
  · simp only [RDs] at r
    exact ⟨r, p L _ H Keep.refl S e⟩
  · exact p.elim
theorem dgs_cons {g : GM} {gs : GMs} (hW : Wid W) (h1 : DG X ca W e g) (h2 : DGs X ca W es gs) (hs : (assignEach (e :: es) X.env).map (·.2) = assign e X.env :: (assignEach es X.env).map (·.2) := by rfl) : DGs X ca W (e :: es) (gMore g gs) :=
  PGs.imp (pgs_cons h1 h2 hs) fun v σ H Q ⟨L, env, s, ds, S, e, r, p⟩ => by
    unfold gMore at p
    split at p
    · rename_i d ds'
      simp only [RDs] at r
      obtain ⟨w, ws, rfl, r1, r2⟩ := r
      exact ⟨w, ws, rfl, L, env, s, d, S, e, r1, p.bind.imp fun σ1 H1 ⟨L1, s1, env1, k1, S1, e1, p1⟩ => ⟨L1, env1, s1, ds', S1, e1, RDs.mono k1.mono _ _ r2, p1.impE fun c H' h => hW _ _ _ _ _ h⟩⟩
    · exact p.elim
theorem dg_tup {n k : Nat} {gs : GMs} (hc : X.calm = true) (h : DGs X ca W es gs) (hn : (assignEach es X.env).length = n := by rfl) (hst : (assignEach es X.env).findIdx? (·.1) = none := by rfl) : DG X ca W (.Tuple es k pos) (gTupD n gs) :=
  PG.imp (pg_tup hc h hn hst) fun v σ H Q ⟨L, env, s, d, S, e, r, p⟩ => by
    unfold gTupD at p
    split at p
    · split at p
      · rename_i xs hl
        simp only [RD] at r
        obtain ⟨a, vs, rfl, f, rs⟩ := r
        exact ⟨a, vs, rfl, f.sq, by rw [← rs.length]; exact hl, L, env, s, xs, S, e, rs, p⟩
      · exact p.elim
    · exact p.elim
def sAsg (m : EM) (g : GM) : SM := fun env s => (m env s).bindS fun d s => (g d env s).bindS fun env s => .next env s
theorem ds_asg {gm : GM} (he : DE X ca W e m) (hg : DG X ca W tg gm) (hs : swapsWithSole [tg] e pos.line X.env = pure false := by rfl) (hw : swappedStores [tg] e X.env = pure none := by rfl) (h1 : (assignEach [tg] X.env).map (·.2) = [assign tg X.env] := by rfl) :
    DS X ca W (.Assign [tg] e pos) (sAsg m gm) := PS.imp (ps_asg he hg hs hw h1) fun T σ H ⟨L, env, s, S, e, p⟩ => ⟨L, env, s, S, e, p.ofR.imp fun v H1 ⟨L1, s1, d, k1, S1, r1, p1⟩ =>
      ⟨L1, env, s1, d, S1, e.mono k1.mono, r1, p1.ofR.imp fun σ2 H2 ⟨L2, s2, env2, k2, S2, e2, p2⟩ => p2 L2 σ2 H2 Keep.refl S2 e2⟩⟩
/-- a, b = x, y -/
def sPar (i j : Nat) (ms : AM) : SM := fun env s => (ms env s).bindS fun ds s => match ds with
  | [x, y] => .next ((env.set i (some x)).set j (some y)) s
  | _ => .bad
theorem ds_par (i j : Nat) {x y : Str} {px py pt : Pos} {kt k2 pt2} (hc : X.calm = true) (hN : X.N.Nodup) (ha : DA X ca W [a, b] ms) (hi : X.N[i]? = some x := by rfl) (hj : X.N[j]? = some y := by rfl) (hij : i ≠ j := by decide)
    (hx : X.env.scope.names.lookup x = some .local := by rfl) (hy : X.env.scope.names.lookup y = some .local := by rfl)
    (hw : swappedStores [.Tuple [.Name x px, .Name y py] kt pt] (.Tuple [a, b] k2 pt2) X.env = pure (some [x, y]) := by rfl)
    (hs : swapsWithSole [.Tuple [.Name x px, .Name y py] kt pt] (.Tuple [a, b] k2 pt2) pos.line X.env = pure false := by rfl) :
    DS X ca W (.Assign [.Tuple [.Name x px, .Name y py] kt pt] (.Tuple [a, b] k2 pt2) pos) (sPar i j ms) := PS.imp (ps_par hc hN hi hj hij hx hy ha hw hs) fun T σ H ⟨L, env, s, S, e, p⟩ =>
  ⟨L, env, s, S, e, p.ofR.imp fun vs H1 ⟨L1, s1, ds, k1, S1, r1, p1⟩ => by
    split at p1
    · obtain ⟨v, w, rfl, q1, q2⟩ := r1.two
      exact ⟨v, w, rfl, p1 L1 _ H1 Keep.refl S1 (((e.mono k1.mono).set q1).set q2)⟩
    · exact p1.elim⟩

/-! ### what is walked -/
def liveG (l : Nat) (ds : List D) : Store → Prop := fun s => s[l]? = some (.lst ds)
/-- the items ds; where a live cell is walked: it stays -/
def Walks (K : PySem.W.Frag) (ca : Nat → Addr) (L : Lv) (H : Hp) (a : List D × Option (Store → Prop)) (J : It) : Prop := ∀ (L2 : Lv) (s2 : Store) (H2 : Hp), Mono L H L2 H2 → SR K ca L2 s2 H2 → (∀ G, a.2 = some G → G s2) → ∀ i : Nat,
  (∀ d, a.1[i]? = some d → J.go i H2 ∧ ∀ x H3, J.yld i H2 x H3 → Keep L2 H2 L2 H3 ∧ SR K ca L2 s2 H3 ∧ RD K L2 H3 d x) ∧ (a.1.length ≤ i → J.stop i H2)
abbrev IM := Env → Store → R (List D × Option (Store → Prop))
def tI (K : PySem.W.Frag) (ca : Nat → Addr) (W : WX) (im : IM) : TI := fun σ H Q => ∃ L env s, SR K ca L s H ∧ ER K L H env σ ∧ post K ca (fun L' H' a J => Walks K ca L' H' a J) L H (im env s) (fun J H' => Q J H') (wE ca W σ)
def DI (X : Cx) (ca : Nat → Addr) (W : WX) (tg e : Expr) (im : IM) : Prop := PI X tg e (tI X.K ca W im)
def signs (z : Str) : List D := z.cps.toList.map fun c => .str ⟨#[c]⟩
def iAny (K : PySem.W.Frag) (te : TE) : TI := fun σ H R => te σ H fun x H1 => (∃ a, x = .ref a ∧ (∃ xs, SqL K H1 a xs) ∧ R (Itl K a) H1) ∨ (∃ a, x = .ref a ∧ (∃ xs, SqT K H1 a xs) ∧ R (Itt K a) H1) ∨ ∃ z, x = .str z ∧ R (Its z) H1
theorem pi_any {te : TE} (he : PE X e te) : PI X tg e (iAny X.K te) := by
  refine ⟨fun pins s σ H R I h => ?_⟩
  refine thn (he.run pins s σ H _ I h) fun v s1 ⟨x, H1, I1, r1, q1⟩ => ?_
  rcases q1 with ⟨a, e, ⟨xs, hq⟩, q⟩ | ⟨a, e, ⟨xs, hq⟩, q⟩ | ⟨z, e, q⟩
  · subst e
    cases r1
    obtain ⟨its, rv, p, hz⟩ := I1.list hq
    refine wpAny_pyIter_list p.isList ?_
    refine ⟨s1.heap.objs.size, [s1.heap.objs.size], _, _, H1, rfl, I1.kept (t' := s1.toks) fun b o e => Heap.get?_push_of_some _ e, turn_list a _, ⟨_, Heap.get?_push_size _ rfl, rfl, rfl⟩, fun b hb => ?_, q⟩
    have e : b = s1.heap.objs.size := by simpa using hb
    subst e
    exact I1.fpOk (Nat.le_refl _) (I1.hok.fresh (Nat.le_refl _))
  · subst e
    cases r1
    obtain ⟨its, rv, p, hz⟩ := I1.tuple hq
    refine wpAny_pyIter_tuple (show s1.heap.IsTuple a its.toArray from p) ?_
    refine ⟨s1.heap.objs.size, [s1.heap.objs.size], _, _, H1, rfl, I1.kept (t' := s1.toks) fun b o e => Heap.get?_push_of_some _ e, turn_tuple a _, ⟨_, Heap.get?_push_size _ rfl, rfl, rfl⟩, fun b hb => ?_, q⟩
    have e : b = s1.heap.objs.size := by simpa using hb
    subst e
    exact I1.fpOk (Nat.le_refl _) (I1.hok.fresh (Nat.le_refl _))
  · subst e
    obtain ⟨t, rfl⟩ := r1
    cases ha : z.cps.all (· < 128)
    · exact wpAny_pyIter_wide ha (pi_one (tk := s1.toks) I1 _ (turn_str _ z t "str_iterator" (.inr rfl)) ⟨_, Heap.get?_push_size _ rfl, rfl, rfl⟩ q)
    · exact wpAny_pyIter_ascii ha (pi_one (tk := s1.toks) I1 _ (turn_str _ z t "str_ascii_iterator" (.inl rfl)) ⟨_, Heap.get?_push_size _ rfl, rfl, rfl⟩ q)
section
variable {K : PySem.W.Frag} {L : Lv} {H : Hp} {s : Store}
/-- all readings of one list are one -/
theorem vals_uniq {xs ys : List V} {us : List Value} (r : Vals xs us) (q : Vals ys us) : xs = ys := Vals.inj r q
def ROne (K : PySem.W.Frag) (H : Hp) : Prop := (∀ a xs ys, SqL K H a xs → SqL K H a ys → xs = ys) ∧ ∀ a xs ys, SqT K H a xs → SqT K H a ys → xs = ys
theorem walks_list {a : Addr} {ds : List D} {vs : List V} (f : FzL L H a vs) (rs : RDs K L H ds vs) : Walks K ca L H (ds, none) (Itl K a) := fun L2 s2 H2 k S g i => by
  have f2 := f.mono k
  have rs2 := RDs.mono k _ _ rs
  refine ⟨fun d ed => ?_, fun hl => ⟨vs, f2.sq, by rw [← rs.length]; exact hl⟩⟩
  obtain ⟨v, ev, rv⟩ := rs2.get ed
  refine ⟨⟨vs, v, f2.sq, ev⟩, fun x H3 ⟨e3, y⟩ => ?_⟩
  subst e3
  have := y vs f2.sq
  rw [ev] at this; cases this
  exact ⟨Keep.refl, S, rv⟩
theorem walks_tup {a : Addr} {ds : List D} {vs : List V} (f : FzT K L H a vs) (rs : RDs K L H ds vs) : Walks K ca L H (ds, none) (Itt K a) := fun L2 s2 H2 k S g i => by
  have f2 := f.mono k
  have rs2 := RDs.mono k _ _ rs
  refine ⟨fun d ed => ?_, fun hl => ⟨vs, f2.sq, by rw [← rs.length]; exact hl⟩⟩
  obtain ⟨v, ev, rv⟩ := rs2.get ed
  refine ⟨⟨vs, v, f2.sq, ev⟩, fun x H3 ⟨e3, y⟩ => ?_⟩
  subst e3
  have := y vs f2.sq
  rw [ev] at this; cases this
  exact ⟨Keep.refl, S, rv⟩
theorem walks_str (z : Str) : Walks K ca L H (signs z, none) (Its z) := fun L2 s2 H2 k S g i => by
  unfold signs
  refine ⟨fun d ed => ?_, fun hl => ?_⟩
  · rw [List.getElem?_map, Array.getElem?_toList] at ed
    cases q : z.cps[i]? with
    | none => rw [q] at ed; cases ed
    | some c =>
      rw [q] at ed
      have ed : D.str ⟨#[c]⟩ = d := by simpa using ed
      subst ed
      refine ⟨(Array.getElem?_eq_some_iff.mp q).1, fun x H3 ⟨e3, c', ec, ex⟩ => ?_⟩
      subst e3; subst ex
      rw [q] at ec; cases ec
      exact ⟨Keep.refl, S, rfl⟩
  · show z.cps.size ≤ i
    simpa using hl
theorem walks_live {l : Nat} {a : Addr} {ds : List D} (ea : L.rho[l]? = some a) : Walks K ca L H (ds, some (liveG l ds)) (Itl K a) := fun L2 s2 H2 k S g i => by
  have e2 := prefix_get k.rho ea
  obtain ⟨vs, h1, rs⟩ := S.cell l a _ e2 (g _ rfl)
  refine ⟨fun d ed => ?_, fun hl => ⟨vs, SqL.of h1, by rw [← rs.length]; exact hl⟩⟩
  obtain ⟨v, ev, rv⟩ := rs.get ed
  refine ⟨⟨vs, v, SqL.of h1, ev⟩, fun x H3 ⟨e3, y⟩ => ?_⟩
  subst e3
  have := y vs (SqL.of h1)
  rw [ev] at this; cases this
  exact ⟨Keep.refl, S, rv⟩
theorem walks_scr {a : Addr} {ns : List Int} (f : FzS K L H a (ns.map V.int)) : Walks K ca L H (ns.map D.int, none) (Itl K a) := fun L2 s2 H2 k S g i => by
  have f2 := f.mono k
  have rs2 : RDs K L2 H2 (ns.map D.int) (ns.map V.int) := rds_ints
  refine ⟨fun d ed => ?_, fun hl => ⟨_, f2.sq, by rw [← rs2.length]; exact hl⟩⟩
  obtain ⟨v, ev, rv⟩ := rs2.get ed
  refine ⟨⟨_, v, f2.sq, ev⟩, fun x H3 ⟨e3, y⟩ => ?_⟩
  subst e3
  have := y _ f2.sq
  rw [ev] at this; cases this
  exact ⟨Keep.refl, S, rv⟩
end
/-- walked: a list, a tuple, a text, a live list (not the script itself) -/
def itV' (m : EM) : IM := fun env s => (m env s).bind fun d s => match d with
  | .tup xs => .ok (xs, none) s
  | .lst xs => .ok (xs, none) s
  | .str z => .ok (signs z, none) s
  | .ref l => match s[l]? with
    | some (.lst xs) => .ok (xs, some (liveG l xs)) s
    | _ => .bad
  | .scr ns => .ok (ns.map .int, none) s
  | _ => .bad
theorem di_any (h : DE X ca W e m) : DI X ca W tg e (itV' m) := PI.imp (pi_any h) fun σ H Q ⟨L, env, s, S, e, p⟩ =>
  ⟨L, env, s, S, e, p.bind.imp fun v H1 ⟨L1, s1, d, k1, S1, r1, p1⟩ => by
    split at p1
    · simp only [RD] at r1
      obtain ⟨a, vs, rfl, f, rs⟩ := r1
      exact .inr (.inl ⟨a, rfl, ⟨vs, f.sq⟩, p1 L1 _ H1 Keep.refl S1 (walks_tup f rs)⟩)
    · simp only [RD] at r1
      obtain ⟨a, vs, rfl, f, rs⟩ := r1
      exact .inl ⟨a, rfl, ⟨vs, f.sq⟩, p1 L1 _ H1 Keep.refl S1 (walks_list f rs)⟩
    · simp only [RD] at r1
      subst r1
      exact .inr (.inr ⟨_, rfl, p1 L1 _ H1 Keep.refl S1 (walks_str _)⟩)
    · simp only [RD] at r1
      obtain ⟨a, rfl, ea⟩ := r1
      split at p1
      · rename_i es
        obtain ⟨vs, h1, rs⟩ := S1.cell _ a _ ea es
        exact .inl ⟨a, rfl, ⟨vs, SqL.of h1⟩, p1 L1 _ H1 Keep.refl S1 (walks_live ea)⟩
      · exact p1.elim
    · simp only [RD] at r1
      obtain ⟨a, rfl, f⟩ := r1
      exact .inl ⟨a, rfl, ⟨_, f.sq⟩, p1 L1 _ H1 Keep.refl S1 (walks_scr f)⟩
    · exact p1.elim⟩
/-- range(j), range(i, j) -/
def rangeL (i j : Int) : List D := (List.range (j - i).toNat).map fun k => .int (i + (k : Nat))
def P62 : Int := 4611686018427387904
noncomputable def itR1 (ms : AM) : IM := fun env s => (ms env s).bind fun ds s => match ds with
  | [.int j] => @ite (R _) (-P62 ≤ j ∧ j < P62) (Classical.propDecidable _) (.ok (rangeL 0 j, none) s) .bad
  | _ => .bad
noncomputable def itR2 (ms : AM) : IM := fun env s => (ms env s).bind fun ds s => match ds with
  | [.int i, .int j] => @ite (R _) (-P62 ≤ i ∧ i < P62 ∧ -P62 ≤ j ∧ j < P62) (Classical.propDecidable _) (.ok (rangeL i j, none) s) .bad
  | _ => .bad
theorem walks_range {K : PySem.W.Frag} {L : Lv} {H : Hp} (i j : Int) : Walks K ca L H (rangeL i j, none) (Itr i (j - i).toNat) := fun L2 s2 H2 k S g n => by
  unfold rangeL
  refine ⟨fun d ed => ?_, fun hl => by simp only [List.length_map, List.length_range] at hl; exact hl⟩
  rw [List.getElem?_map] at ed
  by_cases hn : n < (j - i).toNat
  · rw [List.getElem?_range hn] at ed
    have ed : D.int (i + (n : Nat)) = d := by simpa using ed
    subst ed
    exact ⟨hn, fun x H3 ⟨e3, ex⟩ => by subst e3; subst ex; exact ⟨Keep.refl, S, rfl⟩⟩
  · rw [List.getElem?_eq_none (by simpa using hn)] at ed; cases ed
theorem di_range1 (hm : X.mg "range" = none) (ha : DA X ca W [a] ms) (hg : Gl X "range" := by rfl) (hs : starEach [a] X.env = [(false, eval a X.env)] := by rfl) : DI X ca W tg (.Call (.Name "range" p) [a] [] pos) (itR1 ms) :=
  PI.imp (pi_range1 hg hm ha hs) fun σ H Q ⟨L, env, s, S, e, p⟩ => ⟨L, env, s, S, e, p.bind.imp fun vs H1 ⟨L1, s1, ds, k1, S1, r1, p1⟩ => by
    split at p1
    · split at p1
      · rename_i j hj
        obtain ⟨v, rfl, r⟩ := r1.one
        simp only [RD] at r
        subst r
        have hw : Walks X.K ca L1 H1 (rangeL 0 j, none) (Itr 0 (j - 0).toNat) := walks_range 0 j
        rw [Int.sub_zero] at hw
        exact ⟨_, rfl, hj.1, hj.2, p1 L1 _ H1 Keep.refl S1 hw⟩
      · exact p1.elim
    · exact p1.elim⟩
theorem di_range2 (hm : X.mg "range" = none) (ha : DA X ca W [a, b] ms) (hg : Gl X "range" := by rfl) (hs : starEach [a, b] X.env = [(false, eval a X.env), (false, eval b X.env)] := by rfl) (hs2 : starEach [b] X.env = [(false, eval b X.env)] := by rfl) :
    DI X ca W tg (.Call (.Name "range" p) [a, b] [] pos) (itR2 ms) :=
  PI.imp (pi_range2 hg hm ha hs hs2) fun σ H Q ⟨L, env, s, S, e, p⟩ => ⟨L, env, s, S, e, p.bind.imp fun vs H1 ⟨L1, s1, ds, k1, S1, r1, p1⟩ => by
    split at p1
    · split at p1
      · rename_i hj
        obtain ⟨v, w, rfl, r, r2⟩ := r1.two
        simp only [RD] at r r2
        subst r; subst r2
        exact ⟨_, _, rfl, hj, p1 L1 _ H1 Keep.refl S1 (walks_range _ _)⟩
      · exact p1.elim
    · exact p1.elim⟩

/-! ### for -/
def okG (a : List D × Option (Store → Prop)) (s : Store) : Prop := ∀ G, a.2 = some G → G s
@[simp] theorem okG_none (ds : List D) (s : Store) : okG (ds, none) s ↔ True := ⟨fun _ => trivial, fun _ l h => nomatch h⟩
@[simp] theorem okG_some (ds : List D) (G : Store → Prop) (s : Store) : okG (ds, some G) s ↔ G s := ⟨fun h => h G rfl, fun h l' e => by cases e; exact h⟩
def loopB (r : RS) (k : SM) : RS := match r with
  | .next e s => k e s
  | .cnt e s => k e s
  | .brk e s => .next e s
  | .ret d s => .ret d s
  | .exc c s => .exc c s
  | .bad => .bad
@[simp] theorem loopB_next (e : Env) (s : Store) (k : SM) : loopB (.next e s) k = k e s := rfl
@[simp] theorem loopB_cnt (e : Env) (s : Store) (k : SM) : loopB (.cnt e s) k = k e s := rfl
@[simp] theorem loopB_brk (e : Env) (s : Store) (k : SM) : loopB (.brk e s) k = .next e s := rfl
@[simp] theorem loopB_ret (e : D) (s : Store) (k : SM) : loopB (.ret e s) k = .ret e s := rfl
@[simp] theorem loopB_exc (e : Nat) (s : Store) (k : SM) : loopB (.exc e s) k = .exc e s := rfl
@[simp] theorem loopB_bad (k : SM) : loopB .bad k = .bad := rfl
open Classical in
noncomputable def forD (g : GM) (body : SM) (a : List D × Option (Store → Prop)) : List D → SM
  | [] => fun env s => if okG a s then .next env s else .bad
  | d :: r => fun env s => if okG a s then (g d env s).bindS fun env s => loopB (body env s) (forD g body a r) else .bad
noncomputable def sFor (im : IM) (g : GM) (body : SM) : SM := fun env s => (im env s).bindS fun a s => forD g body a a.1 env s
theorem postS.loop {K : PySem.W.Frag} {L : Lv} {H : Hp} {r : RS} {k : SM} {T : Ends} {E E2 : Nat → Hp → Prop} {N : St → Hp → Prop} (p : postS K ca L H (loopB r k) T E) (hE : ∀ c H', E c H' → E2 c H')
    (hN : ∀ L' σ' H' env s, Keep L H L' H' → SR K ca L' s H' → ER K L' H' env σ' → postS K ca L' H' (k env s) T E → N σ' H') : postS K ca L H r { T with nx := N, ct := N, bk := T.nx } E2 := by
  cases r with
  | next e s => exact fun L' σ' H' kk S' e' => hN _ _ _ _ _ kk S' e' (postS.from (r := k e s) p kk)
  | cnt e s => exact fun L' σ' H' kk S' e' => hN _ _ _ _ _ kk S' e' (postS.from (r := k e s) p kk)
  | brk e s => exact p
  | ret d s => exact p
  | exc c s => exact fun L' H' kk S' => hE _ _ (p L' H' kk S')
  | bad => exact p
theorem ds_for {im : IM} {gm : GM} (hW : Wid W) (hp : PassesOwn (model X.prog X.w) X.A X.env X.xe) (hc : X.calm = true) (hi : DI X ca W tg iter im) (hg : DG X ca W tg gm) (hb : DSs X ca W body sm)
    (hs : ∀ x, foldedSetIterable iter X.env x = pure x := by intro _; rfl) : DS X ca W (.For tg iter body [] pos) (sFor im gm sm) := PS.imp (ps_for hp hc hi hg hb hs) fun T σ H ⟨L, env, s, S, e, p⟩ =>
  ⟨L, env, s, S, e, p.ofR.imp fun J H1 ⟨L1, s1, a, k1, S1, w1, p1⟩ => by
    refine ⟨fun i m σ2 H2 => ∃ L2 env2 s2, m = a.1.length - i ∧ i ≤ a.1.length ∧ Keep L1 H1 L2 H2 ∧ SR X.K ca L2 s2 H2 ∧ ER X.K L2 H2 env2 σ2 ∧ postS X.K ca L2 H2 (forD gm sm a (a.1.drop i) env2 s2) T (wE ca W σ2),
      ⟨a.1.length, L1, env, s1, by simp, Nat.zero_le _, Keep.refl, S1, e.mono k1.mono, p1⟩, ?_⟩
    rintro i m σ2 H2 ⟨L2, env2, s2, rfl, hi, k2, S2, e2, p2⟩
    by_cases hlt : i < a.1.length
    · have hd : a.1.drop i = a.1[i] :: a.1.drop (i + 1) := List.drop_eq_getElem_cons hlt
      rw [hd] at p2
      unfold forD at p2
      split at p2
      · rename_i hG
        obtain ⟨go, yl⟩ := (w1 L2 s2 H2 k2.mono S2 hG i).1 a.1[i] (List.getElem?_eq_getElem hlt)
        refine .inr ⟨go, fun σ3 H3 => ∃ L3 env3 s3, Keep L1 H1 L3 H3 ∧ SR X.K ca L3 s3 H3 ∧ ER X.K L3 H3 env3 σ3 ∧ postS X.K ca L3 H3 (forD gm sm a (a.1.drop (i + 1)) env3 s3) T (wE ca W σ3), ?_, fun x H' hy => ?_⟩
        · rintro σ3 H3 ⟨L3, env3, s3, k3, S3, e3, p3⟩
          exact ⟨a.1.length - (i + 1), by omega, L3, env3, s3, rfl, hlt, k3, S3, e3, p3⟩
        · obtain ⟨k', S', r'⟩ := yl x H' hy
          refine ⟨L2, env2, s2, a.1[i], S', e2.mono k'.mono, r', (p2.from k').ofR.imp fun σ4 H4 ⟨L4, s4, env4, k4, S4, e4, p4⟩ => ⟨L4, env4, s4, S4, e4, ?_⟩⟩
          exact p4.loop (fun c H' h => hW _ _ _ _ _ h) fun L5 σ5 H5 env5 s5 k5 S5 e5 p5 => ⟨L5, env5, s5, ((k2.trans k').trans k4).trans k5, S5, e5, p5.impE fun c H' h => hW _ _ _ _ _ h⟩
      · exact p2.elim
    · have hi' : i = a.1.length := by omega
      subst hi'
      rw [List.drop_length] at p2
      unfold forD at p2
      split at p2
      · rename_i hG
        exact .inl ⟨(w1 L2 s2 H2 k2.mono S2 hG _).2 (Nat.le_refl _), p2 L2 σ2 H2 Keep.refl S2 e2⟩
      · exact p2.elim⟩

/-! ### while -/
def whileN (c : TM) (b : SM) : Nat → SM
  | 0 => fun _ _ => .bad
  | n + 1 => fun env s => (c env s).bindS fun v s => if v = true then loopB (b env s) (whileN c b n) else .next env s
open Classical in
noncomputable def sWhile (c : TM) (b : SM) : SM := fun env s => if h : ∃ n, whileN c b n env s ≠ .bad then whileN c b h.choose env s else .bad
theorem while_up (c : TM) (b : SM) : ∀ (n : Nat) (env : Env) (s : Store), whileN c b n env s ≠ .bad → whileN c b (n + 1) env s = whileN c b n env s := by
  intro n
  induction n with
  | zero => intro env s h; exact absurd rfl h
  | succ n ih =>
    intro env s h
    have h1 : whileN c b (n + 1) env s = (c env s).bindS fun v s => if v = true then loopB (b env s) (whileN c b n) else .next env s := rfl
    have h2 : whileN c b (n + 1 + 1) env s = (c env s).bindS fun v s => if v = true then loopB (b env s) (whileN c b (n + 1)) else .next env s := rfl
    rw [h1] at h
    rw [h2, h1]
    cases q : c env s with
    | ok v s1 =>
      rw [q] at h
      simp only [R.bindS_ok] at h ⊢
      cases v with
      | false => rfl
      | true =>
        simp only [if_true] at h ⊢
        cases q2 : b env s1 with
        | next e2 s2 => rw [q2] at h; exact ih e2 s2 h
        | cnt e2 s2 => rw [q2] at h; exact ih e2 s2 h
        | _ => rfl
    | exc c s => rfl
    | bad => rfl
theorem while_le (c : TM) (b : SM) {n m : Nat} (hm : n ≤ m) {env : Env} {s : Store} (h : whileN c b n env s ≠ .bad) : whileN c b m env s = whileN c b n env s := by
  induction m with
  | zero => have : n = 0 := by omega
            subst this; rfl
  | succ m ih =>
    by_cases e : n = m + 1
    · subst e; rfl
    · have := ih (by omega)
      rw [← this] at h ⊢
      exact while_up c b m env s h
theorem sWhile_of {c : TM} {b : SM} {n : Nat} {env : Env} {s : Store} (h : whileN c b n env s ≠ .bad) : sWhile c b env s = whileN c b n env s := by
  unfold sWhile
  have hx : ∃ n, whileN c b n env s ≠ .bad := ⟨n, h⟩
  rw [dif_pos hx]
  have h2 := hx.choose_spec
  rcases Nat.le_total n hx.choose with q | q
  · exact while_le c b q h
  · exact (while_le c b q h2).symm
theorem sWhile_bad {c : TM} {b : SM} {env : Env} {s : Store} (h : ∀ n, whileN c b n env s = .bad) : sWhile c b env s = .bad := by
  unfold sWhile
  rw [dif_neg (fun ⟨n, q⟩ => q (h n))]
theorem sWhile_eq (c : TM) (b : SM) (env : Env) (s : Store) : sWhile c b env s = (c env s).bindS fun v s => if v = true then loopB (b env s) (sWhile c b) else .next env s := by
  by_cases h : ∃ n, whileN c b n env s ≠ .bad
  · obtain ⟨n, h⟩ := h
    rw [sWhile_of h]
    cases n with
    | zero => exact absurd rfl h
    | succ n =>
      have h1 : whileN c b (n + 1) env s = (c env s).bindS fun v s => if v = true then loopB (b env s) (whileN c b n) else .next env s := rfl
      rw [h1] at h ⊢
      cases q : c env s with
      | ok v s1 =>
        rw [q] at h
        simp only [R.bindS_ok] at h ⊢
        cases v with
        | false => rfl
        | true =>
          simp only [if_true] at h ⊢
          cases q2 : b env s1 with
          | next e2 s2 => rw [q2] at h; exact (sWhile_of h).symm
          | cnt e2 s2 => rw [q2] at h; exact (sWhile_of h).symm
          | _ => rfl
      | exc c s => rfl
      | bad => rfl
  · have h' : ∀ n, whileN c b n env s = .bad := fun n => by
      cases q : whileN c b n env s with
      | bad => rfl
      | _ => exact absurd ⟨n, by rw [q]; intro z; cases z⟩ h
    rw [sWhile_bad h']
    cases q : c env s with
    | ok v s1 =>
      simp only [R.bindS_ok]
      cases v with
      | false =>
        have := h' 1
        unfold whileN at this
        rw [q] at this
        simp at this
      | true =>
        simp only [if_true]
        have hh : ∀ n, loopB (b env s1) (whileN c b n) = .bad := fun n => by
          have := h' (n + 1)
          have h1 : whileN c b (n + 1) env s = (c env s).bindS fun v s => if v = true then loopB (b env s) (whileN c b n) else .next env s := rfl
          rw [h1, q] at this
          simpa using this
        cases q2 : b env s1 with
        | next e2 s2 => exact (sWhile_bad fun n => by have := hh n; rw [q2] at this; exact this).symm
        | cnt e2 s2 => exact (sWhile_bad fun n => by have := hh n; rw [q2] at this; exact this).symm
        | brk e2 s2 => have := hh 0; rw [q2] at this; cases this
        | ret d s2 => have := hh 0; rw [q2] at this; cases this
        | exc c s2 => have := hh 0; rw [q2] at this; cases this
        | bad => rfl
    | exc c' s1 =>
      have := h' 1
      unfold whileN at this
      rw [q] at this
      cases this
    | bad => rfl
theorem ds_while (hW : Wid W) (hp : PassesOwn (model X.prog X.w) X.A X.env X.xe) (hc : DT X ca W c tc) (hb : DSs X ca W body sm) : DS X ca W (.While c body [] pos) (sWhile tc sm) := PS.imp (ps_while hp hc hb) fun T σ H ⟨L, env, s, S, e, p⟩ => by
  have hx : ∃ n, whileN tc sm n env s ≠ .bad := Classical.byContradiction fun hn => by
    unfold sWhile at p
    rw [dif_neg hn] at p
    exact p
  obtain ⟨n, hn⟩ := hx
  rw [sWhile_of hn] at p
  refine ⟨fun m σ2 H2 => ∃ L2 env2 s2, SR X.K ca L2 s2 H2 ∧ ER X.K L2 H2 env2 σ2 ∧ postS X.K ca L2 H2 (whileN tc sm m env2 s2) T (wE ca W σ2), ⟨n, L, env, s, S, e, p⟩, ?_⟩
  rintro m σ2 H2 ⟨L2, env2, s2, S2, e2, p2⟩
  cases m with
  | zero => exact p2.elim
  | succ m =>
    have p2 : postS X.K ca L2 H2 ((tc env2 s2).bindS fun v s => if v = true then loopB (sm env2 s) (whileN tc sm m) else .next env2 s) T (wE ca W σ2) := p2
    refine ⟨L2, env2, s2, S2, e2, p2.ofR.imp fun b H3 ⟨L3, s3, b', k3, S3, r3, p3⟩ => ?_⟩
    subst r3
    cases b' with
    | true =>
      refine iteT ⟨fun σ4 H4 => ∃ L4 env4 s4, SR X.K ca L4 s4 H4 ∧ ER X.K L4 H4 env4 σ4 ∧ postS X.K ca L4 H4 (whileN tc sm m env4 s4) T (wE ca W σ4), fun σ4 H4 h4 => ⟨m, Nat.lt_succ_self _, h4⟩, L3, env2, s3, S3, e2.mono k3.mono, ?_⟩
      rw [if_pos rfl] at p3
      exact p3.loop (fun c H' h => hW _ _ _ _ _ h) fun L5 σ5 H5 env5 s5 k5 S5 e5 p5 => ⟨L5, env5, s5, S5, e5, p5.impE fun c H' h => hW _ _ _ _ _ h⟩
    | false =>
      rw [if_neg Bool.false_ne_true] at p3
      exact iteF (p3 L3 σ2 H3 Keep.refl S3 (e2.mono k3.mono))
end
end DE
/-! DE7: comprehensions -/
namespace DE
open PySem PySem.Spec PyProof.Rows L2

inductive Tgt where
  | one (i : Nat) | two (i j : Nat)
def setT : Tgt → D → Env → Option Env
  | .one i, d, env => some (env.set i (some d))
  | .two i j, d, env => match d with
    | .tup [x, y] => some ((env.set i (some x)).set j (some y))
    | _ => none
def gT (K : PySem.W.Frag) : Tgt → TG
  | .one i => gName i
  | .two i j => gTup K 2 (gCons (gName i) (gCons (gName j) gNil))
def inT (vs : List Nat) : Tgt → Prop
  | .one i => i ∈ vs
  | .two i j => i ∈ vs ∧ j ∈ vs
def wipeE (env : Env) : List Nat → Env
  | [] => env
  | v :: vs => (wipeE env vs).set v none
abbrev W0 : WX := fun _ _ _ _ => False
def tYesM : TM := fun _ s => .ok true s
open Classical in
noncomputable def lcD (t : Tgt) (tt : TM) (elt : EM) (a : List D × Option (Store → Prop)) (env : Env) : List D → Store → R (List D)
  | [], s => if okG a s then .ok [] s else .bad
  | d :: r, s => if okG a s then match setT t d env with
      | none => .bad
      | some env1 => (tt env1 s).bind fun b s => if b = true then (elt env1 s).bind fun y s => (lcD t tt elt a env r s).bind fun ys s => .ok (y :: ys) s else lcD t tt elt a env r s
    else .bad
def finL : R (List D) → R D
  | .ok zs s => if zs.length ≤ LINE then .ok (.lst zs) s else .bad
  | _ => .bad
def finN : R (List D) → R D
  | .ok zs s => if zs.length ≤ LINE then .ok (.ref s.length) (s ++ [.lst zs]) else .bad
  | _ => .bad
noncomputable def eLc (im : IM) (t : Tgt) (vs : List Nat) (tt : TM) (elt : EM) : EM := fun env s => (im env s).bind fun a s => finL (lcD t tt elt a (wipeE env vs) a.1 s)
noncomputable def eLcN (im : IM) (t : Tgt) (vs : List Nat) (tt : TM) (elt : EM) : EM := fun env s => (im env s).bind fun a s => finN (lcD t tt elt a (wipeE env vs) a.1 s)
theorem wipe_set {σ : St} {i : Nat} {x : Option V} : ∀ {vs : List Nat}, i ∈ vs → wipe (σ.set i x) vs = wipe σ vs
  | v :: vs, h => by
    show (wipe (σ.set i x) vs).set v none = (wipe σ vs).set v none
    by_cases hm : i ∈ vs
    · rw [wipe_set hm]
    · have hv : i = v := by simpa [hm] using h
      subst hv
      have q : ∀ (ws : List Nat), i ∉ ws → wipe (σ.set i x) ws = (wipe σ ws).set i x := by
        intro ws
        induction ws with
        | nil => intro _; rfl
        | cons w ws ih =>
          intro hn
          simp only [List.mem_cons, not_or] at hn
          show (wipe (σ.set i x) ws).set w none = ((wipe σ ws).set w none).set i x
          rw [ih hn.2, List.set_comm _ _ hn.1]
      rw [q vs hm, List.set_set]
theorem wipe_wipe (σ : St) : ∀ vs : List Nat, wipe (wipe σ vs) vs = wipe σ vs := by
  have q : ∀ (ws : List Nat) (τ : St), (∀ w ∈ ws, τ[w]? = some none ∨ τ[w]? = none) → wipe τ ws = τ := by
    intro ws
    induction ws with
    | nil => intro _ _; rfl
    | cons w ws ih =>
      intro τ h
      show (wipe τ ws).set w none = τ
      rw [ih τ fun v hv => h v (List.mem_cons_of_mem _ hv)]
      rcases h w List.mem_cons_self with h | h
      · obtain ⟨hl, e⟩ := List.getElem?_eq_some_iff.mp h
        conv => rhs; rw [← List.set_getElem_self hl]
        rw [e]
      · exact List.set_eq_of_length_le (List.getElem?_eq_none_iff.mp h)
  intro vs
  refine q vs _ fun w hw => ?_
  cases e : (wipe σ vs)[w]? with
  | none => exact .inr rfl
  | some o =>
    cases o with
    | none => exact .inl rfl
    | some x => exact absurd hw (wipe_some e).2
section
variable {K : PySem.W.Frag} {ca : Nat → Addr} {L : Lv} {H : Hp} {s : Store} {env : Env} {σ : St}
theorem ER.wipe (e : ER K L H env σ) : ∀ vs : List Nat, ER K L H (wipeE env vs) (L2.wipe σ vs)
  | [] => e
  | v :: vs => by
    have ih := ER.wipe e vs
    refine ⟨by simp [wipeE, L2.wipe, ih.1], fun i d h => ?_⟩
    unfold wipeE at h
    by_cases hv : v = i
    · subst hv
      by_cases hl : v < (wipeE env vs).length
      · rw [List.getElem?_set_self hl] at h; cases h
      · rw [List.getElem?_eq_none (by simpa using hl)] at h; cases h
    · rw [List.getElem?_set_ne hv] at h
      obtain ⟨x, h1, h2⟩ := ih.2 i d h
      exact ⟨x, by unfold L2.wipe; rw [List.getElem?_set_ne hv]; exact h1, h2⟩
theorem gT_ok {t : Tgt} {vs : List Nat} {d : D} {x : V} {env1 : Env} {Q : St → Hp → Prop} (hv : inT vs t) (e : ER K L H env σ) (r : RD K L H d x) (he : setT t d env = some env1) (q : ∀ σ2, ER K L H env1 σ2 → L2.wipe σ2 vs = L2.wipe σ vs → Q σ2 H) : gT K t x σ H Q := by
  cases t with
  | one i =>
    cases he
    exact q _ (e.set r) (wipe_set hv)
  | two i j =>
    unfold setT at he
    simp only at he
    split at he
    · rename_i x1 x2
      cases he
      simp only [RD] at r
      obtain ⟨a, vs', rfl, f, rs⟩ := r
      obtain ⟨v, w, rfl, q1, q2⟩ := rs.two
      exact ⟨a, _, rfl, f.sq, rfl, v, _, rfl, w, _, rfl, rfl, q _ ((e.set q1).set q2) (by rw [wipe_set hv.2, wipe_set hv.1])⟩
    · cases he
theorem mo_open {rho pi : List Addr} {p : Addr} : Mono (⟨rho, p :: pi⟩ : Lv) H ⟨rho, pi⟩ H := ⟨List.prefix_refl _, fun b' o eb h1 h2 => ⟨eb, h1, fun z => h2 (List.mem_cons_of_mem _ z)⟩⟩
theorem SR.open {rho pi : List Addr} {p : Addr} (S : SR K ca ⟨rho, p :: pi⟩ s H) : SR K ca ⟨rho, pi⟩ s H := ⟨S.len, S.nd, fun l b c e1 e2 => (S.cell l b c e1 e2).mono mo_open rfl, fun b hb => S.pi b (List.mem_cons_of_mem _ hb)⟩
theorem mo_adopt {rho pi : List Addr} {p : Addr} : Mono (⟨rho, p :: pi⟩ : Lv) H ⟨rho ++ [p], pi⟩ H := ⟨List.prefix_append _ _, fun b' o eb h1 h2 => ⟨eb, fun z => by
  rcases List.mem_append.mp z with z | z
  · exact h1 z
  · exact h2 (by simp at z; subst z; exact List.mem_cons_self), fun z => h2 (List.mem_cons_of_mem _ z)⟩⟩
/-- what was shut away becomes a live cell -/
theorem SR.adopt {rho pi : List Addr} {p : Addr} (S : SR K ca ⟨rho, p :: pi⟩ s H) (hp : p ∉ pi) {c : Cell} (hc : CellOk K ca ⟨rho ++ [p], pi⟩ H p c) : SR K ca ⟨rho ++ [p], pi⟩ (s ++ [c]) H := by
  have hr := (S.pi p List.mem_cons_self).1
  refine ⟨by have := S.len; simp at this ⊢; exact this, ?_, fun l a c' e1 e2 => ?_, fun b hb => ?_⟩
  · show (rho ++ [p]).Nodup
    rw [List.nodup_append]
    exact ⟨S.nd, by simp, fun a ha b hb => by simp at hb; subst hb; rintro rfl; exact hr ha⟩
  · have hlen : rho.length = s.length := S.len
    by_cases hl : l < rho.length
    · have e1' : rho[l]? = some a := by rw [← e1]; exact (List.getElem?_append_left hl).symm
      have e2' : s[l]? = some c' := by rw [← e2]; exact (List.getElem?_append_left (by rw [← hlen]; exact hl)).symm
      exact (S.cell l a c' e1' e2').mono mo_adopt rfl
    · have hl2 : l = rho.length := by
        have := (List.getElem?_eq_some_iff.mp e1).1
        simp at this; omega
      subst hl2
      have e1' : p = a := by simpa using e1
      have e2' : c = c' := by rw [hlen] at e2; simpa using e2
      subst e1'; subst e2'
      exact hc
  · obtain ⟨h1, h2⟩ := S.pi b (List.mem_cons_of_mem _ hb)
    refine ⟨fun hm => ?_, h2⟩
    rcases List.mem_append.mp hm with hm | hm
    · exact h1 hm
    · simp at hm; subst hm; exact hp hb
/-- what is shut away is written -/
theorem SR.poke (S : SR K ca L s H) {p : Addr} (hp : p ∈ L.pi) (o : HO) : SR K ca L s (upd H p o) ∧ Mono L H L (upd H p o) := by
  have k : Mono L H L (upd H p o) := ⟨List.prefix_refl _, fun b u e h1 h2 => ⟨by rw [upd_ne (show b ≠ p from fun z => h2 (by rw [z]; exact hp))]; exact e, h1, h2⟩⟩
  refine ⟨⟨S.len, S.nd, fun l a c e1 e2 => ?_, fun b hb => ?_⟩, k⟩
  · refine (S.cell l a c e1 e2).mono k ?_
    rw [upd_ne (show a ≠ p from fun z => (S.pi p hp).1 (by rw [← z]; exact List.mem_of_getElem? e1))]
  · obtain ⟨h1, u, hu⟩ := S.pi b hb
    by_cases hb' : b = p
    · subst hb'; exact ⟨h1, o, upd_same⟩
    · exact ⟨h1, u, by rw [upd_ne hb']; exact hu⟩
end
section
variable {X : Cx} {ca : Nat → Addr} {W : WX} {tg iter elt : Expr} {ifs : List Expr} {pos spos py : Pos}
/-- the reading of a comprehension, of any end -/
theorem lc_of {t : Tgt} {vs : List Nat} {tt : TM} {em : EM} {im : IM} (hv : inT vs t) {L : Lv} {env : Env} {s : Store} {σ : St} {H : Hp} {Q : VK} (S : SR X.K ca L s H) (e : ER X.K L H env σ)
    (p : post X.K ca (fun L' H' a J => Walks X.K ca L' H' a J) L H (im env s) (fun J H1 => ∃ L1 s1 a, Keep L H L1 H1 ∧ SR X.K ca L1 s1 H1 ∧ Walks X.K ca L1 H1 a J ∧
      ∃ zs s2, lcD t tt em a (wipeE env vs) a.1 s1 = .ok zs s2 ∧ zs.length ≤ LINE ∧ ∀ Dd, H1 Dd = none → ∀ rho2 H2 vs2, Keep L1 H1 ⟨rho2, L1.pi⟩ H2 → SR X.K ca ⟨rho2, Dd :: L1.pi⟩ s2 H2 → RDs X.K ⟨rho2, Dd :: L1.pi⟩ H2 zs vs2 → H2 Dd = some (.lst vs2) → Dd ∉ rho2 → Dd ∉ L1.pi → Q (.ref Dd) H2) (wE ca W σ)) :
    tLc (tI X.K ca W im) (gT X.K t) (tT X.K ca W0 tt) (tE X.K ca W0 em) vs σ H Q := by
  refine ⟨L, env, s, S, e, p.imp fun J H1 ⟨L1, s1, a, k1, S1, w1, zs, sE, ez, hz, q⟩ => fun Dd hD => ?_⟩
  have fD := S1.fresh hD
  -- the invariant
  refine ⟨fun i m H2 => ∃ rho2 s2 acc accV ys, m = a.1.length - i ∧ i ≤ a.1.length ∧ H2 Dd = some (.lst accV) ∧ Dd ∉ rho2 ∧ RDs X.K ⟨rho2, Dd :: L1.pi⟩ H2 acc accV ∧ SR X.K ca ⟨rho2, Dd :: L1.pi⟩ s2 H2 ∧ L1.rho <+: rho2 ∧
      (∀ b o, H1 b = some o → b ∉ L1.rho → H2 b = some o ∧ b ∉ rho2) ∧ lcD t tt em a (wipeE env vs) (a.1.drop i) s2 = .ok ys sE ∧ zs = acc ++ ys, ⟨a.1.length, L1.rho, s1, [], [], zs, by simp, Nat.zero_le _, upd_same, fD.1, .nil, ?_, List.prefix_refl _, fun b o eb hb => ⟨by rw [upd_ne (ne_of_none eb hD)]; exact eb, hb⟩, ez, rfl⟩, ?_⟩
  · obtain ⟨kk, SS⟩ := S1.new hD (.lst [])
    exact ⟨SS.len, SS.nd, fun l b c e1 e2 => (S1.cell l b c e1 e2).mono (L2 := ⟨L1.rho, Dd :: L1.pi⟩) ⟨List.prefix_refl _, fun b' o eb h1 h2 => ⟨by rw [upd_ne (ne_of_none eb hD)]; exact eb, h1, by
        simp only [List.mem_cons, not_or]; exact ⟨ne_of_none eb hD, h2⟩⟩⟩ (by
        obtain ⟨u, hu⟩ := (S1.cell l b c e1 e2).some
        rw [upd_ne (ne_of_none hu hD)]), fun b hb => by
        rcases List.mem_cons.mp hb with rfl | hb
        · exact ⟨fD.1, _, upd_same⟩
        · exact SS.pi b hb⟩
  rintro i m H2 ⟨rho2, s2, acc, accV, ys, rfl, hi, hDd, hDr, rA, S2, kr, kp, el, eq⟩
  have mono12 : Mono L1 H1 ⟨rho2, Dd :: L1.pi⟩ H2 := ⟨kr, fun b o eb h1 h2 => ⟨(kp b o eb h1).1, (kp b o eb h1).2, by simp only [List.mem_cons, not_or]; exact ⟨ne_of_none eb hD, h2⟩⟩⟩
  have pD : Dd ∈ (⟨rho2, Dd :: L1.pi⟩ : Lv).pi := List.mem_cons_self
  by_cases hlt : i < a.1.length
  · have hd : a.1.drop i = a.1[i] :: a.1.drop (i + 1) := List.drop_eq_getElem_cons hlt
    rw [hd] at el
    unfold lcD at el
    split at el
    case isFalse => cases el
    rename_i hG
    cases et : setT t a.1[i] (wipeE env vs) with
    | none => rw [et] at el; cases el
    | some env1 =>
      rw [et] at el
      simp only at el
      obtain ⟨go, yl⟩ := (w1 _ s2 H2 mono12 S2 hG i).1 a.1[i] (List.getElem?_eq_getElem hlt)
      refine .inr ⟨go, fun H3 => ∃ rho3 s3 acc3 accV3 ys3, H3 Dd = some (.lst accV3) ∧ Dd ∉ rho3 ∧ RDs X.K ⟨rho3, Dd :: L1.pi⟩ H3 acc3 accV3 ∧ SR X.K ca ⟨rho3, Dd :: L1.pi⟩ s3 H3 ∧ L1.rho <+: rho3 ∧
        (∀ b o, H1 b = some o → b ∉ L1.rho → H3 b = some o ∧ b ∉ rho3) ∧ lcD t tt em a (wipeE env vs) (a.1.drop (i + 1)) s3 = .ok ys3 sE ∧ zs = acc3 ++ ys3, ?_, fun x H' hy => ?_⟩
      · rintro H3 ⟨rho3, s3, acc3, accV3, ys3, h1, h2, h3, h4, h5, h6, h7, h8⟩
        exact ⟨a.1.length - (i + 1), by omega, rho3, s3, acc3, accV3, ys3, rfl, hlt, h1, h2, h3, h4, h5, h6, h7, h8⟩
      obtain ⟨k', S', r'⟩ := yl x H' hy
      have eW : ER X.K ⟨rho2, Dd :: L1.pi⟩ H' (wipeE env vs) (L2.wipe σ vs) := (((e.mono k1.mono).wipe vs).mono mono12).mono k'.mono
      refine gT_ok hv eW r' et fun σ2 e2 hw => ⟨by rw [hw, wipe_wipe], ?_⟩
      -- the test
      cases eb : tt env1 s2 with
      | exc c s => rw [eb] at el; cases el
      | bad => rw [eb] at el; cases el
      | ok b s3 =>
        rw [eb] at el
        simp only [R.bind_ok] at el
        refine ⟨_, env1, s2, S', e2, ?_⟩
        rw [eb]
        intro L3 b' H3 k3 S3 hb
        have hb : b = b' := hb
        subst hb
        have kD : Keep ⟨rho2, Dd :: L1.pi⟩ H2 L3 H3 := k'.trans k3
        have D3 := kD.keep Dd _ hDd hDr
        have pi3 : L3.pi = Dd :: L1.pi := kD.pi
        obtain ⟨rho3, pi3'⟩ := L3
        cases pi3
        have old3 : ∀ b o, H1 b = some o → b ∉ L1.rho → H3 b = some o ∧ b ∉ rho3 := fun b o eb hb => kD.keep b o (kp b o eb hb).1 (kp b o eb hb).2
        cases b with
        | false =>
          rw [if_neg Bool.false_ne_true] at el
          exact iteF ⟨rho3, s3, acc, accV, ys, D3.1, D3.2, RDs.mono kD.mono _ _ rA, S3, kr.trans kD.rho, old3, el, eq⟩
        | true =>
          rw [if_pos rfl] at el
          refine iteT ?_
          cases ey : em env1 s3 with
          | exc c s => rw [ey] at el; cases el
          | bad => rw [ey] at el; cases el
          | ok y s4 =>
            rw [ey] at el
            simp only [R.bind_ok] at el
            cases er : lcD t tt em a (wipeE env vs) (a.1.drop (i + 1)) s4 with
            | exc c s => rw [er] at el; cases el
            | bad => rw [er] at el; cases el
            | ok ys4 s5 =>
              rw [er] at el
              simp only [R.bind_ok] at el
              cases el
              refine ⟨_, env1, s3, S3, e2.mono k3.mono, ?_⟩
              rw [ey]
              intro L4 v4 H4 k4 S4 r4
              have kD4 : Keep ⟨rho2, Dd :: L1.pi⟩ H2 L4 H4 := kD.trans k4
              have D4 := kD4.keep Dd _ hDd hDr
              have pi4 : L4.pi = Dd :: L1.pi := kD4.pi
              obtain ⟨rho4, pi4'⟩ := L4
              cases pi4
              have pD4 : Dd ∈ (⟨rho4, Dd :: L1.pi⟩ : Lv).pi := List.mem_cons_self
              obtain ⟨S5, m5⟩ := S4.poke pD4 (.lst (accV ++ [v4]))
              have rA4 := RDs.mono kD4.mono _ _ rA
              refine ⟨accV, D4.1, ?_, rho4, s4, acc ++ [y], accV ++ [v4], ys4, upd_same, D4.2, RDs.mono m5 _ _ (rA4.append (.cons r4 .nil)), S5, kr.trans kD4.rho, fun b o eb hb => ?_, er, by rw [List.append_assoc]; exact eq⟩
              · rw [← rA.length, line_eq]
                rw [eq] at hz
                simp at hz
                omega
              · have q := kD4.keep b o (kp b o eb hb).1 (kp b o eb hb).2
                exact ⟨by rw [upd_ne (ne_of_none eb hD)]; exact q.1, q.2⟩
  · have hi' : i = a.1.length := by omega
    subst hi'
    rw [List.drop_length] at el
    unfold lcD at el
    split at el
    case isFalse => cases el
    rename_i hG
    cases el
    rw [List.append_nil] at eq
    subst eq
    refine .inl ⟨(w1 _ sE H2 mono12 S2 hG _).2 (Nat.le_refl _), ?_⟩
    exact q Dd hD rho2 H2 accV ⟨rfl, kr, kp⟩ S2 rA hDd hDr fD.2
variable {scope : Scope} {own : List (Str × Nat)} {t : Tgt} {tt : TM} {em : EM} {im : IM}
/-- targets of a comprehension -/
def TgOk (X : Cx) (tg : Expr) (t : Tgt) : Prop := PG X tg (gT X.K t)
theorem tg_one (i : Nat) {x : Str} {pos : Pos} (hN : X.N.Nodup) (hi : X.N[i]? = some x := by rfl) (hx : Loc X.env.scope x := by first | exact Or.inl rfl | exact Or.inr rfl) (hf : X.fn x = true ∨ X.env.scope.names.lookup x = some .local := by first | exact .inl rfl | exact .inr rfl | assumption) : TgOk X (.Name x pos) (.one i) := pg_name hN hi hx hf
theorem tg_two (i j : Nat) {x y : Str} {pos p1 p2 : Pos} {k : Nat} (hc : X.calm = true) (hN : X.N.Nodup) (hi : X.N[i]? = some x := by rfl) (hj : X.N[j]? = some y := by rfl) (hx : Loc X.env.scope x := by first | exact Or.inl rfl | exact Or.inr rfl) (hf : X.fn x = true ∨ X.env.scope.names.lookup x = some .local := by first | exact .inl rfl | exact .inr rfl | assumption)
    (hy : Loc X.env.scope y := by first | exact Or.inl rfl | exact Or.inr rfl) (hfy : X.fn y = true ∨ X.env.scope.names.lookup y = some .local := by first | exact .inl rfl | exact .inr rfl | assumption) : TgOk X (.Tuple [.Name x p1, .Name y p2] k pos) (.two i j) :=
  pg_tup hc (pgs_cons (pg_name hN hi hx hf) (pgs_cons (pg_name hN hj hy hfy) pgs_nil))
def DTs (X : Cx) (ca : Nat → Addr) (W : WX) (ifs : List Expr) (m : TM) : Prop := PTs X ifs (tT X.K ca W m)
theorem PTs.imp {X : Cx} {e : List Expr} {t t' : TT} (h : PTs X e t) (i : ∀ σ H Q, t' σ H Q → t σ H Q) : PTs X e t' := ⟨fun pins s σ H Q I q => h.run pins s σ H Q I (i σ H Q q)⟩
theorem dts_nil : DTs X ca W [] tYesM := PTs.imp pts_nil fun σ H Q ⟨L, env, s, S, e, p⟩ => p L true H Keep.refl S rfl
theorem dts_one {c : Expr} {tc : TM} (h : DT X ca W c tc) : DTs X ca W [c] tc := pts_one h
abbrev Blk (X : Cx) (scope : Scope) (P : Cx → Prop) : Prop := ∀ (s : Shared) (H : Hp) (C : Addr) (cl : List (Str × Addr)) (fp : List Addr), P (X.blk s H scope (compEnvC scope cl C X.env) fp)
theorem lc_post {L : Lv} {env : Env} {s : Store} {σ : St} {H : Hp} {vs : List Nat} {Q : VK} (p : post X.K ca (RD X.K) L H (eLc im t vs tt em env s) Q (wE ca W σ)) :
    post X.K ca (fun L' H' a J => Walks X.K ca L' H' a J) L H (im env s) (fun J H1 => ∃ L1 s1 a, Keep L H L1 H1 ∧ SR X.K ca L1 s1 H1 ∧ Walks X.K ca L1 H1 a J ∧
      ∃ zs s2, lcD t tt em a (wipeE env vs) a.1 s1 = .ok zs s2 ∧ zs.length ≤ LINE ∧ ∀ Dd, H1 Dd = none → ∀ rho2 H2 vs2, Keep L1 H1 ⟨rho2, L1.pi⟩ H2 → SR X.K ca ⟨rho2, Dd :: L1.pi⟩ s2 H2 → RDs X.K ⟨rho2, Dd :: L1.pi⟩ H2 zs vs2 → H2 Dd = some (.lst vs2) → Dd ∉ rho2 → Dd ∉ L1.pi → Q (.ref Dd) H2) (wE ca W σ) :=
  p.bind.imp fun J H1 ⟨L1, s1, a, k1, S1, w1, p1⟩ => by
    refine ⟨L1, s1, a, k1, S1, w1, ?_⟩
    cases q : lcD t tt em a (wipeE env vs) a.1 s1 with
    | exc c s => rw [q] at p1; exact p1.elim
    | bad => rw [q] at p1; exact p1.elim
    | ok zs s2 =>
      rw [q] at p1
      have p2 : post X.K ca (RD X.K) L1 H1 (if zs.length ≤ LINE then R.ok (D.lst zs) s2 else R.bad) Q (wE ca W σ) := p1
      split at p2
      · rename_i hz
        refine ⟨_, _, rfl, hz, fun Dd hD rho2 H2 vs2 k S2 rs h1 h2 h3 => p2 _ _ _ k S2.open ?_⟩
        simp only [RD]
        exact ⟨Dd, vs2, rfl, ⟨h2, h3, h1⟩, RDs.mono mo_open _ _ rs⟩
      · exact p2.elim
theorem lc_postN {L : Lv} {env : Env} {s : Store} {σ : St} {H : Hp} {vs : List Nat} {Q : VK} (p : post X.K ca (RD X.K) L H (eLcN im t vs tt em env s) Q (wE ca W σ)) :
    post X.K ca (fun L' H' a J => Walks X.K ca L' H' a J) L H (im env s) (fun J H1 => ∃ L1 s1 a, Keep L H L1 H1 ∧ SR X.K ca L1 s1 H1 ∧ Walks X.K ca L1 H1 a J ∧
      ∃ zs s2, lcD t tt em a (wipeE env vs) a.1 s1 = .ok zs s2 ∧ zs.length ≤ LINE ∧ ∀ Dd, H1 Dd = none → ∀ rho2 H2 vs2, Keep L1 H1 ⟨rho2, L1.pi⟩ H2 → SR X.K ca ⟨rho2, Dd :: L1.pi⟩ s2 H2 → RDs X.K ⟨rho2, Dd :: L1.pi⟩ H2 zs vs2 → H2 Dd = some (.lst vs2) → Dd ∉ rho2 → Dd ∉ L1.pi → Q (.ref Dd) H2) (wE ca W σ) :=
  p.bind.imp fun J H1 ⟨L1, s1, a, k1, S1, w1, p1⟩ => by
    refine ⟨L1, s1, a, k1, S1, w1, ?_⟩
    cases q : lcD t tt em a (wipeE env vs) a.1 s1 with
    | exc c s => rw [q] at p1; exact p1.elim
    | bad => rw [q] at p1; exact p1.elim
    | ok zs s2 =>
      rw [q] at p1
      have p2 : post X.K ca (RD X.K) L1 H1 (if zs.length ≤ LINE then R.ok (D.ref s2.length) (s2 ++ [Cell.lst zs]) else R.bad) Q (wE ca W σ) := p1
      split at p2
      · rename_i hz
        refine ⟨_, _, rfl, hz, fun Dd hD rho2 H2 vs2 k S2 rs h1 h2 h3 => ?_⟩
        have k' : Keep L1 H1 ⟨rho2 ++ [Dd], L1.pi⟩ H2 := ⟨rfl, k.rho.trans (List.prefix_append _ _), fun b o eb hb => ⟨(k.keep b o eb hb).1, fun hm => by
          rcases List.mem_append.mp hm with hm | hm
          · exact (k.keep b o eb hb).2 hm
          · simp at hm; rw [hm, hD] at eb; cases eb⟩⟩
        refine p2 _ _ _ k' (S2.adopt h3 (c := .lst zs) ⟨vs2, h1, RDs.mono mo_adopt _ _ rs⟩) ?_
        simp only [RD]
        exact ⟨Dd, rfl, by have := S2.len; rw [← this]; simp⟩
      · exact p2.elim
theorem de_lc (hc : X.calm = true) (hN : X.N.Nodup) (hi : DI X ca W tg iter im) (ok : BlkOk X.N X.env.scope scope own) (hv : inT (own.map (·.2)) t) (hg : Blk X scope fun Y => TgOk Y tg t) (ht : Blk X scope fun Y => DTs Y ca W0 ifs tt) (he : Blk X scope fun Y => DE Y ca W0 elt em)
    (hs : ∀ x, foldedSetIterable iter X.env x = pure x := by intro _; rfl) : DE X ca W (.ListComp elt [⟨tg, iter, ifs, 0⟩] scope pos) (eLc im t (own.map (·.2)) tt em) :=
  PE.imp (pe_lc (g := gT X.K t) (tt := tT X.K ca W0 tt) (te := tE X.K ca W0 em) hc hN hi ok hg ht he hs) fun σ H Q ⟨L, env, s, S, e, p⟩ => lc_of hv S e (lc_post p)
theorem de_lcN (hc : X.calm = true) (hN : X.N.Nodup) (hi : DI X ca W tg iter im) (ok : BlkOk X.N X.env.scope scope own) (hv : inT (own.map (·.2)) t) (hg : Blk X scope fun Y => TgOk Y tg t) (ht : Blk X scope fun Y => DTs Y ca W0 ifs tt) (he : Blk X scope fun Y => DE Y ca W0 elt em)
    (hs : ∀ x, foldedSetIterable iter X.env x = pure x := by intro _; rfl) : DE X ca W (.ListComp elt [⟨tg, iter, ifs, 0⟩] scope pos) (eLcN im t (own.map (·.2)) tt em) :=
  PE.imp (pe_lc (g := gT X.K t) (tt := tT X.K ca W0 tt) (te := tE X.K ca W0 em) hc hN hi ok hg ht he hs) fun σ H Q ⟨L, env, s, S, e, p⟩ => lc_of hv S e (lc_postN p)
theorem ds_setLc (i : Nat) {y : Str} (hc : X.calm = true) (hN : X.N.Nodup) (hi : DI X ca W tg iter im) (ok : BlkOk X.N X.env.scope scope own) (hv : inT (own.map (·.2)) t) (hg : Blk X scope fun Y => TgOk Y tg t) (ht : Blk X scope fun Y => DTs Y ca W0 ifs tt) (he : Blk X scope fun Y => DE Y ca W0 elt em)
    (hy : X.N[i]? = some y := by rfl) (hyl : X.env.scope.names.lookup y = some .local := by rfl) (hsw : swapsWith (.ListComp elt [⟨tg, iter, ifs, 0⟩] scope pos) (some (.Name y py)) spos.line X.env = pure true := by exact sw_true rfl rfl rfl (by decide +kernel))
    (hs : ∀ x, foldedSetIterable iter X.env x = pure x := by intro _; rfl) : DS X ca W (.Assign [.Name y py] (.ListComp elt [⟨tg, iter, ifs, 0⟩] scope pos) spos) (sSet i (eLc im t (own.map (·.2)) tt em)) :=
  PS.imp (ps_setLc (g := gT X.K t) (tt := tT X.K ca W0 tt) (te := tE X.K ca W0 em) hc hN hy hyl hsw hi ok hg ht he hs) fun T σ H ⟨L, env, s, S, e, p⟩ =>
    lc_of hv S e (lc_post (p.ofR.imp fun v H1 ⟨L1, s1, d, k1, S1, r1, p1⟩ => p1 L1 _ H1 Keep.refl S1 ((e.mono k1.mono).set r1)))
end
end DE
/-! DE8: raise; a law's end -/
namespace DE
open PySem PySem.Spec PyProof.Rows L2
theorem takes0N {X : Cx} : L2N.Takes X W0 := fun _ _ x => by
  obtain ⟨_, _, _, _, _, _, _, _, _, _, _, _, _, _, _, _, z⟩ := x
  exact z.elim
/-- what is known of an own class of refusals -/
structure ExT (K : PySem.W.Frag) (mg : Str → Option Value) (x : Str) (C : Addr) : Prop where
  g : mg x = some (.ref C)
  x : PySem.W.excIn K C [.type "ValueError", .type "Exception", .type "BaseException", .type "object"] "ValueError.__new__" = true
  k : PySem.W.keepIn K (.ref C) = true
  b : PySem.W.subIn K (.ref C) (.type "BaseException") = some true
  t : PySem.W.typeIn K (.ref C) = some (.type "type")
section
variable {X : Cx} {ca : Nat → Addr} {W : WX} {pos p p2 pos2 : Pos}
def sRaise (c : Nat) : SM := fun _ s => .exc c s
theorem ds_raise {x m : Str} {j c : Nat} (T : ExT X.K X.mg x (ca c)) (hc : X.calm = true) (tk : L2N.Takes X W) (hg : Gl X x := by rfl) (hdb : (x == ("__debug__" : Str)) = false := by decide) :
    DS X ca W (.Raise (some (.Call (.Name x p) [.Constant (.str m) j p2] [] pos)) none pos2) (sRaise c) :=
  PS.imp (L2N.ps_raise hc tk (L2N.pmk_own PySem.F.excBase_ValueError T.x T.g T.k (raises_own T.b T.t) hg hdb)) fun T σ H ⟨L, env, s, S, e, p⟩ => p L H Keep.refl S
end
theorem wid_fn {E : XK} : Wid (fun cls d _ H => E cls d H) := fun _ _ _ _ _ h => h
theorem wid_0 : Wid W0 := fun _ _ _ _ _ h => h
section
variable {K : PySem.W.Frag} {ca : Nat → Addr} {L L2 : Lv} {H H2 : Hp} {s s2 : Store} {n : Nat}
mutual
/-- what was read before and is read now needs no later cell -/
theorem RD.narrow (w : Within L L2 n) : ∀ (d : D) (v0 v : V), RD K L H d v0 → RD K L2 H2 d v → RD K L H2 d v
  | .tup xs, v0, v, h, r => by
    simp only [RD] at h r ⊢
    obtain ⟨a0, vs0, e0, f0, rs0⟩ := h
    obtain ⟨a, vs, e, f, rs⟩ := r
    exact ⟨a, vs, e, f.within w, RDs.narrow w xs vs0 vs rs0 rs⟩
  | .lst xs, v0, v, h, r => by
    simp only [RD] at h r ⊢
    obtain ⟨a0, vs0, e0, f0, rs0⟩ := h
    obtain ⟨a, vs, e, f, rs⟩ := r
    exact ⟨a, vs, e, ⟨w.out f.1, w.outp f.2.1, f.2.2⟩, RDs.narrow w xs vs0 vs rs0 rs⟩
  | .dct ks xs, v0, v, h, r => by
    simp only [RD] at h r ⊢
    obtain ⟨a0, vs0, e0, f0, l0, rs0⟩ := h
    obtain ⟨a, vs, e, f, l, rs⟩ := r
    exact ⟨a, vs, e, ⟨w.out f.1, w.outp f.2.1, f.2.2⟩, l, RDs.narrow w xs vs0 vs rs0 rs⟩
  | .ref l, v0, v, h, r => by
    simp only [RD] at h r ⊢
    obtain ⟨a0, e0, q0⟩ := h
    obtain ⟨a, e, q⟩ := r
    refine ⟨a, e, ?_⟩
    have := prefix_get w.rho q0
    rw [q] at this; cases this
    exact q0
  | .scr ns, v0, v, h, r => by
    simp only [RD] at r ⊢
    obtain ⟨a, e, f⟩ := r
    exact ⟨a, e, f.within w⟩
  | .exc _ _, _, _, _, r => r
  | .obj fs xs, v0, v, h, r => by
    simp only [RD] at h r ⊢
    obtain ⟨a0, C0, dx0, vs0, e0, f0, c0, l0, rs0⟩ := h
    obtain ⟨a, C, dx, vs, e, f, c, l, rs⟩ := r
    exact ⟨a, C, dx, vs, e, ⟨w.out f.1, w.outp f.2.1, f.2.2⟩, c, l, RDs.narrow w xs vs0 vs rs0 rs⟩
  | .non, _, _, _, r => r
  | .bl _, _, _, _, r => r
  | .int _, _, _, _, r => r
  | .str _, _, _, _, r => r
theorem RDs.narrow (w : Within L L2 n) : ∀ (ds : List D) (vs0 vs : List V), RDs K L H ds vs0 → RDs K L2 H2 ds vs → RDs K L H2 ds vs
  | [], _, _, _, r => r
  | x :: xs, _, _, h, r => by
    simp only [RDs] at h r
    obtain ⟨w0, ws0, rfl, r0, rs0⟩ := h
    obtain ⟨w1, ws1, rfl, r1, rs1⟩ := r
    exact .cons (RD.narrow w x w0 w1 r0 r1) (RDs.narrow w xs ws0 ws1 rs0 rs1)
end
theorem CellOk.narrow (w : Within L L2 n) {a : Addr} {c : Cell} (h : CellOk K ca L H a c) (r : CellOk K ca L2 H2 a c) : CellOk K ca L H2 a c := by
  cases c with
  | lst xs => obtain ⟨v0, _, h0⟩ := h; obtain ⟨v, e, h1⟩ := r; exact ⟨v, e, RDs.narrow w _ _ _ h0 h1⟩
  | dK ks xs => obtain ⟨v0, _, _, h0⟩ := h; obtain ⟨v, e, l, h1⟩ := r; exact ⟨v, e, l, RDs.narrow w _ _ _ h0 h1⟩
  | dT ks xs => obtain ⟨v0, _, _, h0⟩ := h; obtain ⟨v, e, l, h1⟩ := r; exact ⟨v, e, l, RDs.narrow w _ _ _ h0 h1⟩
  | ins k fs xs => obtain ⟨d0, v0, _, _, _, h0⟩ := h; obtain ⟨d, v, e, l, c, h1⟩ := r; exact ⟨d, v, e, l, c, RDs.narrow w _ _ _ h0 h1⟩
/-- behind a call that left the old cells as they were -/
theorem SR.back (S : SR K ca L s H) (k : Keep L H L2 H2) (S2 : SR K ca L2 s2 H2) (e : s2.take s.length = s) : Within L L2 s.length ∧ Keep L H L H2 ∧ SR K ca L s H2 := by
  have w : Within L L2 s.length := ⟨k.rho, S.len, k.pi⟩
  refine ⟨w, ⟨rfl, List.prefix_refl _, fun b o eb hb => ⟨(k.keep b o eb hb).1, hb⟩⟩, S.len, S.nd, fun l a c e1 e2 => ?_, fun b hb => ?_⟩
  · have hl : l < s.length := (List.getElem?_eq_some_iff.mp e2).1
    have e2' : s2[l]? = some c := by
      rw [← e, List.getElem?_take_of_lt hl] at e2
      exact e2
    exact (S.cell l a c e1 e2).narrow w (S2.cell l a c (prefix_get k.rho e1) e2')
  · obtain ⟨h1, o, h2⟩ := S.pi b hb
    exact ⟨h1, o, (k.keep b o h2 h1).1⟩
open Classical in
/-- without what it made: the result by itself, the store as it was -/
noncomputable def pureRet (fn : Fn) : Fn := fun ds s => match fn ds s with
  | .ok d s' => match frz s' s.length d with
    | some d' => if s'.take s.length = s then .ok d' s else .bad
    | none => .bad
  | .exc c s' => if s'.take s.length = s then .exc c s else .bad
  | .bad => .bad
theorem sp_pure {m : Nat} {fn : Fn} : ∀ vs H Q E, spOf K ca m (pureRet fn) vs H Q E → spOf K ca m fn vs H Q E := fun vs H Q E ⟨L, ds, s, hn, S, r, p⟩ => by
  refine ⟨L, ds, s, hn, S, r, ?_⟩
  unfold pureRet at p
  cases q : fn ds s with
  | bad => rw [q] at p; exact p.elim
  | exc c s2 =>
    rw [q] at p
    simp only at p
    split at p
    · rename_i ht
      intro L2 H2 k S2
      obtain ⟨w, k', S'⟩ := S.back k S2 ht
      exact p L H2 k' S'
    · exact p.elim
  | ok d s2 =>
    rw [q] at p
    simp only at p
    split at p
    · rename_i d' ef
      split at p
      · rename_i ht
        intro L2 v H2 k S2 rv
        obtain ⟨w, k', S'⟩ := S.back k S2 ht
        exact p L v H2 k' S' (frz_ok w S2 ef rv)
      · exact p.elim
    · exact p.elim
end
section
variable {P : Program} {w : World} {K : PySem.W.Frag} {mg : Str → Option Value} {base : Heap} {ca : Nat → Addr} {CX : CXT}
theorem fn_pure {k m : Nat} {f : Addr} {fd : FuncData} {ps : List Str} {fn : Fn} (F : FnOk P w K mg base CX k f fd ps (spOf K ca m fn)) : FnOk P w K mg base CX k f fd ps (spOf K ca m (pureRet fn)) := F.imp sp_pure
/-- at no level nothing is promised -/
theorem fn_zero {m k : Nat} {f : Addr} {fd : FuncData} {ps : List Str} : FnOk P w K mg base CX k f fd ps (spOf K ca m fun _ _ => .bad) :=
  ⟨fun vs H Q E ⟨_, _, _, _, _, _, p⟩ => p.elim, fun _ _ _ _ _ _ _ _ _ _ _ _ _ ⟨_, _, _, _, _, _, p⟩ => p.elim⟩
end
end DE
/-! DE9: small words for the printed derivations -/
namespace DE
open PySem PySem.Spec PyProof.Rows L2
theorem hu200 {k : Nat} {A : Around} (hr : Room k A) : A.units + 200 < cLine := by have := hr.un; omega
theorem hu1 {k : Nat} {A : Around} (hr : Room k A) : A.units + 1 < cLine := by have := hr.un; omega
def GlobD (K : PySem.W.Frag) (mg : Str → Option Value) (x : Str) (d : D) : Prop := ∃ u v, mg x = some u ∧ RelV v u ∧ ∀ L H, RD K L H d v
section
variable {X : Cx} {ca : Nat → Addr} {W : WX} {pos : Pos}
theorem de_globD {x : Str} {d : D} (hg : Gl X x) (h : GlobD X.K X.mg x d) (hd : (x == ("__debug__" : Str)) = false := by decide) : DE X ca W (.Name x pos) (eC d) := by
  obtain ⟨u, v, h1, h2, h3⟩ := h
  exact de_glob hg h1 h2 h3 hd
theorem imp_lt : Imp2 X.K ca ltD (rI0 fun i j => .bl (decide (i < j))) := imp_cmp _
theorem imp_le : Imp2 X.K ca leD (rI0 fun i j => .bl (decide (i ≤ j))) := imp_cmp _
theorem imp_gt : Imp2 X.K ca gtD (rI0 fun i j => .bl (decide (j < i))) := imp_cmp _
theorem imp_ge : Imp2 X.K ca geD (rI0 fun i j => .bl (decide (j ≤ i))) := imp_cmp _
end
section
variable {P : Program} {w : World} {K : PySem.W.Frag} {mg : Str → Option Value} {base : Heap} {N : List Str} {qual : Str} {scope : Scope} {f : Addr} {cd : Value} {A : Around} {outer : List PySem.Env} {s : Shared} {H : Hp} {E : XK}
theorem tk_fn : L2N.Takes (cxOf (L2N.CX P w) P w K mg base N qual scope f cd A outer s H E) (fun cls d _ H => E cls d H) := L2N.takes_of rfl rfl rfl rfl
theorem hp_fn : PassesOwn (model P w) (cxOf (L2N.CX P w) P w K mg base N qual scope f cd A outer s H E).A (cxOf (L2N.CX P w) P w K mg base N qual scope f cd A outer s H E).env (cxOf (L2N.CX P w) P w K mg base N qual scope f cd A outer s H E).xe := passes_of rfl
end
namespace B
theorem max : bootBuiltins "max" = some (.builtin "max") := by decide +kernel
theorem min : bootBuiltins "min" = some (.builtin "min") := by decide +kernel
theorem abs : bootBuiltins "abs" = some (.builtin "abs") := by decide +kernel
theorem list : bootBuiltins "list" = some (.type "list") := by decide +kernel
theorem tuple : bootBuiltins "tuple" = some (.type "tuple") := by decide +kernel
theorem int : bootBuiltins "int" = some (.type "int") := by decide +kernel
theorem str : bootBuiltins "str" = some (.type "str") := by decide +kernel
theorem bool : bootBuiltins "bool" = some (.type "bool") := by decide +kernel
theorem dict : bootBuiltins "dict" = some (.type "dict") := by decide +kernel
end B
end DE
/-! DEH: within an except suite: the ends of a list and of a tuple that is unpacked, a comprehension over a list -/
namespace DE
open PySem PySem.Spec PyProof.Rows L2 HotX
section
variable {prog : Program} {w : World} {A : Around} {E : Value → Shared → Prop} {s : Shared}
theorem list_end_hot {it l x1 : Addr} {i : Nat} {items : Array Value} {Q : Option Value → Shared → Prop} (hot : HotAt A x1 s.heap) (hne : it ≠ x1) (hit : s.heap.IsListIter it l i) (hl : s.heap.IsList l items) (hx : items[i]? = none)
    (hQ : ∀ h', (∀ b o, b ≠ it → s.heap.get? b = some o → h'.get? b = some o) → Q none { s with heap := h' }) : wpAny (model prog w) A (pyNext (.ref it)) Q E s := by
  obtain ⟨o, ho, hc, hd⟩ := id hit
  obtain ⟨ol, hol, _, nl, hdl⟩ := hl
  obtain ⟨hh, o1, vs1, h1, d1, c1⟩ := hot
  unfold pyNext
  refine wpAny_bind (wpAny_attempt (wpAny_callSpecial?_slot (name := Str.ofString "__next__") hit.typeIs slot_listiter_next
    (wpAny_call_entry slot_listiter_next hit.typeIs entry_listiter_next ?_ (args_listiter_next _))))
  show wpAny _ _ (field (.ref it) 0 >>= _) _ _ s
  refine wpAny_bind (wpAny_field ho hd (x := .ref l) rfl ?_)
  show wpAny _ _ (if (Value.ref l == Value.none) = true then _ else _) _ _ s
  rw [if_neg (show ¬ ((Value.ref l == Value.none) = true) from Bool.false_ne_true)]
  show wpAny _ _ (field (.ref it) 1 >>= _) _ _ s
  refine wpAny_bind (wpAny_field ho hd (x := .int i 0) rfl ?_)
  show wpAny _ _ (seqItems? (.ref l) >>= _) _ _ s
  refine wpAny_bind (wpAny_seqItems hol hdl ?_)
  simp only [Int.toNat_natCast, hx]
  refine wpAny_bind (wpAny_rule (wpAny_bind (wpAny_setField ho hd (by simp) ?_)))
  show wpAny _ _ (newExc (.type "StopIteration") [] >>= _) _ _ _
  refine wpAny_bind ?_
  simp only [newExc, newTuple]
  refine wpAny_bind (wpAny_newObj_type ?_ (by size_fits))
  refine wpAny_bind (m := firstArgMember _ _) (wpAny_of_eq (a := Value.none) (by first | rfl | (simp only [firstArgMember]; rfl)) ?_)
  refine wpAny_newObj_type ?_ (by size_fits)
  have u1 : (s.heap.update it (Obj.mapFields (·.setIfInBounds 0 .none))).get? x1 = some o1 := by
    rw [Heap.get?_update_other _ _ hne]; exact h1
  refine raiseNew_hot ⟨hh, o1, vs1, Heap.get?_push_of_some _ (Heap.get?_push_of_some _ u1), d1, c1⟩ (Nat.ne_of_lt (Heap.lt_size (Heap.get?_push_of_some _ u1))) (Heap.get?_push_size _ rfl) rfl (by first | (simp; done) | (simp; omega) | (simp only [Array.size_append]; simp; omega)) ?_
  refine wpAny_bind (wpAny_isInstance (T := "StopIteration") (b := true) ⟨_, Heap.get?_update_self _ (Heap.get?_push_size _ rfl) rfl, rfl⟩ isSubtype_stop ?_)
  refine wpAny_pure (hQ _ fun b o hb e => ?_)
  have e2 : (s.heap.update it (Obj.mapFields (·.setIfInBounds 0 .none))).get? b = some o := by
    rw [Heap.get?_update_other _ _ (Ne.symm hb)]; exact e
  rw [Heap.get?_update_other _ _ (Nat.ne_of_gt (Heap.lt_size (Heap.get?_push_of_some _ e2)))]
  exact Heap.get?_push_of_some _ (Heap.get?_push_of_some _ e2)
theorem tuple_end_hot {it l x1 : Addr} {i : Nat} {items : Array Value} {Q : Option Value → Shared → Prop} (hot : HotAt A x1 s.heap) (hne : it ≠ x1) (hit : IsTupIter s.heap it l i) (hl : IsTup s.heap l items) (hx : items[i]? = none)
    (hQ : ∀ h', (∀ b o, b ≠ it → s.heap.get? b = some o → h'.get? b = some o) → Q none { s with heap := h' }) : wpAny (model prog w) A (pyNext (.ref it)) Q E s := by
  obtain ⟨o, ho, hc, hd⟩ := id hit
  obtain ⟨ol, hol, _, nl, hdl⟩ := hl
  obtain ⟨hh, o1, vs1, h1, d1, c1⟩ := hot
  unfold pyNext
  refine wpAny_bind (wpAny_attempt (wpAny_callSpecial?_slot (name := Str.ofString "__next__") (T := "tuple_iterator") ⟨o, ho, hc⟩ F.slot_tuple_iterator_next
    (wpAny_call_entry F.slot_tuple_iterator_next (T := "tuple_iterator") ⟨o, ho, hc⟩ F.entry_tuple_iterator_next ?_ (F.args_tuple_iterator_next_1 _))))
  show wpAny _ _ (field (.ref it) 0 >>= _) _ _ s
  refine wpAny_bind (wpAny_field ho hd (x := .ref l) rfl ?_)
  show wpAny _ _ (if (Value.ref l == Value.none) = true then _ else _) _ _ s
  rw [if_neg (show ¬ ((Value.ref l == Value.none) = true) from Bool.false_ne_true)]
  show wpAny _ _ (field (.ref it) 1 >>= _) _ _ s
  refine wpAny_bind (wpAny_field ho hd (x := .int i 0) rfl ?_)
  show wpAny _ _ (seqItems? (.ref l) >>= _) _ _ s
  refine wpAny_bind (wpAny_seqItems hol hdl ?_)
  simp only [Int.toNat_natCast, hx]
  refine wpAny_bind (wpAny_rule (wpAny_bind (wpAny_setField ho hd (by simp) ?_)))
  show wpAny _ _ (newExc (.type "StopIteration") [] >>= _) _ _ _
  refine wpAny_bind ?_
  simp only [newExc, newTuple]
  refine wpAny_bind (wpAny_newObj_type ?_ (by size_fits))
  refine wpAny_bind (m := firstArgMember _ _) (wpAny_of_eq (a := Value.none) (by first | rfl | (simp only [firstArgMember]; rfl)) ?_)
  refine wpAny_newObj_type ?_ (by size_fits)
  have u1 : (s.heap.update it (Obj.mapFields (·.setIfInBounds 0 .none))).get? x1 = some o1 := by
    rw [Heap.get?_update_other _ _ hne]; exact h1
  refine raiseNew_hot ⟨hh, o1, vs1, Heap.get?_push_of_some _ (Heap.get?_push_of_some _ u1), d1, c1⟩ (Nat.ne_of_lt (Heap.lt_size (Heap.get?_push_of_some _ u1))) (Heap.get?_push_size _ rfl) rfl (by first | (simp; done) | (simp; omega) | (simp only [Array.size_append]; simp; omega)) ?_
  refine wpAny_bind (wpAny_isInstance (T := "StopIteration") (b := true) ⟨_, Heap.get?_update_self _ (Heap.get?_push_size _ rfl) rfl, rfl⟩ isSubtype_stop ?_)
  refine wpAny_pure (hQ _ fun b o hb e => ?_)
  have e2 : (s.heap.update it (Obj.mapFields (·.setIfInBounds 0 .none))).get? b = some o := by
    rw [Heap.get?_update_other _ _ (Ne.symm hb)]; exact e
  rw [Heap.get?_update_other _ _ (Nat.ne_of_gt (Heap.lt_size (Heap.get?_push_of_some _ e2)))]
  exact Heap.get?_push_of_some _ (Heap.get?_push_of_some _ e2)
theorem hot_keep {x1 : Addr} {h h' : Heap} (hot : HotAt A x1 h) (k : ∀ o, h.get? x1 = some o → h'.get? x1 = some o) : HotAt A x1 h' := by
  obtain ⟨hh, o1, vs1, h1, d1, c1⟩ := hot
  exact ⟨hh, o1, vs1, k _ h1, d1, c1⟩
theorem hot_some {x1 : Addr} {h : Heap} (hot : HotAt A x1 h) : ∃ o, h.get? x1 = some o := by
  obtain ⟨hh, o1, vs1, h1, d1, c1⟩ := hot
  exact ⟨o1, h1⟩
theorem unpack_hot {t x1 : Addr} {items : Array Value} {Q : List Value → Shared → Prop} (hot : HotAt A x1 s.heap) (ht : IsTup s.heap t items)
    (hQ : ∀ h', Heap.ExtBut s.heap.objs.size s.heap h' → Q items.toList { s with heap := h' }) : wpAny (model prog w) A (unpackItems (.ref t) items.size none) Q E s := by
  have hlt : t ≠ s.heap.objs.size := by obtain ⟨o, ho, _⟩ := ht; exact Nat.ne_of_lt (Heap.lt_size ho)
  have hx : s.heap.objs.size ≠ x1 := by obtain ⟨o, ho⟩ := hot_some hot; exact Nat.ne_of_gt (Heap.lt_size ho)
  unfold unpackItems
  refine wpAny_bind ?_
  · unfold notIterableAtAll
    refine wpAny_bind (wpAny_specialOf ht.typeIs slot_tuple_iter.lookup ?_)
    refine wpAny_pure ?_
    simp only [Bool.false_eq_true, if_false]
    refine wpAny_bind (wpAny_holding (iter_tuple ht ?_))
    refine wpAny_bind (wpAny_holding (draw_tuple hlt items.size 0 _ _ ⟨_, Heap.get?_push_size _ rfl, rfl, rfl⟩ (ht.push _) (by omega) fun h₁ hit₁ hs₁ => ?_))
    have hall : List.take items.size (List.drop 0 items.toList) = items.toList := by
      rw [List.drop_zero]; exact List.take_of_length_le (by simp)
    rw [hall]
    rw [if_neg (by simp)]
    have ht₁ : IsTup h₁ t items := (ht.push _).extBut hs₁.extBut hlt
    refine wpAny_bind (wpAny_holding (tuple_end_hot (hot_keep hot (h' := h₁) fun o e => hs₁.extBut _ _ (Ne.symm hx) (Heap.get?_push_of_some _ e)) hx hit₁ ht₁ (by simp) fun h₂ he₂ => ?_))
    simp only [Option.isSome_none, Bool.false_eq_true, if_false]
    refine wpAny_pure (hQ h₂ fun b o hb e => he₂ b o hb (hs₁.extBut b o hb (Heap.get?_push_of_some _ e)))
theorem assign_hot {env : PySem.Env} {elts : List Expr} {x1'} {pos : Pos} {t x1 : Addr} {items : Array Value} {Q : Unit → Shared → Prop} (hot : HotAt A x1 s.heap) (ht : IsTup s.heap t items)
    (hn : (assignEach elts env).length = items.size) (hstar : (assignEach elts env).findIdx? (·.1) = none)
    (h : ∀ h', Heap.ExtBut s.heap.objs.size s.heap h' → wpAny (model prog w) A (assignInOrder ((assignEach elts env).map (·.2)) items.toList) Q E { s with heap := h' }) :
    wpAny (model prog w) A (assign (.Tuple elts x1' pos) env (.ref t)) Q E s := by
  rw [assign_Tuple]
  refine wpAny_bind (wpAny_standAt ?_)
  unfold unpack
  rw [hn, hstar]
  exact wpAny_bind (wpAny_holding (unpack_hot hot ht h))
end
/-- the handled exception at p, out of a block's reach -/
structure HotB (p : Addr × Obj) (s : Shared) (H : Hp) (fs fp : List Addr) : Prop where
  get : s.heap.get? p.1 = some p.2
  free : H p.1 = none
  nofs : p.1 ∉ fs
  nofp : p.1 ∉ fp
  ctx : ∃ vs : Array Value, p.2.data = .fields vs ∧ vs[2]? = some .none
theorem HotB.at {X : Cx} {p : Addr × Obj} {s0 : Shared} {H0 : Hp} {scope : Scope} {ce : PySem.Env} {fp : List Addr} (b : HotB p s0 H0 (frs X.stack) fp) (hh : X.A.handled = some (.ref p.1)) {pins : List (Addr × Obj)} {σ : St} {H : Hp} {s : Shared} (I : Inv (X.blk s0 H0 scope ce fp) pins σ H s) : HotAt X.A p.1 s.heap := by
  obtain ⟨vs, d, c⟩ := b.ctx
  exact ⟨hh, p.2, vs, I.base.keep p.1 p.2 b.get b.free b.nofs b.nofp, d, c⟩
structure TurnH (P : Program) (w : World) (K : PySem.W.Frag) (tg : Expr) (J : It) (fp : List Addr) (it : Addr) (tn : Nat → Heap → Prop) : Prop where
  mem : it ∈ fp
  obj : ∀ i h, tn i h → ∀ b ∈ fp, ∃ o, h.get? b = some o ∧ ∀ v, o.data ≠ .cell v
  keep : ∀ i h h', tn i h → (∀ b ∈ fp, ∀ o, h.get? b = some o → h'.get? b = some o) → tn i h'
  item : ∀ (X : Cx), X.prog = P → X.w = w → X.K = K → ∀ (i : Nat) (pins : List (Addr × Obj)) (s : Shared) (σ : St) (H : Hp) (E : Value → Shared → Prop), Inv X pins σ H s → (∀ b ∈ fp, FpOk X pins H b) → tn i s.heap → J.go i H →
    wpAny (model P w) X.A (pyNext (.ref it)) (fun r s1 => ∃ u, r = some u ∧
      wpAny (model P w) X.A (letOwnedTupleGo tg (.ref it) u) (fun _ s2 => ∃ x H', Inv X pins σ H' s2 ∧ RelV x u ∧ J.yld i H x H' ∧ tn (i + 1) s2.heap ∧ ∀ b ∈ fp, H' b = none) E s1) E s
  done : ∀ (X : Cx), X.prog = P → X.w = w → X.K = K → ∀ (i : Nat) (pins : List (Addr × Obj)) (s : Shared) (σ : St) (H : Hp) (E : Value → Shared → Prop) {x1 : Addr}, HotAt X.A x1 s.heap → x1 ∉ fp → Inv X pins σ H s → (∀ b ∈ fp, FpOk X pins H b) → tn i s.heap → J.stop i H →
    wpAny (model P w) X.A (pyNext (.ref it)) (fun r s1 => r = none ∧ Inv X pins σ H s1) E s
  self : ∀ (A : Around) (i : Nat) (s : Shared) (Q : Value → Shared → Prop) (E : Value → Shared → Prop), tn i s.heap → Q (.ref it) s → wpAny (model P w) A (pyIter (.ref it)) Q E s
def PIEH (X : Cx) (pins : List (Addr × Obj)) (σ : St) (tg : Expr) (R : It → Hp → Prop) (itv : Value) (s2 : Shared) : Prop :=
  ∃ (it : Addr) (fp : List Addr) (tn : Nat → Heap → Prop) (J : It) (H' : Hp), itv = .ref it ∧ Inv X pins σ H' s2 ∧ TurnH X.prog X.w X.K tg J fp it tn ∧ tn 0 s2.heap ∧ (∀ b ∈ fp, FpOk X pins H' b) ∧ R J H'
structure PIH (X : Cx) (tg iter : Expr) (wi : TI) : Prop where
  run : ∀ (pins : List (Addr × Obj)) (s : Shared) (σ : St) (H : Hp) (R : It → Hp → Prop), Inv X pins σ H s → wi σ H R →
    wpAny (model X.prog X.w) X.A (eval iter X.env) (fun v s1 => wpAny (model X.prog X.w) X.A (pyIter v) (PIEH X pins σ tg R) X.xe s1) X.xe s
theorem turnH_list {P : Program} {w : World} {K : PySem.W.Frag} {tg : Expr} (a it : Addr) : TurnH P w K tg (Itl K a) [it] it (fun i h => h.IsListIter it a i) where
  mem := (turn_list (P := P) (w := w) (K := K) (tg := tg) a it).mem
  obj := (turn_list (P := P) (w := w) (K := K) (tg := tg) a it).obj
  keep := (turn_list (P := P) (w := w) (K := K) (tg := tg) a it).keep
  item := by
    intro X hP hw hK i pins s σ H E I hf st hg
    subst hP hw hK
    obtain ⟨xs, x, hq, hx⟩ := hg
    obtain ⟨its, rv, p, hz⟩ := I.list hq
    obtain ⟨u, hu, ru⟩ := rv.get hx
    obtain ⟨f0, f1, f2, f3, f4, f5⟩ := hf it (by simp)
    refine wpAny_pyNext_list_item st p.isList (x := u) (by simpa using hu) fun h' st' sb => ?_
    have I1 : Inv X pins σ H { s with heap := h' } := I.turned (t' := s.toks) (fun b o hb e => (sb.2 b hb).trans e) f0 f1 f3 f4 f5
    obtain ⟨o, e, c, d⟩ := id st'
    exact ⟨u, rfl, go_of (s := { s with heap := h' }) e c d (by decide) ⟨x, H, I1, ru, ⟨rfl, fun ys hy => by rw [I.list_inj hy hq]; exact hx⟩, st', fun b hb => (hf b hb).1⟩⟩
  done := by
    intro X hP hw hK i pins s σ H E x1 hot hne I hf st hg
    subst hP hw hK
    obtain ⟨xs, hq, hx⟩ := hg
    obtain ⟨its, rv, p, hz⟩ := I.list hq
    obtain ⟨f0, f1, f2, f3, f4, f5⟩ := hf it (by simp)
    have hl := rv.length
    exact list_end_hot hot (fun z => hne (by simp [z])) st p.isList (by simp; omega) fun h' eb => ⟨rfl, I.turned (t' := s.toks) (fun b o hb e => eb b o hb e) f0 f1 f3 f4 f5⟩
  self := fun _ _ _ _ _ st h => wpAny_pyIter_listiter st h
section
variable {X : Cx} {tg : Expr}
theorem pi_listH {l : Expr} {tl : TE} (hl : PE X l tl) : PIH X tg l (iList X.K tl) := by
  refine ⟨fun pins s σ H R I h => ?_⟩
  refine thn (hl.run pins s σ H _ I h) fun v s1 ⟨x, H1, I1, r1, q1⟩ => ?_
  obtain ⟨a, e, ⟨xs, hq⟩, q⟩ := q1
  subst e
  cases r1
  obtain ⟨its, rv, p, hz⟩ := I1.list hq
  refine wpAny_pyIter_list p.isList ?_
  refine ⟨s1.heap.objs.size, [s1.heap.objs.size], _, _, H1, rfl, I1.kept (t' := s1.toks) fun b o e => Heap.get?_push_of_some _ e, turnH_list a _, ⟨_, Heap.get?_push_size _ rfl, rfl, rfl⟩, fun b hb => ?_, q⟩
  have e : b = s1.heap.objs.size := by simpa using hb
  subst e
  exact I1.fpOk (Nat.le_refl _) (I1.hok.fresh (Nat.le_refl _))
theorem pg_tupH {p : Addr × Obj} {s0 : Shared} {H0 : Hp} {scope : Scope} {ce : PySem.Env} {fp : List Addr} {es : List Expr} {k : Nat} {t : TGs} {n : Nat} {pos : Pos} (b : HotB p s0 H0 (frs X.stack) fp) (hh : X.A.handled = some (.ref p.1)) (h : PGs (X.blk s0 H0 scope ce fp) es t)
    (hn : (assignEach es (X.blk s0 H0 scope ce fp).env).length = n := by rfl) (hst : (assignEach es (X.blk s0 H0 scope ce fp).env).findIdx? (·.1) = none := by rfl) : PG (X.blk s0 H0 scope ce fp) (.Tuple es k pos) (gTup X.K n t) := by
  refine ⟨fun pins s σ H v u Q I r hw => ?_⟩
  obtain ⟨a, xs, e1, hq, hl, hw⟩ := hw
  subst e1
  cases r
  obtain ⟨its, rv, ht, hz⟩ := I.tuple hq
  refine assign_hot (b.at hh I) ht (by simp [hn, ← hl, rv.length]) hst fun h' hx => ?_
  have I1 : Inv (X.blk s0 H0 scope ce fp) pins σ H { s with heap := h' } := I.kept (t' := s.toks) fun b o e => hx b o (Nat.ne_of_lt (Heap.lt_size e)) e
  exact h.run pins _ σ H xs _ Q I1 (by simpa using rv) hw
theorem lc_coreH {p : Addr × Obj} {pins : List (Addr × Obj)} {s : Shared} {σ : St} {H : Hp} {Q : VK} {elt tg iter : Expr} {ifs : List Expr} {scope : Scope} {own : List (Str × Nat)} {pos pos' : Pos} {wi : TI} {g : TG} {tt : TT} {te : TE} {use : Option (Value → Sem Unit)} {Qf : Value → Shared → Prop}
    (hh : X.A.handled = some (.ref p.1)) (hv : ∃ vs : Array Value, p.2.data = .fields vs ∧ vs[2]? = some .none) (hpn : p ∈ X.pn) (hN : X.N.Nodup) (I : Inv X pins σ H s) (hi : PIH X tg iter wi) (ok : BlkOk X.N X.env.scope scope own)
    (hg : ∀ (s : Shared) (H : Hp) (C : Addr) (cl : List (Str × Addr)) (fp : List Addr), HotB p s H (frs X.stack) fp → PG (X.blk s H scope (compEnvC scope cl C X.env) fp) tg g) (ht : ∀ (s : Shared) (H : Hp) (C : Addr) (cl : List (Str × Addr)) (fp : List Addr), PTs (X.blk s H scope (compEnvC scope cl C X.env) fp) ifs tt)
    (he : ∀ (s : Shared) (H : Hp) (C : Addr) (cl : List (Str × Addr)) (fp : List Addr), PE (X.blk s H scope (compEnvC scope cl C X.env) fp) elt te) (hs : ∀ x, foldedSetIterable iter X.env x = pure x)
    (h : tLc wi g tt te (own.map (·.2)) σ H Q)
    (hRR : ∀ D C s' m H', Inv X pins σ H' s' → Q (.ref D) H' → s'.heap.Ns C m → FpOk X pins H' C → compPost (model X.prog X.w) X.A X.xe use Qf (.ref D) C (.ok .next) s') :
    wpAny (model X.prog X.w) X.A (comprehension (.ListComp elt [⟨tg, iter, ifs, 0⟩] scope pos) scope X.env pos' (newList []) false (eval iter X.env) use) Qf X.xe s := by
  have hfree : ∀ y ∈ scope.names, y.2 = .free → ∃ c, X.env.cells.lookup y.1 = some c := fun y hy e => by
    rcases ok.free y hy e with k | k
    · exact I.ok.has _ (.inl k)
    · exact I.ok.has _ (.inr k)
  refine wpAny_comprehension_free (use := use) rfl hs (closure_ok hfree) ok.kind (fun y hy e => by rw [ok.uniq y hy, e])
    (thn (hi.run pins s σ H _ I h) fun xv s1 hx => thn hx fun itv s2 h2 => ?_)
  obtain ⟨it, fp, tn, J, H2, e, I2, T, st2, f2, q⟩ := h2
  subst e
  refine wpAny_newObj_type (newEnv_comp ?_) (by show 0 ≤ sizeLine; decide)
  generalize hD : s2.heap.objs.size = D
  have hDn : H2 D = none := I2.hok.fresh (Nat.le_of_eq hD)
  obtain ⟨W, ⟨m0, w0⟩, turn⟩ := q D hDn
  -- the new list
  generalize hs3 : ({ s2 with heap := s2.heap.push { cls := .type "list", data := .seq ([] : List Value).toArray } } : Shared) = s3
  have I3 : Inv X pins σ (upd H2 D (.lst [])) s3 := by
    rw [← hs3]
    refine I2.laid (t' := s2.toks) (fun b o e => Heap.get?_push_of_some _ e) (Nat.le_of_eq hD) ⟨Nat.zero_le _, [], 0, .nil, ?_⟩
    rw [← hD]
    exact Heap.get?_push_size _ rfl
  have h3 : s3.heap = s2.heap.push { cls := .type "list", data := .seq ([] : List Value).toArray } := by rw [← hs3]
  have sz : ∀ b ∈ fp, b < s2.heap.objs.size := fun b hb => by
    obtain ⟨o, e, _⟩ := T.obj _ _ st2 b hb
    exact Heap.lt_size e
  have f3 : ∀ b ∈ fp, FpOk X pins (upd H2 D (.lst [])) b ∧ b < s3.heap.objs.size := fun b hb => by
    have hlt := sz b hb
    refine ⟨⟨?_, (f2 b hb).2⟩, by rw [h3, Heap.size_push]; exact Nat.lt_succ_of_lt hlt⟩
    rw [upd_ne (by rw [← hD]; exact Nat.ne_of_lt hlt)]
    exact (f2 b hb).1
  have st3 : tn 0 s3.heap := T.keep _ _ _ st2 fun b _ o e => by rw [h3]; exact Heap.get?_push_of_some _ e
  have I4 := block_start I3 ok hN f3
  have hb3 : HotB p s3 (upd H2 D (.lst [])) (frs X.stack) fp := by
    obtain ⟨e, n, ne, nf, d⟩ := I3.pin p (List.mem_append_left _ hpn)
    refine ⟨e, n, fun z => ?_, fun z => ?_, hv⟩
    · rcases List.mem_cons.mp (I3.stkSub p.1 z) with q | q
      · exact ne q
      · exact nf q
    · exact (f3 p.1 z).1.2.2.2.2.2 p (List.mem_append_left _ hpn) rfl
  have pg := hg s3 (upd H2 D (.lst [])) s3.heap.objs.size (cellsFrom (s3.heap.objs.size + 1) scope.names (cloFrom X.env.cells scope.names [])) fp hb3
  have pt := ht s3 (upd H2 D (.lst [])) s3.heap.objs.size (cellsFrom (s3.heap.objs.size + 1) scope.names (cloFrom X.env.cells scope.names [])) fp
  have pe := he s3 (upd H2 D (.lst [])) s3.heap.objs.size (cellsFrom (s3.heap.objs.size + 1) scope.names (cloFrom X.env.cells scope.names [])) fp
  show codeAny _ _ (.compStart (.ListComp elt [⟨tg, iter, ifs, 0⟩] scope pos) 0 (.ref it) (.ref D) (compEnvC scope (cellsFrom (s3.heap.objs.size + 1) scope.names (cloFrom X.env.cells scope.names [])) s3.heap.objs.size X.env)) (compPost (model X.prog X.w) X.A X.xe use Qf (.ref D) s3.heap.objs.size) { s3 with heap := pushCells (s3.heap.push { cls := .type "dict", data := .dict #[] }) scope.names }
  have nfp : ∀ b ∈ fp, (upd H2 D (.lst [])) b = none := fun b hb => (f3 b hb).1.1
  generalize hce : compEnvC scope (cellsFrom (s3.heap.objs.size + 1) scope.names (cloFrom X.env.cells scope.names [])) s3.heap.objs.size X.env = ce at I4 pg pt pe ⊢
  have cL : ce.locals = s3.heap.objs.size := by subst hce; rfl
  generalize hH3 : upd H2 D (.lst []) = H3 at I3 I4 pg pt pe w0 nfp f3 hb3
  generalize hs4 : ({ s3 with heap := pushCells (s3.heap.push { cls := .type "dict", data := .dict #[] }) scope.names } : Shared) = s4 at I4 ⊢
  have st4 : tn 0 s4.heap := T.keep _ _ _ st3 fun b _ o e => by rw [← hs4]; exact pushCells_keeps _ _ _ _ (Heap.get?_push_of_some _ e)
  have stat : ∀ {σ' : St} {H' : Hp} {s' : Shared}, Inv (X.blk s3 H3 scope ce fp) [] σ' H' s' → (∀ b ∈ fp, H' b = none) → ∀ b ∈ fp, FpOk (X.blk s3 H3 scope ce fp) [] H' b := fun {σ' H' s'} I' hn b hb =>
    ⟨hn b hb, (I'.ok.exf b hb).1, I'.ok.exfs b hb, .inl hb, fun x c e => (I'.ok.exf b hb).2 x c e, fun p hp => absurd (show p ∈ ([] : List (Addr × Obj)) ++ [] from hp) (by simp)⟩
  have loop : codeAny (model X.prog X.w) X.A (.compLoop (.ListComp elt [⟨tg, iter, ifs, 0⟩] scope pos) 0 (.ref it) (.ref D) ce) (compPost (model X.prog X.w) X.A X.xe use Qf (.ref D) s3.heap.objs.size) s4 := by
    refine compLoop_any (fun n s' => ∃ i H', Inv (X.blk s3 H3 scope ce fp) [] (wipe σ (own.map (·.2))) H' s' ∧ tn i s'.heap ∧ (∀ b ∈ fp, H' b = none) ∧ W i n H') ?_ m0 ⟨0, H3, I4, st4, nfp, w0⟩
    rintro n s5 ⟨i, H5, I5, st5, n5, w5⟩
    rcases turn i n H5 w5 with ⟨stop, qq⟩ | ⟨go, Nx, hNx, step⟩
    · have td := T.done (X.blk s3 H3 scope ce fp) rfl rfl rfl i [] s5 _ H5 (fun _ _ => False) (hb3.at hh I5) hb3.nofp I5 (stat I5 n5) st5 stop
      refine thnF td fun r s6 ⟨hr, I6⟩ => ?_
      subst hr
      -- back in the def's context
      have I7 : Inv X pins σ H5 s6 := I3.call' (ch := fp) I6.os I6.base I6.hok I6.bare fun b hb => ⟨(f3 b hb).1.2.2.2.1, (f3 b hb).1.2.1, (f3 b hb).1.2.2.2.2.1, (f3 b hb).1.2.2.2.2.2⟩
      have nC : H5 s3.heap.objs.size = none := by
        have z : H5 ce.locals = none := I6.free
        rw [cL] at z
        exact z
      obtain ⟨m, hn, _⟩ := I6.loc
      have hn : s6.heap.Ns ce.locals m := hn
      rw [cL] at hn
      exact hRR D s3.heap.objs.size s6 m H5 I7 qq hn (I3.fpOk (Nat.le_refl _) nC)
    · have ti := T.item (X.blk s3 H3 scope ce fp) rfl rfl rfl i [] s5 _ H5 (fun _ _ => False) I5 (stat I5 n5) st5 go
      refine thnF ti fun r s6 ⟨u, hr, h6⟩ => ?_
      subst hr
      refine thnF h6 fun _ s7 ⟨x, H7, I7, r7, y7, st7, n7⟩ => ?_
      have I7' := I7.pinned (stat I7 n7) (T.obj _ _ st7)
      refine thnF (pg.run _ s7 _ H7 x u _ I7' r7 (step x H7 y7)) fun _ s8 ⟨σ8, H8, I8, hw8, q8⟩ => ?_
      refine thnF (pt.run _ s8 σ8 H8 _ I8 q8) fun b s9 ⟨H9, I9, q9⟩ => ?_
      -- the turn's end
      have fin : ∀ {s' : Shared} {H' : Hp}, Inv (X.blk s3 H3 scope ce fp) ([] ++ pinsAt fp s7.heap) σ8 H' s' → Nx H' → ∃ m, m < n ∧ ∃ i H', Inv (X.blk s3 H3 scope ce fp) [] (wipe σ (own.map (·.2))) H' s' ∧ tn i s'.heap ∧ (∀ b ∈ fp, H' b = none) ∧ W i m H' := fun {s' H'} I' nx => by
        obtain ⟨m', hm, w'⟩ := hNx H' nx
        have pin' : ∀ b ∈ fp, ∀ o, s7.heap.get? b = some o → s'.heap.get? b = some o ∧ H' b = none := fun b hb o e =>
          let z := I'.pin (b, o) (List.mem_append_right _ (List.mem_append_right _ (mem_pinsAt hb e)))
          ⟨z.1, z.2.1⟩
        have hl : (wipe σ (own.map (·.2))).length = σ8.length := by rw [← hw8, wipe_length]
        refine ⟨m', hm, i + 1, H', (I'.unpinned (pins := [])).weak hl (fun j v e => ?_), T.keep _ _ _ st7 fun b hb o e => (pin' b hb o e).1, fun b hb => ?_, w'⟩
        · rw [← hw8] at e
          exact (wipe_some e).1
        · obtain ⟨o, e, _⟩ := T.obj _ _ st7 b hb
          exact (pin' b hb o e).2
      cases b with
      | false =>
        simp only [Bool.false_eq_true, if_false] at q9 ⊢
        exact fin I9 q9
      | true =>
        simp only [if_true] at q9 ⊢
        refine thnF (pe.run _ s9 σ8 H9 _ I9 q9) fun z s10 ⟨yv, H10, I10, r10, acc, hD10, hz10, nx⟩ => ?_
        exact app_ok (X := X.blk s3 H3 scope ce fp) I10 hD10 hz10 r10 fun s11 I11 => fin I11 nx
  exact codeAny_compStart_list loop (T.self X.A 0 _ _ _ st4 loop)

theorem pe_lcH {p : Addr × Obj} {elt tg iter : Expr} {ifs : List Expr} {scope : Scope} {own : List (Str × Nat)} {pos : Pos} {wi : TI} {g : TG} {tt : TT} {te : TE} (hh : X.A.handled = some (.ref p.1)) (hv : ∃ vs : Array Value, p.2.data = .fields vs ∧ vs[2]? = some .none) (hpn : p ∈ X.pn) (hN : X.N.Nodup) (hi : PIH X tg iter wi) (ok : BlkOk X.N X.env.scope scope own)
    (hg : ∀ (s : Shared) (H : Hp) (C : Addr) (cl : List (Str × Addr)) (fp : List Addr), HotB p s H (frs X.stack) fp → PG (X.blk s H scope (compEnvC scope cl C X.env) fp) tg g) (ht : ∀ (s : Shared) (H : Hp) (C : Addr) (cl : List (Str × Addr)) (fp : List Addr), PTs (X.blk s H scope (compEnvC scope cl C X.env) fp) ifs tt)
    (he : ∀ (s : Shared) (H : Hp) (C : Addr) (cl : List (Str × Addr)) (fp : List Addr), PE (X.blk s H scope (compEnvC scope cl C X.env) fp) elt te) (hs : ∀ x, foldedSetIterable iter X.env x = pure x := by intro _; rfl) :
    PE X (.ListComp elt [⟨tg, iter, ifs, 0⟩] scope pos) (tLc wi g tt te (own.map (·.2))) := by
  refine ⟨fun pins s σ H Q I h => ?_⟩
  rw [eval_ListComp]
  refine lc_coreH hh hv hpn hN I hi ok hg ht he hs h fun D C s' m H' I' q hn f => ⟨m, hn, fun h'' sb => ?_⟩
  obtain ⟨f0, f1, f2, f3, f4, f5⟩ := f
  exact ⟨.ref D, H', I'.turned (t' := s'.toks) (fun b o hb e => (sb.2 b hb).trans e) f0 f1 f3 f4 f5, rfl, q⟩
theorem ps_setLcH {p : Addr × Obj} {i : Nat} {y : Str} {py : Pos} {elt tg iter : Expr} {ifs : List Expr} {scope : Scope} {own : List (Str × Nat)} {pos spos : Pos} {wi : TI} {g : TG} {tt : TT} {te : TE} (hh : X.A.handled = some (.ref p.1)) (hv : ∃ vs : Array Value, p.2.data = .fields vs ∧ vs[2]? = some .none) (hpn : p ∈ X.pn) (hN : X.N.Nodup) (hy : X.N[i]? = some y) (hyl : X.env.scope.names.lookup y = some .local)
    (hsw : swapsWith (.ListComp elt [⟨tg, iter, ifs, 0⟩] scope pos) (some (.Name y py)) spos.line X.env = pure true) (hi : PIH X tg iter wi) (ok : BlkOk X.N X.env.scope scope own)
    (hg : ∀ (s : Shared) (H : Hp) (C : Addr) (cl : List (Str × Addr)) (fp : List Addr), HotB p s H (frs X.stack) fp → PG (X.blk s H scope (compEnvC scope cl C X.env) fp) tg g) (ht : ∀ (s : Shared) (H : Hp) (C : Addr) (cl : List (Str × Addr)) (fp : List Addr), PTs (X.blk s H scope (compEnvC scope cl C X.env) fp) ifs tt)
    (he : ∀ (s : Shared) (H : Hp) (C : Addr) (cl : List (Str × Addr)) (fp : List Addr), PE (X.blk s H scope (compEnvC scope cl C X.env) fp) elt te) (hs : ∀ x, foldedSetIterable iter X.env x = pure x := by intro _; rfl) :
    PS X (.Assign [.Name y py] (.ListComp elt [⟨tg, iter, ifs, 0⟩] scope pos) spos) (tAsg (tLc wi g tt te (own.map (·.2))) (gName i)) := by
  refine ⟨fun pins s σ H D I h => ?_⟩
  rw [exec_Assign_Name_used _ _ _ _ hsw]
  refine wpAny_bind (wpAny_standAt (wpAny_bind ?_))
  show wpAny _ X.A (do let _ ← comprehension (.ListComp elt [⟨tg, iter, ifs, 0⟩] scope pos) scope X.env (firstIterPos [⟨tg, iter, ifs, 0⟩] pos) (newList []) false (eval iter X.env) (some (assign (.Name y py) X.env))) _ _ s
  have h : tLc wi g tt te (own.map (·.2)) σ H (fun x H1 => gName i x σ H1 D.nx) := h
  refine wpAny_bind (thn (lc_coreH (Qf := fun _ s' => SP X pins D .next s') hh hv hpn hN I hi ok hg ht he hs h fun L C s' m H' I' q hn f => ?_) fun _ s' hq => wpAny_pure (wpAny_pure hq))
  show wpAny _ _ (assign (.Name y py) X.env (.ref L)) _ _ _
  refine wpAny_assign_Name (store_ok2 (v := V.ref L) I' hN hy (.inl hyl) rfl (fun s2 I2 ⟨a, sb, ha⟩ => ?_) (.inr hyl))
  obtain ⟨f0, f1, f2, f3, f4, f5⟩ := f
  have haC : C ≠ a := by
    rcases ha with z | z
    · rw [z]; exact f1
    · exact fun e => f4 y a z e.symm
  refine ⟨m, hn.sameBut sb haC, fun h3 sb3 => ?_⟩
  exact ⟨_, H', I2.turned (t' := s2.toks) (fun b o hb e => (sb3.2 b hb).trans e) f0 f1 f3 f4 f5, q⟩
end
end DE
/-! DET: try: return .. except X as e: return kind(e) -/
namespace DE
open PySem PySem.Spec PyProof.Rows L2 HotX
/-- a def called where p is handled -/
structure FnP (P : Program) (w : World) (K : PySem.W.Frag) (mg : Str → Option Value) (base : Heap) (CX : CXT) (k : Nat) (f : Addr) (fd : FuncData) (ps : List Str) (sp : (Addr × Obj) → Sp) : Prop where
  len : ∀ p vs H Q E, sp p vs H Q E → vs.length = ps.length
  run : ∀ (A : Around) (outer : List PySem.Env) (s : Shared) (H : Hp) (args : Args) (us : List Value) (vs : List V) (Q : VK) (E : XK) (p : Addr × Obj), L2H.RoomH k A → L2H.Hot1 A p → L2H.PinOk outer H s p → Env0 P w K mg base A outer s H → BindsTo s fd args (ps.zip us) → Vals vs us → sp p vs H Q E →
    codeAny (model P w) A (.call (.ref f) args) (CR CX outer P w H s Q E) s
theorem fn_ofP {CX : CXT} {P : Program} {w : World} {K : PySem.W.Frag} {mg : Str → Option Value} {base : Heap} {k : Nat} {f : Addr} {name qual : Str} {params : Arguments} {body : List Stmt} {scope : Scope} {dV kV doc pm cdv ct oc : Value} {an od : Option Addr}
    {osl : Array (Option Value)} {N ps : List Str} {sp : (Addr × Obj) → Sp} (lk : K.lookup f = some ⟨oc, od, .func (PySem.W.fnOf name qual params body scope dV kV doc pm an cdv ct), osl⟩) (hcd : PySem.W.codeIn K cdv qual = true) (S : FnScope N ps scope)
    (len : ∀ p vs H Q E, sp p vs H Q E → vs.length = ps.length)
    (hbody : ∀ (A : Around) (outer : List PySem.Env) (s : Shared) (H : Hp) (vs : List V) (Q : VK) (E : XK) (p : Addr × Obj), L2H.Hot1 A p → L2H.RoomH k (A.deeper (envOfC qual scope s.heap.objs.size f cdv)) → sp p vs H Q E →
      ∃ t, PSs (L2H.cxH CX P w K mg base N qual scope f cdv A outer s H E p) body t ∧ t { nx := fun _ H' => Q .non H', rt := Q } (L2.start N vs) H) :
    FnP P w K mg base CX (k + 1) f (PySem.W.fnOf name qual params body scope dV kV doc pm an cdv ct) ps sp := by
  refine ⟨len, fun A outer s H args us vs Q E p hr hot hpin e0 hb r hsp => ?_⟩
  have hl := len _ _ _ _ _ hsp
  have KX : K.In s.heap := e0.mod.kin.keeps fun b o e => (e0.bs b o e).1
  have lim : s.heap.NoLimit := e0.mod.nolimit.keeps fun b o e => (e0.bs b o e).1
  have hkind : ∀ y ∈ ps.zip us, scope.names.lookup y.1 = some .local ∨ (scope.names.lookup y.1 = some .cell ∧ ((cellsFrom (s.heap.objs.size + 1) scope.names []).lookup y.1).isSome = true) := fun ⟨n, v⟩ hy => by
    rcases S.par n (List.of_mem_zip hy).1 with q | q
    · exact .inl q
    · exact .inr ⟨q, PySem.W.cellsFrom_some _ _ _ (.inl q)⟩
  refine codeAny_call_function hr.depth (KX _ _ lk) rfl S.co S.gen rfl (PySem.W.codeRec_of KX hcd) (hb _ _ _ _ ?_)
  refine wpAny_newFunctionEnv_cells S.kind hkind fun env he s1 x => ?_
  subst he
  refine ⟨lim.keeps x.toInCall.keep, codeAny_func ?_⟩
  obtain ⟨t, ht, hq⟩ := hbody A outer s H vs Q E p hot (hr.deeper _) hsp
  have I : Inv (L2H.cxH CX P w K mg base N qual scope f cdv A outer s H E p) [] (L2.start N vs) H s1 := L2H.inv_startH S hpin e0 hl r x
  refine wpAny_mono (ht.run [] s1 (L2.start N vs) H _ I hq) (fun fl s' hs => ?_) fun e s' hs => hs
  have fin : ∀ {σ' : St} {H' : Hp} {v : V} {u : Value}, Inv (L2H.cxH CX P w K mg base N qual scope f cdv A outer s H E p) [] σ' H' s' → RelV v u → Q v H' → CE outer P w H s Q u s' :=
    fun {σ' H' v u} J rv q => ⟨v, H', J.os, J.bare, J.base, J.hok, rv, q⟩
  cases fl with
  | ret u =>
    obtain ⟨v, σ', H', J, rv, q⟩ := hs
    exact fin J rv q
  | next =>
    obtain ⟨σ', H', J, q⟩ := hs
    exact fin (v := V.non) (u := Value.none) J rfl q
  | brk =>
    obtain ⟨_, _, _, q⟩ := hs
    exact False.elim q
  | cont =>
    obtain ⟨_, _, _, q⟩ := hs
    exact False.elim q
section
variable {X : Cx} {CX : CXT} {k : Nat} {f C : Addr} {fd : FuncData} {ps : List Str} {sp : (Addr × Obj) → Sp} {E : XK} {x m : Str} {q pos apos : Pos} {e o : Expr} {es : List Expr} {ta : TE} {t : TA} {p : Addr × Obj}
theorem pe_callP (F : FnP X.prog X.w X.K X.mg X.base CX k f fd ps sp) (hr : L2H.RoomH k X.A) (hot : L2H.Hot1 X.A p) (hp : p ∈ X.pn) (hg : Gl X x) (hm : X.mg x = some (.ref f)) (hk : PySem.W.keepIn X.K (.ref f) = true) (hb : Binds X.K fd ps []) (hx : ∀ σ, PassesAt CX X σ E)
    (ha : PA X (e :: es) t) (hdb : (x == ("__debug__" : Str)) = false := by decide) (he : starEach (e :: es) X.env = (false, eval e X.env) :: starEach es X.env := by rfl) (hpl : (backTo pos (starEach es X.env)).any (·.1) = false := by rfl) :
    PE X (.Call (.Name x q) (e :: es) [] pos) (fun σ H Q => t σ H fun vs H1 => sp p vs H1 Q E) := by
  refine ⟨fun pins s σ H Q I h => ?_⟩
  refine wpAny_Call_Name_kw (ld_glob I hg hm ?_ hdb)
  refine PySem.W.callWith_K (h₀ := X.base) I.ok.mod.kin hk (thn (ha.run pos pins s σ H _ I h) fun us s1 ⟨vs, H1, I1, r, q⟩ => ⟨I1.kIn, ?_⟩) he hpl
  have hl : us.length = ps.length := by rw [← r.length]; exact F.len _ _ _ _ _ q
  have b := hb s1 us I1.kIn (by rw [List.append_nil]; exact hl)
  rw [List.append_nil] at b
  have P1 := I1.pin p (List.mem_append_left _ hp)
  have hpin : L2H.PinOk X.stack H1 s1 p := ⟨P1.1, P1.2.1, fun hm => (List.mem_cons.mp (I1.stkSub p.1 hm)).elim P1.2.2.1 P1.2.2.2.1, P1.2.2.2.2⟩
  refine wpAny_call (codeAny_mono (F.run X.A X.stack s1 H1 ⟨us, []⟩ us vs Q E p hr hot hpin I1.env0 b r q) fun r s' hq => ?_)
  cases r with
  | error e => exact hx σ pins H1 s1 e s' I1 hq
  | ok fl =>
    cases fl with
    | ret u => exact I1.after hq
    | next => exact False.elim hq
    | brk => exact False.elim hq
    | cont => exact False.elim hq
end
/-! ### isinstance of the handled exception -/
section
variable {X : Cx} {ca : Nat → Addr} {W : WX} {e : Expr} {m : EM} {pos p1 p2 : Pos}
theorem call_isP {p : Addr × Obj} {D : Addr} (C : ExcC X.K D) (hp : p ∈ X.pn) (hz : Zc (.ref D) none p.2) (hf : ∃ vs, p.2.data = .fields vs) : CallR X (.builtin "isinstance") (rIsE X.K D p.1) := by
  intro pins s σ H xs us Q I r h
  obtain ⟨c, cv, b, rfl, hcv, e, q⟩ := h
  cases r with
  | cons rx rr =>
    cases rr with
    | cons rt rr =>
      cases rr
      cases rx
      have ec := hcv _ rt
      subst ec
      obtain ⟨hget, _⟩ := I.pin p (List.mem_append.mpr (.inl hp))
      obtain ⟨vs, hv⟩ := hf
      have J : PySem.W.InstAt s.heap p.1 p.2 D none := by
        obtain ⟨a, oc, od, oda, osl⟩ := p
        obtain ⟨h1, h2⟩ := hz
        dsimp only at h1 h2 hv hget
        subst h1 h2 hv
        exact ⟨hget, rfl, rfl, trivial⟩
      exact PySem.W.kia_one (PySem.W.handS_kitx_exc C.hg C.hk C.hs C.hd C.ha C.hn C.ht C.hm) I.kIn J e (fun z => nomatch z) fun tk => ⟨.bl b, H, I.kept (t' := tk) fun _ _ z => z, rfl, q⟩
/-- the answer b of isinstance(e, X) for an exception of the class c at a -/
def isE (c : Nat) (a : Addr) (b : Bool) (m : EM) : EM := fun env s => (m env s).bind fun d s => match d with
  | .exc c' a' => if c' = c ∧ a' = a then .ok (.bl b) s else .bad
  | _ => .bad
theorem de_isE {p : Addr × Obj} {c : Nat} {b : Bool} {T : Str} {C : Addr} (hT : X.mg T = some (.ref C)) (hC : ExcC X.K (ca c)) (hp : p ∈ X.pn) (hz : Zc (.ref (ca c)) none p.2) (hf : ∃ vs, p.2.data = .fields vs) (hk : PySem.W.kitOne X.K (.ref (ca c)) (.ref C) = some b) (hm : X.mg "isinstance" = none) (he : DE X ca W e m)
    (hg : Gl X "isinstance" := by rfl) (hgT : Gl X T := by rfl) (hTd : (T == ("__debug__" : Str)) = false := by decide)
    (h1 : starEach (.Name T p2 :: []) X.env = (false, eval (.Name T p2) X.env) :: starEach [] X.env := by rfl) (h2 : starEach (e :: [.Name T p2]) X.env = (false, eval e X.env) :: starEach [.Name T p2] X.env := by rfl) (hpl : (backTo pos (starEach [.Name T p2] X.env)).any (·.1) = false := by rfl) :
    DE X ca W (.Call (.Name "isinstance" p1) [e, .Name T p2] [] pos) (isE c p.1 b m) :=
  PE.imp (pe_callB (call_isP hC hp hz hf) hg hm boot_isinstance (pa_cons he (pa_cons (pe_glob (v := .ref C) hgT hT rfl hTd) pa_nil h1) h2) (by decide) (by decide) h2 hpl) fun σ H Q ⟨L, env, s, S, e, q⟩ =>
    ⟨L, env, s, S, e, q.bind.imp fun v H1 ⟨L1, s1, d, k1, S1, r1, q1⟩ => by
      split at q1
      · split at q1
        · rename_i hh
          simp only [RD] at r1
          subst r1
          exact ⟨.ref C, .ref C, b, by rw [hh.2], fun u hu => hu, hk, q1 L1 _ H1 Keep.refl S1 rfl⟩
        · exact q1.elim
      · exact q1.elim⟩
theorem de_isEV {p : Addr × Obj} {c : Nat} (hC : ExcC X.K (ca c)) (hp : p ∈ X.pn) (hz : Zc (.ref (ca c)) none p.2) (hf : ∃ vs, p.2.data = .fields vs) (hk : PySem.W.kitOne X.K (.ref (ca c)) (.type "ValueError") = some true) (hm : X.mg "isinstance" = none) (hT : X.mg "ValueError" = none) (he : DE X ca W e m)
    (hg : Gl X "isinstance" := by rfl) (hgT : Gl X "ValueError" := by rfl)
    (h1 : starEach (.Name "ValueError" p2 :: []) X.env = (false, eval (.Name "ValueError" p2) X.env) :: starEach [] X.env := by rfl) (h2 : starEach (e :: [.Name "ValueError" p2]) X.env = (false, eval e X.env) :: starEach [.Name "ValueError" p2] X.env := by rfl) (hpl : (backTo pos (starEach [.Name "ValueError" p2] X.env)).any (·.1) = false := by rfl) :
    DE X ca W (.Call (.Name "isinstance" p1) [e, .Name "ValueError" p2] [] pos) (isE c p.1 true m) :=
  PE.imp (pe_callB (call_isP hC hp hz hf) hg hm boot_isinstance (pa_cons he (pa_cons (pe_bltn (v := .ty "ValueError") hgT hT (by decide +kernel) rfl (by decide) (by decide)) pa_nil h1) h2) (by decide) (by decide) h2 hpl) fun σ H Q ⟨L, env, s, S, e, q⟩ =>
    ⟨L, env, s, S, e, q.bind.imp fun v H1 ⟨L1, s1, d, k1, S1, r1, q1⟩ => by
      split at q1
      · split at q1
        · rename_i hh
          simp only [RD] at r1
          subst r1
          exact ⟨.ty "ValueError", .type "ValueError", true, by rw [hh.2], fun u hu => hu, hk, q1 L1 _ H1 Keep.refl S1 rfl⟩
        · exact q1.elim
      · exact q1.elim⟩
end

/-! ### the law's kind of a refusal -/
/-- what is known of the five refusals 1 to 5 under 0 -/
structure ExK (K : PySem.W.Frag) (ca : Nat → Addr) : Prop where
  c : ∀ i, 1 ≤ i → i ≤ 5 → ExcC K (ca i)
  ko : ∀ i j, 1 ≤ i → i ≤ 5 → 1 ≤ j → j ≤ 5 → PySem.W.kitOne K (.ref (ca i)) (.ref (ca j)) = some (decide (i = j))
  kv : ∀ i, 1 ≤ i → i ≤ 5 → PySem.W.kitOne K (.ref (ca i)) (.type "ValueError") = some true
  xm : ∀ i, 1 ≤ i → i ≤ 5 → PySem.W.exmOne K (.ref (ca i)) (.ref (ca 0)) = some true
def kw (c : Nat) : Str := match c with | 1 => "letters" | 2 => "pattern" | 3 => "great" | 4 => "text" | _ => "room"
def kindD (c : Nat) : D := .lst [.str (kw c)]
def itL (m : EM) : IM := fun env s => (m env s).bind fun d s => match d with
  | .lst xs => .ok (xs, none) s
  | _ => .bad
section
variable {X : Cx} {ca : Nat → Addr} {W : WX} {e tg : Expr} {m : EM}
theorem PIH.imp {X : Cx} {tg e : Expr} {t t' : TI} (h : PIH X tg e t) (i : ∀ σ H Q, t' σ H Q → t σ H Q) : PIH X tg e t' := ⟨fun pins s σ H Q I q => h.run pins s σ H Q I (i σ H Q q)⟩
theorem dih_list (h : DE X ca W e m) : PIH X tg e (tI X.K ca W (itL m)) := PIH.imp (pi_listH h) fun σ H Q ⟨L, env, s, S, e, p⟩ =>
  ⟨L, env, s, S, e, p.bind.imp fun v H1 ⟨L1, s1, d, k1, S1, r1, p1⟩ => by
    split at p1
    · simp only [RD] at r1
      obtain ⟨a, vs, rfl, f, rs⟩ := r1
      exact ⟨a, rfl, ⟨vs, f.sq⟩, p1 L1 _ H1 Keep.refl S1 (walks_list f rs)⟩
    · exact p1.elim⟩
end
noncomputable def m_kind (c : Nat) (a : Addr) : SM :=
  (sSeq (sSet 1 (eLst (aCons (eTup (aCons (eC (.str "letters")) (aCons (isE c a (decide (c = 1)) (eVar 0)) aNil))) (aCons (eTup (aCons (eC (.str "pattern")) (aCons (isE c a (decide (c = 2)) (eVar 0)) aNil))) aNil))))
  (sSeq (sSet 1 (e2 addD (eVar 1) (eLst (aCons (eTup (aCons (eC (.str "great")) (aCons (isE c a (decide (c = 3)) (eVar 0)) aNil))) (aCons (eTup (aCons (eC (.str "text")) (aCons (isE c a (decide (c = 4)) (eVar 0)) aNil))) aNil)))))
  (sSeq (sSet 1 (eLc (itL (e2 addD (eVar 1) (eLst (aCons (eTup (aCons (eC (.str "room")) (aCons (isE c a (decide (c = 5)) (eVar 0)) aNil))) aNil)))) (.two 2 3) [2, 3] (tVal (eVar 3)) (eVar 2)))
  (sRet (e2 mulD (eVar 1) (eCall intD (aCons (eAnd (e2 (eqD false) (eCall lenD (aCons (eVar 1) aNil)) (eC (.int 1))) (isE c a true (eVar 0))) aNil)))))))
theorem kind_eval (c : Nat) (a : Addr) (s : Store) (h1 : 1 ≤ c) (h5 : c ≤ 5) : pureRet (bodyF 4 (m_kind c a)) [.exc c a] s = .ok (kindD c) s := by
  have hc : c = 1 ∨ c = 2 ∨ c = 3 ∨ c = 4 ∨ c = 5 := by omega
  rcases hc with rfl | rfl | rfl | rfl | rfl <;>
    simp [pureRet, bodyF, m_kind, env0, sSeq, sSet, eLst, aCons, aNil, eTup, eC, isE, eVar, R.bind, R.bindS, RS.bind, LINE, e2, addD, rdL, line_eq, eLc, itL, lcD, finL, setT, wipeE, tVal, sRet, mulD, eCall, intD, eAnd, eqD, res, frz, sub, lenD, rdS, layD, depD, eqv, pyOf, PyData.eqv, kindD, kw, repL, subs, BIG]
end DE
/-! DEU: the body of the law's kind, try .. except -/
namespace DE
open PySem PySem.Spec PyProof.Rows L2 HotX
section
variable {X : Cx} {ca : Nat → Addr} {W : WX} {tg iter elt : Expr} {ifs : List Expr} {pos spos py : Pos}
variable {scope : Scope} {own : List (Str × Nat)} {t : Tgt} {tt : TM} {em : EM} {im : IM}
theorem ds_setLcH {p : Addr × Obj} (i : Nat) {y : Str} (hot : L2H.Hot1 X.A p) (hpn : p ∈ X.pn) (hN : X.N.Nodup) (hi : PIH X tg iter (tI X.K ca W im)) (ok : BlkOk X.N X.env.scope scope own) (hv : inT (own.map (·.2)) t)
    (hg : ∀ (s : Shared) (H : Hp) (C : Addr) (cl : List (Str × Addr)) (fp : List Addr), HotB p s H (frs X.stack) fp → PG (X.blk s H scope (compEnvC scope cl C X.env) fp) tg (gT X.K t)) (ht : Blk X scope fun Y => DTs Y ca W0 ifs tt) (he : Blk X scope fun Y => DE Y ca W0 elt em)
    (hy : X.N[i]? = some y := by rfl) (hyl : X.env.scope.names.lookup y = some .local := by rfl) (hsw : swapsWith (.ListComp elt [⟨tg, iter, ifs, 0⟩] scope pos) (some (.Name y py)) spos.line X.env = pure true := by exact sw_true rfl rfl rfl (by decide +kernel))
    (hs : ∀ x, foldedSetIterable iter X.env x = pure x := by intro _; rfl) : DS X ca W (.Assign [.Name y py] (.ListComp elt [⟨tg, iter, ifs, 0⟩] scope pos) spos) (sSet i (eLc im t (own.map (·.2)) tt em)) :=
  PS.imp (ps_setLcH (g := gT X.K t) (tt := tT X.K ca W0 tt) (te := tE X.K ca W0 em) hot.1 hot.2 hpn hN hy hyl hsw hi ok hg ht he hs) fun T σ H ⟨L, env, s, S, e, p⟩ =>
    lc_of hv S e (lc_post (p.ofR.imp fun v H1 ⟨L1, s1, d, k1, S1, r1, p1⟩ => p1 L1 _ H1 Keep.refl S1 ((e.mono k1.mono).set r1)))
theorem tg_twoH {p : Addr × Obj} (i j : Nat) {s0 : Shared} {H0 : Hp} {ce : PySem.Env} {fp : List Addr} {x y : Str} {p1 p2 : Pos} {k : Nat} (hh : X.A.handled = some (.ref p.1)) (b : HotB p s0 H0 (frs X.stack) fp) (hN : X.N.Nodup) (hi : X.N[i]? = some x := by rfl) (hj : X.N[j]? = some y := by rfl)
    (hx : Loc (X.blk s0 H0 scope ce fp).env.scope x := by first | exact Or.inl rfl | exact Or.inr rfl) (hf : (X.blk s0 H0 scope ce fp).fn x = true ∨ (X.blk s0 H0 scope ce fp).env.scope.names.lookup x = some .local := by first | exact .inl rfl | exact .inr rfl | assumption)
    (hy : Loc (X.blk s0 H0 scope ce fp).env.scope y := by first | exact Or.inl rfl | exact Or.inr rfl) (hfy : (X.blk s0 H0 scope ce fp).fn y = true ∨ (X.blk s0 H0 scope ce fp).env.scope.names.lookup y = some .local := by first | exact .inl rfl | exact .inr rfl | assumption) : PG (X.blk s0 H0 scope ce fp) (.Tuple [.Name x p1, .Name y p2] k pos) (gT X.K (.two i j)) :=
  pg_tupH b hh (pgs_cons (pg_name hN hi hx hf) (pgs_cons (pg_name hN hj hy hfy) pgs_nil))
end
theorem huH {k : Nat} {A : Around} (hr : L2H.RoomH k A) : A.units + 200 < cLine := by have := hr.un; omega
/-! ### its promise -/
def spKind (K : PySem.W.Frag) (ca : Nat → Addr) : (Addr × Obj) → Sp := fun p vs H Q _ => ∃ L s c, 1 ≤ c ∧ c ≤ 5 ∧ vs = [.ref p.1] ∧ L2N.Zn (.ref (ca c)) none p.2 ∧ SR K ca L s H ∧ ∀ L' v H', Keep L H L' H' → SR K ca L' s H' → RD K L' H' (kindD c) v → Q v H'
section
variable {P : Program} {w : World} {K : PySem.W.Frag} {mg : Str → Option Value} {base : Heap} {ca : Nat → Addr}
theorem fn_kind {x qual : Str} {st : Stmt} {f : Addr} {fd : FuncData} {N : List Str} {nm : Str} {k : Nat} (hn : N.length = 4) (F : Fun K x qual st f fd) (S : FnScope N [nm] (defScope st))
    (hbody : ∀ (X : Cx) (p : Addr × Obj) (c : Nat), (∃ cdv A outer s H E, X = L2H.cxH (L2N.CX P w) P w K mg base N qual (defScope st) f cdv A outer s H E p) → L2H.RoomH k X.A → L2H.Hot1 X.A p → p ∈ X.pn → 1 ≤ c → c ≤ 5 → Zc (.ref (ca c)) none p.2 → DSs X ca W0 (defBody st) (m_kind c p.1)) :
    FnP P w K mg base (L2N.CX P w) (k + 1) f fd [nm] (spKind K ca) := by
  obtain ⟨oc, od, kV, doc, pm, an, cdv, ct, osl, rfl, lk, hcd⟩ := F.ex
  refine fn_ofP lk hcd S (fun p vs H Q E h => ?_) (fun A outer s H vs Q E p hot hr h => ?_)
  · obtain ⟨L, s, c, _, _, rfl, _⟩ := h
    rfl
  · obtain ⟨L, s', c, h1, h5, rfl, hz, SS, q⟩ := h
    have hsp : spOf K ca 1 (pureRet (bodyF 4 (m_kind c p.1))) [.ref p.1] H Q (fun _ _ _ => False) := by
      refine ⟨L, [.exc c p.1], s', rfl, SS, .cons ?_ .nil, ?_⟩
      · simp only [RD]
      · rw [kind_eval c p.1 s' h1 h5]
        exact q
    obtain ⟨L2, ds, s2, hd, S2, r2, p2⟩ := sp_pure _ _ _ _ hsp
    refine ⟨_, hbody _ p c ⟨cdv, A, outer, s, H, E, rfl⟩ hr hot (List.mem_singleton.mpr rfl) h1 h5 hz.zc, L2, env0 N.length ds, s2, S2, er_start r2, ?_⟩
    rw [hn]
    unfold bodyF at p2
    cases q : m_kind c p.1 (env0 4 ds) s2 with
    | next env' s1 =>
      rw [q] at p2
      exact fun L' σ' H' k' S' _ => p2 L' .non H' k' S' rfl
    | brk env s => rw [q] at p2; exact p2.elim
    | cnt env s => rw [q] at p2; exact p2.elim
    | ret d s => rw [q] at p2; exact p2
    | exc c s => rw [q] at p2; exact p2
    | bad => rw [q] at p2; exact p2.elim
end
/-! ### try: .. except X as e: return kind(e) -/
def WL (n : Nat) (W : WX) : WX := fun c d _ H => ∀ σ', σ'.length = n → W c d σ' H
theorem wid_WL {n : Nat} {W : WX} : Wid (WL n W) := fun _ _ _ _ _ h => h
theorem takes_WL {X : Cx} {W : WX} (t : L2N.Takes X W) : L2N.Takes X (WL X.N.length W) := fun u s' ⟨a, B, sI, pins, σ, H, cls, d, e, I, nb, up, sky, na, os, ag, w⟩ =>
  t u s' ⟨a, B, sI, pins, σ, H, cls, d, e, I, nb, up, sky, na, os, ag, w σ I.len⟩
def sTry (i : Nat) (m : SM) : SM := fun env s => if i < env.length then (match m env s with
  | .exc c s' => if 1 ≤ c ∧ c ≤ 5 then .ret (kindD c) s' else .bad
  | r => r) else .bad
def tKind (K : PySem.W.Frag) (ca : Nat → Addr) (i : Nat) (a : Addr) (c : Nat) : TS := fun D σ H => 1 ≤ c ∧ c ≤ 5 ∧ σ[i]? = some (some (.ref a)) ∧ ∃ L s, SR K ca L s H ∧ ∀ L' v H', Keep L H L' H' → SR K ca L' s H' → RD K L' H' (kindD c) v → D.rt v H'
section
variable {X : Cx} {ca : Nat → Addr} {W : WX} {m : SM} {pos p1 p2 p3 p4 : Pos}
/-- the suite -/
theorem suite_kind {i : Nat} {x n : Str} {j : Nat} {f a : Addr} {fd : FuncData} {nm : Str} {oe : Obj} {pn : List (Addr × Obj)} {c : Nat} (F : FnP X.prog X.w X.K X.mg X.base (L2N.CX X.prog X.w) 1 f fd [nm] (spKind X.K ca)) (hr : Room (j + 1) X.A) (hm : X.mg x = some (.ref f)) (hk : PySem.W.keepIn X.K (.ref f) = true) (hb : Binds X.K fd [nm] [])
    (hz : L2N.Zn (.ref (ca c)) none oe) (hv : ∃ vs, oe.data = .fields vs) (hg : Gl X x := by rfl) (hi : X.N[i]? = some n := by rfl) (hvs : Vis X.env.scope n := by first | exact Or.inl rfl | exact Or.inr (Or.inl rfl) | exact Or.inr (Or.inr rfl)) (hdb : (x == ("__debug__" : Str)) = false := by decide) (hd : (n == ("__debug__" : Str)) = false := by decide)
    (hcd : (n == ("__classdict__" : Str)) = false := by decide) (he : starEach [.Name n p2] X.env = [(false, eval (.Name n p2) X.env)] := by rfl) :
    PSs (X.suite a ((a, oe) :: pn)) [.Return (some (.Call (.Name x p1) [.Name n p2] [] p3)) p4] (tKind X.K ca i a c) := by
  have hot : L2H.Hot1 (X.suite a ((a, oe) :: pn)).A (a, oe) := ⟨rfl, by obtain ⟨vs, e⟩ := hv; exact ⟨vs, e, hz.2.2 vs e⟩⟩
  have hr' : L2H.RoomH 1 (X.suite a ((a, oe) :: pn)).A := ⟨by have := hr.dp; show X.A.depth + 3 * 1 + 5 < _; omega, by have := hr.un; show X.A.units + 16 * 1 + 200 < _; omega⟩
  have hv2 : PE (X.suite a ((a, oe) :: pn)) (.Name n p2) (tVar i) := pe_var hi hvs hd hcd
  have hc := pe_callP (X := X.suite a ((a, oe) :: pn)) (E := fun _ _ _ => False) (pos := p3) (q := p1) F hr' hot List.mem_cons_self hg hm hk hb (fun σ pins H s e s' I cx => by
    obtain ⟨_, _, _, _, _, _, _, _, _, _, _, _, z⟩ := cx
    exact z.elim) (pa_cons hv2 pa_nil he) hdb he (by rfl)
  refine PSs.imp (pss_one (ps_ret hc)) fun D σ H h => ?_
  obtain ⟨h1, h5, hs, L, s, S, q⟩ := h
  exact ⟨_, hs, L, s, c, h1, h5, rfl, hz, S, q⟩
theorem ds_try {x n : Str} (i : Nat) {body suite : List Stmt} {b₀ : Stmt} (hN : X.N.Nodup) (hs : X.stack = X.env :: X.outer) (hf : X.env.frame = some X.env.locals) (hm : X.mg x = some (.ref (ca 0))) (hW : Wid W) (tk : L2N.Takes X W) (ek : ExK X.K ca)
    (hsu : ∀ (a : Addr) (oe : Obj) (c : Nat) (pn : List (Addr × Obj)), L2N.Zn (.ref (ca c)) none oe → (∃ vs, oe.data = .fields vs) → PSs (X.suite a ((a, oe) :: pn)) (b₀ :: suite) (tKind X.K ca i a c))
    (hb : ∀ (W' : WX) (pn : List (Addr × Obj)) (xe : Value → Shared → Prop), Wid W' → L2N.Takes (X.tr pn xe) W' → PassesOwn (model X.prog X.w) X.A X.env xe → DSs (X.tr pn xe) ca W' body m)
    (hi : X.N[i]? = some n := by rfl) (hln : X.env.kindOf n = some .local := by rfl) (hg : Gl X x := by rfl) (hdb : (x == ("__debug__" : Str)) = false := by decide) :
    DS X ca W (.Try body [.ExceptHandler (some (.Name x p1)) (some n) (b₀ :: suite) p2] [] [] pos) (sTry i m) := by
  refine PS.imp (L2N.ps_try_as (c := .ref (ca 0)) (Wout := W) (ts := fun a cls d D σ H => ∃ c, cls = .ref (ca c) ∧ d = none ∧ tKind X.K ca i a c D σ H) (tb := fun W' => tS X.K ca (WL X.N.length W') m) hs hf hN hi hln ⟨hg, hdb, .inl hm⟩ tk
    (fun W' pn xe tk' ho => hb _ pn xe wid_WL (takes_WL (X := X.tr pn xe) tk') ho) (fun a oe cls d pn hz hv => ⟨fun pins s σ H D I h => ?_⟩)) fun D σ H h => ?_
  · obtain ⟨c, rfl, rfl, h⟩ := h
    exact (hsu a oe c pn hz hv).run pins s σ H D I h
  · obtain ⟨L, env, s, S, e, p⟩ := h
    refine ⟨L, env, s, S, e, ?_⟩
    unfold sTry at p
    split at p
    case isFalse => exact p.elim
    rename_i hil
    cases q : m env s with
    | next env' s1 => rw [q] at p; exact p
    | brk env s => rw [q] at p; exact p
    | cnt env s => rw [q] at p; exact p
    | ret d s => rw [q] at p; exact p
    | bad => rw [q] at p; exact p.elim
    | exc c s' =>
      rw [q] at p
      simp only at p
      split at p
      case isFalse => exact p.elim
      rename_i hc
      intro L' H' k' S' σ' hl
      refine ⟨true, ek.xm c hc.1 hc.2, fun _ a ha => ⟨c, rfl, rfl, hc.1, hc.2, ?_, L', s', S', fun L2 v H2 k2 S2 r => p L2 v H2 (k'.trans k2) S2 r⟩, fun h => by cases h⟩
      have : i < X.N.length := by
        rcases List.getElem?_eq_some_iff.mp hi with ⟨h, _⟩
        exact h
      simp [List.getElem?_set, hl, this]
end
/-! ### small dicts -/
section
variable {X : Cx} {ca : Nat → Addr} {W : WX} {pos p1 p2 : Pos}
theorem new_dct {K : PySem.W.Frag} {L : Lv} {s : Store} {H : Hp} {Q : VK} {E : Nat → Hp → Prop} (S : SR K ca L s H) {ks : List Key} {ds : List D} {vs : List V} (hl : ks.length = vs.length) (r : RDs K L H ds vs) (p : post K ca (RD K) L H (.ok (.dct ks ds) s) Q E) : ∀ q, H q = none → Q (.ref q) (upd H q (.dK (ks.zip vs))) := fun q hq => by
  obtain ⟨k, S'⟩ := S.new hq (.dK (ks.zip vs))
  have f := S.fresh hq
  refine p L _ _ k S' ?_
  simp only [RD]
  exact ⟨q, vs, rfl, ⟨f.1, f.2, upd_same⟩, hl, RDs.mono k.mono _ _ r⟩
theorem de_dct0 : DE X ca W (.Dict [] [] pos) (eC (.dct [] [])) := PE.imp pe_dnewK fun σ H Q ⟨L, env, s, S, e, p⟩ => new_dct (ks := []) S rfl .nil p
theorem upd_upd {H : Hp} {p : Addr} {a b : HO} : upd (upd H p a) p b = upd H p b := by
  funext q
  unfold upd
  split <;> rfl
theorem de_dct1 {x : Str} {n : Int} {k1 k2 : Nat} : DE X ca W (.Dict [some (.Constant (.str x) k1 p1)] [.Constant (.int n) k2 p2] pos) (eC (.dct [.inr x] [.int n])) :=
  PE.imp (pe_disp (pps_cons pe_str pe_int pps_nil) rfl rfl (List.cons_ne_nil _ _) (Nat.le_of_ble_eq_true rfl)) fun σ H Q ⟨L, env, s, S, e, p⟩ => fun q hq =>
    ⟨upd_same, [(.inr x, .int n)], rfl, Nat.le_of_ble_eq_true rfl, by
      show Q _ (upd (upd H q _) q _)
      rw [upd_upd]
      exact new_dct (ks := [.inr x]) (vs := [.int n]) S rfl (.cons (by simp only [RD]) .nil) p q hq⟩
end
end DE
/-! DEO: attributes, lists' methods, instances -/
namespace DE
open PySem PySem.Spec PyProof.Rows L2
section
variable {K : PySem.W.Frag} {ca : Nat → Addr} {L : Lv} {H : Hp} {s : Store}
/-- an attribute by its name -/
def getF : List Str → List D → Str → Option D
  | g :: fs, x :: xs, f => if f = g then some x else getF fs xs f
  | _, _, _ => none
def setF : List Str → List D → Str → D → List Str × List D
  | g :: fs, x :: xs, f, d => if g = f then (g :: fs, d :: xs) else ((g :: (setF fs xs f d).1), (x :: (setF fs xs f d).2))
  | _, _, f, d => ([f], [d])
theorem getF_ok : ∀ {fs : List Str} {xs : List D} {vs : List V} {f : Str} {d : D}, getF fs xs f = some d → RDs K L H xs vs → ∃ v, (fs.zip vs).lookup f = some v ∧ RD K L H d v ∧ f ∈ fs
  | [], _, _, _, _, e, _ => by simp [getF] at e
  | _ :: _, [], _, _, _, e, _ => by simp [getF] at e
  | g :: fs, x :: xs, vs, f, d, e, r => by
    simp only [RDs] at r
    obtain ⟨w, ws, rfl, r1, r2⟩ := r
    unfold getF at e
    by_cases h : f = g
    · rw [if_pos h] at e
      cases e
      subst h
      exact ⟨w, by simp, r1, List.mem_cons_self⟩
    · rw [if_neg h] at e
      obtain ⟨v, e1, r3, hm⟩ := getF_ok e r2
      refine ⟨v, ?_, r3, List.mem_cons_of_mem _ hm⟩
      have : (f == g) = false := by simpa using h
      simp only [List.zip_cons_cons, List.lookup_cons, this]
      exact e1
theorem setF_ok : ∀ {fs : List Str} {xs : List D} {vs : List V} {f : Str} {d : D} {v : V}, fs.length = vs.length → RDs K L H xs vs → RD K L H d v →
    ∃ vs', putF f v (fs.zip vs) = (setF fs xs f d).1.zip vs' ∧ (setF fs xs f d).1.length = vs'.length ∧ RDs K L H (setF fs xs f d).2 vs' ∧ ∀ g ∈ (setF fs xs f d).1, g = f ∨ g ∈ fs
  | [], xs, vs, f, d, v, hl, r, rd => by
    have : vs = [] := by simpa using hl.symm
    subst this
    refine ⟨[v], by simp [putF, setF], by simp [setF], ?_, by simp [setF]⟩
    simp only [setF]
    exact .cons rd .nil
  | g :: fs, [], vs, f, d, v, hl, r, rd => by
    simp only [RDs] at r
    subst r
    simp at hl
  | g :: fs, x :: xs, vs, f, d, v, hl, r, rd => by
    simp only [RDs] at r
    obtain ⟨w, ws, rfl, r1, r2⟩ := r
    by_cases h : g = f
    · refine ⟨v :: ws, by simp [putF, setF, h], by simpa [setF, h] using hl, ?_, by simp only [setF, if_pos h]; intro g' hg'; exact .inr hg'⟩
      simp only [setF, if_pos h]
      exact .cons rd r2
    · obtain ⟨vs', e1, e2, e3, e4⟩ := setF_ok (f := f) (by simpa using hl) r2 rd
      refine ⟨w :: vs', ?_, ?_, ?_, ?_⟩
      · simp only [List.zip_cons_cons, putF, setF, if_neg h, e1]
      · simp only [setF, if_neg h, List.length_cons, e2]
      · simp only [setF, if_neg h]
        exact .cons r1 e3
      · simp only [setF, if_neg h]
        intro g' hg'
        rcases List.mem_cons.mp hg' with rfl | hg'
        · exact .inr List.mem_cons_self
        · rcases e4 g' hg' with q | q
          · exact .inl q
          · exact .inr (List.mem_cons_of_mem _ q)
end
section
variable {X : Cx} {ca : Nat → Addr} {W : WX} {e o value : Expr} {es : List Expr} {m ma mo mv : EM} {ms : AM} {pos pos' apos p : Pos}
/-- e.f -/
def fldD (f : Str) (d : D) (s : Store) : R D := match d with
  | .obj fs xs => match getF fs xs f with | some v => .ok v s | none => .bad
  | .ref l => match s[l]? with
    | some (.ins _ fs xs) => match getF fs xs f with | some v => .ok v s | none => .bad
    | _ => .bad
  | _ => .bad
def eFld (f : Str) (m : EM) : EM := fun env s => (m env s).bind fun d s => fldD f d s
theorem de_fld {f : Str} (h : DE X ca W e m) (hb : attributeBase e f X.env (eval e X.env) = eval e X.env := by rfl) : DE X ca W (.Attribute e f pos) (eFld f m) :=
  PE.imp (pe_fld h hb) fun σ H Q ⟨L, env, s, S, e, q⟩ => ⟨L, env, s, S, e, q.bind.imp fun v H1 ⟨L1, s1, d, k1, S1, r1, q1⟩ => by
    unfold fldD at q1
    split at q1
    · simp only [RD] at r1
      obtain ⟨a, C, dx, vs, rfl, h1, hc, hl, rs⟩ := r1
      split at q1
      · rename_i v' eg
        obtain ⟨w, e1, r2, hm⟩ := getF_ok eg rs
        exact ⟨a, C, dx, _, w, rfl, h1.2.2, hc.1, hc.2 f hm, e1, q1 L1 _ H1 Keep.refl S1 r2⟩
      · exact q1.elim
    · simp only [RD] at r1
      obtain ⟨a, rfl, ea⟩ := r1
      split at q1
      · rename_i c fs xs ec
        obtain ⟨dx, vs, h1, hl, hc, rs⟩ := S1.cell _ a _ ea ec
        split at q1
        · rename_i v' eg
          obtain ⟨w, e1, r2, hm⟩ := getF_ok eg rs
          exact ⟨a, _, dx, _, w, rfl, h1, hc.1, hc.2 f hm, e1, q1 L1 _ H1 Keep.refl S1 r2⟩
        · exact q1.elim
      · exact q1.elim
    · exact q1.elim⟩
/-- o.f = value, f one of the attributes that the classes cs have -/
def setFD (cs : List Nat) (f : Str) (o d : D) (s : Store) : Option Store := match o with
  | .ref l => match s[l]? with
    | some (.ins c fs xs) => if (c ∈ cs ∨ f ∈ fs) ∧ fs.length < 1000 then some (s.set l (.ins c (setF fs xs f d).1 (setF fs xs f d).2)) else none
    | _ => none
  | _ => none
def sFld (cs : List Nat) (f : Str) (mo mv : EM) : SM := fun env s => (mv env s).bindS fun d s => (mo env s).bindS fun o s => match setFD cs f o d s with
  | some s => .next env s
  | none => .bad
theorem ds_fld {cs : List Nat} {f : Str} (hn : ∀ c ∈ cs, NoAttr X.K (ca c) f) (ho : DE X ca W o mo) (hv : DE X ca W value mv) (hs : swapsWith value (some (.Attribute o f pos')) pos.line X.env = pure false := by rfl) : DS X ca W (.Assign [.Attribute o f pos'] value pos) (sFld cs f mo mv) :=
  PS.imp (ps_fld ho hv hs) fun T σ H ⟨L, env, s, S, e, q⟩ => ⟨L, env, s, S, e, q.ofR.imp fun y H1 ⟨L1, s1, d, k1, S1, r1, q1⟩ => ⟨L1, env, s1, S1, e.mono k1.mono, q1.ofR.imp fun x H2 ⟨L2, s2, od, k2, S2, r2, q2⟩ => by
    unfold setFD at q2
    split at q2
    case h_2 => exact q2.elim
    rename_i sN eN
    split at eN
    case h_2 => cases eN
    rename_i l
    split at eN
    case h_2 => cases eN
    rename_i c fs xs ec
    split at eN
    case isFalse => cases eN
    rename_i hc
    cases eN
    simp only [RD] at r2
    obtain ⟨a, rfl, ea⟩ := r2
    obtain ⟨dx, vs, h1, hl, hcl, rs⟩ := S2.cell l a _ ea ec
    have hna : NoAttr X.K (ca c) f := by
      rcases hc.1 with h | h
      · exact hn c h
      · exact hcl.2 f h
    refine ⟨a, ca c, dx, fs.zip vs, rfl, h1, hcl.1, hna, by rw [List.length_zip, ← hl, Nat.min_self]; exact hc.2, ?_⟩
    have k2' := k1.trans k2
    obtain ⟨vs0, e0, l0, rr0, m0⟩ := setF_ok (f := f) hl rs (RD.mono k2.mono _ _ r1)
    have hu : Mono L2 H2 L2 (upd H2 a (.ins (ca c) dx (putF f y (fs.zip vs)))) := ⟨List.prefix_refl _, fun b u eb hb1 hb2 => ⟨by rw [upd_ne (show b ≠ a from fun z => hb1 (by rw [z]; exact List.mem_of_getElem? ea))]; exact eb, hb1, hb2⟩⟩
    obtain ⟨kw, Sw⟩ := S2.write ea (o := .ins (ca c) dx (putF f y (fs.zip vs))) (c := .ins c (setF fs xs f d).1 (setF fs xs f d).2) ⟨dx, vs0, by rw [← e0]; exact upd_same, l0, ⟨hcl.1, fun g hg => by
      rcases m0 g hg with rfl | hg
      · exact hna
      · exact hcl.2 g hg⟩, RDs.mono hu _ _ rr0⟩
    exact q2 L2 σ _ kw Sw ((e.mono k2'.mono).mono kw.mono)⟩⟩
/-! ### lists' methods -/
def isLst (s : Store) (o : D) : Bool := match o with
  | .ref l => match s[l]? with | some (.lst _) => true | _ => false
  | _ => false
def eLM (f : D → D → Store → R D) (mo m : EM) : EM := fun env s => (mo env s).bind fun o s => if isLst s o = true then (m env s).bind fun d s => f o d s else .bad
def eLM0 (f : D → Store → R D) (mo : EM) : EM := fun env s => (mo env s).bind fun o s => f o s
def apD : D → D → Store → R D := fun o d s => match o with
  | .ref l => match s[l]? with
    | some (.lst xs) => if xs.length < sizeLine then .ok .non (s.set l (.lst (xs ++ [d]))) else .bad
    | _ => .bad
  | _ => .bad
def popD : D → Store → R D := fun o s => match o with
  | .ref l => match s[l]? with
    | some (.lst xs) => match xs[xs.length - 1]? with | some d => .ok d (s.set l (.lst xs.dropLast)) | none => .bad
    | _ => .bad
  | _ => .bad
theorem isLst_ok {L : Lv} {s : Store} {H : Hp} {o : D} {v : V} (S : SR X.K ca L s H) (r : RD X.K L H o v) (h : isLst s o = true) : tyV X.K "list" v H := by
  unfold isLst at h
  split at h
  · rename_i l
    simp only [RD] at r
    obtain ⟨a, rfl, ea⟩ := r
    split at h
    · rename_i xs ec
      obtain ⟨vs, h1, _⟩ := S.cell l a _ ea ec
      exact .inl ⟨rfl, vs, .inl (.inl h1)⟩
    · cases h
  · cases h
theorem write_lst {L : Lv} {s : Store} {H : Hp} {l : Nat} {a : Addr} {xs : List D} {vs : List V} (S : SR X.K ca L s H) (ea : L.rho[l]? = some a) (rs : RDs X.K L H xs vs) : Keep L H L (upd H a (.lst vs)) ∧ SR X.K ca L (s.set l (.lst xs)) (upd H a (.lst vs)) := by
  have hu : Mono L H L (upd H a (.lst vs)) := ⟨List.prefix_refl _, fun b u eb hb1 hb2 => ⟨by rw [upd_ne (show b ≠ a from fun z => hb1 (by rw [z]; exact List.mem_of_getElem? ea))]; exact eb, hb1, hb2⟩⟩
  exact S.write ea (o := .lst vs) (c := .lst xs) ⟨vs, upd_same, RDs.mono hu _ _ rs⟩
theorem RDs.dropLast {K : PySem.W.Frag} {L : Lv} {H : Hp} : ∀ {xs : List D} {vs : List V}, RDs K L H xs vs → RDs K L H xs.dropLast vs.dropLast
  | [], vs, r => by simp only [RDs] at r; subst r; exact .nil
  | [x], vs, r => by
    simp only [RDs] at r
    obtain ⟨w, ws, rfl, r1, rfl⟩ := r
    exact .nil
  | x :: y :: xs, vs, r => by
    simp only [RDs] at r
    obtain ⟨w, ws, rfl, r1, w2, ws2, rfl, r2, r3⟩ := r
    have : RDs K L H (y :: xs) (w2 :: ws2) := .cons r2 r3
    exact .cons r1 (RDs.dropLast this)
theorem de_append (ho : DE X ca W o mo) (he : DE X ca W e m) (hs : starEach (e :: []) X.env = (false, eval e X.env) :: starEach [] X.env := by rfl) (hbase : attributeBase o "append" X.env (eval o X.env) = eval o X.env := by rfl)
    (hfew : ((backTo pos (starEach (e :: []) X.env)).all (fun x => !x.1) && (backToKw pos (keywordEach [] X.env)).all (fun x => x.1.isSome)
      && decide ((e :: []).length + ([] : List Keyword).length + (if ([] : List Keyword).isEmpty then 0 else 1) < 30)) = true := by rfl) (hline : (apos.endLine == pos.line) = true := by rfl) (hplain : (backTo pos (starEach [] X.env)).any (·.1) = false := by rfl) :
    DE X ca W (.Call (.Attribute o "append" apos) [e] [] pos) (eLM apD mo m) :=
  PE.imp (pe_bm PySem.F.plainAttrs_list PySem.F.slot_list_append PySem.F.type_list_append mt_append ho (pa_cons he pa_nil hs) hbase hfew hline hs hplain) fun σ H Q ⟨L, env, s, S, ee, q⟩ => ⟨L, env, s, S, ee, q.bind.imp fun x H1 ⟨L1, s1, od, k1, S1, r1, q1⟩ => by
    split at q1
    case isFalse => exact q1.elim
    rename_i hb
    refine ⟨isLst_ok S1 r1 hb, L1, env, s1, S1, ee.mono k1.mono, q1.bind.imp fun y H2 ⟨L2, s2, d, k2, S2, r2, q2⟩ => ?_⟩
    unfold apD at q2
    split at q2
    case h_2 => exact q2.elim
    rename_i l _
    split at q2
    case h_2 => exact q2.elim
    rename_i xs ec
    split at q2
    case isFalse => exact q2.elim
    rename_i hz
    have r1' := RD.mono k2.mono _ _ r1
    simp only [RD] at r1'
    obtain ⟨a, rfl, ea⟩ := r1'
    obtain ⟨vs, h1, rs⟩ := S2.cell l a _ ea ec
    obtain ⟨kw, Sw⟩ := write_lst S2 ea (rs.append (.cons r2 .nil))
    exact ⟨a, vs, y, rfl, rfl, h1, by rw [← rs.length]; exact hz, q2 L2 .non _ kw Sw rfl⟩⟩
theorem de_pop (ho : DE X ca W o mo) (hbase : attributeBase o "pop" X.env (eval o X.env) = eval o X.env := by rfl) (hline : (apos.endLine == pos.line) = true := by rfl) :
    DE X ca W (.Call (.Attribute o "pop" apos) [] [] pos) (eLM0 popD mo) :=
  PE.imp (pe_bm0 PySem.F.plainAttrs_list PySem.F.slot_list_pop PySem.F.type_list_pop mt_pop ho hbase hline) fun σ H Q ⟨L, env, s, S, ee, q⟩ => ⟨L, env, s, S, ee, q.bind.imp fun x H1 ⟨L1, s1, od, k1, S1, r1, q1⟩ => by
    unfold popD at q1
    split at q1
    case h_2 => exact q1.elim
    rename_i l
    split at q1
    case h_2 => exact q1.elim
    rename_i xs ec
    split at q1
    case h_2 => exact q1.elim
    rename_i d ed
    simp only [RD] at r1
    obtain ⟨a, rfl, ea⟩ := r1
    obtain ⟨vs, h1, rs⟩ := S1.cell l a _ ea ec
    obtain ⟨w, hw, rw'⟩ := rs.get ed
    obtain ⟨kw, Sw⟩ := write_lst S1 ea rs.dropLast
    exact ⟨.inl ⟨rfl, vs, .inl (.inl h1)⟩, a, vs, w, rfl, rfl, h1, by rw [← rs.length]; exact hw, q1 L1 w _ kw Sw (RD.mono kw.mono _ _ rw')⟩⟩
end
/-! ### instances -/
section
variable {X : Cx} {ca : Nat → Addr} {W : WX} {e : Expr} {es : List Expr} {ms : AM} {pos p : Pos}
/-- C(..): a live cell -/
def eMakeL (c n : Nat) (fn : Fn) (ms : AM) : EM := fun env s => (ms env s).bind fun ds s => if ds.length + 1 = n then (match fn (.ref s.length :: ds) (s ++ [.ins c [] []]) with
  | .ok .non s2 => .ok (.ref s.length) s2
  | _ => .bad) else .bad
open Classical in
/-- .. that nothing changes later -/
noncomputable def eMakeF (c n : Nat) (fn : Fn) (ms : AM) : EM := fun env s => (ms env s).bind fun ds s => if ds.length + 1 = n then (match fn (.ref s.length :: ds) (s ++ [.ins c [] []]) with
  | .ok .non s2 => match frz s2 s.length (.ref s.length) with
    | some d => if s2.take s.length = s then .ok d s else .bad
    | none => .bad
  | _ => .bad) else .bad
theorem make_post {K : PySem.W.Frag} {ca : Nat → Addr} {c n : Nat} {fn : Fn} {L : Lv} {s s2 : Store} {H : Hp} {ds : List D} {vs : List V} {Q : VK} (hc : Cls K (ca c)) (S : SR K ca L s H) (r : RDs K L H ds vs) (hn : ds.length + 1 = n) (ef : fn (.ref s.length :: ds) (s ++ [.ins c [] []]) = .ok .non s2)
    {x dx : Addr} (hx : H x = none) (hdx : H dx = none) (hne : dx ≠ x) (q : ∀ L2 H2, Keep L H L2 H2 → SR K ca L2 s2 H2 → L2.rho[s.length]? = some x → Q (.ref x) H2) :
    spOf K ca n fn (.ref x :: (vs ++ [])) (upd (upd H dx (.own x)) x (.ins (ca c) dx [])) (fun v H2 => v = .non ∧ Q (.ref x) H2) (fun _ _ _ => False) := by
  obtain ⟨k0, S0⟩ := S.new hdx (.own x)
  have hx' : (upd H dx (.own x)) x = none := by rw [upd_ne (Ne.symm hne)]; exact hx
  obtain ⟨k1, S1⟩ := S0.alloc hx' (o := .ins (ca c) dx []) (c := .ins c [] []) ⟨dx, [], upd_same, rfl, ⟨hc, fun f hf => by cases hf⟩, .nil⟩
  have k := k0.trans k1
  have er : (L.rho ++ [x])[s.length]? = some x := by rw [← S.len]; simp
  refine ⟨_, .ref s.length :: ds, _, by rw [List.length_cons]; exact hn, S1, .cons ?_ (by rw [List.append_nil]; exact RDs.mono k.mono _ _ r), ?_⟩
  · simp only [RD]
    exact ⟨x, rfl, er⟩
  · rw [ef]
    intro L2 v H2 k2 S2 rv
    simp only [RD] at rv
    exact ⟨rv, q L2 H2 (k.trans k2) S2 (prefix_get k2.rho er)⟩
theorem pass_no {X : Cx} : Passes (L2N.CX X.prog X.w) X (fun _ _ _ => False) := fun pins σ H s e s' I cx => by
  obtain ⟨_, _, _, _, _, _, _, _, _, _, _, _, z⟩ := cx
  exact z.elim
theorem de_makeL {c k n : Nat} {f : Addr} {fd : FuncData} {ps : List Str} {fn : Fn} {x : Str} (M : Mk X.K (ca c) f) (hc : Cls X.K (ca c)) (F : FnOk X.prog X.w X.K X.mg X.base (L2N.CX X.prog X.w) k f fd ps (spOf X.K ca n fn)) (hr : Room (k + 1) X.A) (hm : X.mg x = some (.ref (ca c))) (hb : Binds X.K fd ps [])
    (ha : DA X ca W (e :: es) ms) (hg : Gl X x := by rfl) (hdb : (x == ("__debug__" : Str)) = false := by decide) (he : starEach (e :: es) X.env = (false, eval e X.env) :: starEach es X.env := by rfl) (hpl : (backTo pos (starEach es X.env)).any (·.1) = false := by rfl) :
    DE X ca W (.Call (.Name x p) (e :: es) [] pos) (eMakeL c n fn ms) :=
  PE.imp (pe_make (E := fun _ _ _ => False) M F hr hg hm hb .nil pass_no ha hdb he hpl) fun σ H Q ⟨L, env, s, S, ee, q⟩ => ⟨L, env, s, S, ee, q.bind.imp fun vs H1 ⟨L1, s1, ds, k1, S1, r1, q1⟩ => fun y dy hy hdy hne => by
    split at q1
    case isFalse => exact q1.elim
    rename_i hn
    split at q1
    · rename_i s2 ef
      exact make_post hc S1 r1 hn ef hy hdy hne fun L2 H2 k2 S2 er => q1 L2 (.ref y) H2 k2 S2 (by simp only [RD]; exact ⟨y, rfl, er⟩)
    · exact q1.elim⟩
theorem de_makeL0 {c k n : Nat} {f : Addr} {fd : FuncData} {ps : List Str} {fn : Fn} {x : Str} (M : Mk X.K (ca c) f) (hc : Cls X.K (ca c)) (F : FnOk X.prog X.w X.K X.mg X.base (L2N.CX X.prog X.w) k f fd ps (spOf X.K ca n fn)) (hr : Room (k + 1) X.A) (hm : X.mg x = some (.ref (ca c))) (hb : Binds X.K fd ps [])
    (hg : Gl X x := by rfl) (hdb : (x == ("__debug__" : Str)) = false := by decide) :
    DE X ca W (.Call (.Name x p) [] [] pos) (eMakeL c n fn aNil) :=
  PE.imp (pe_make0 (E := fun _ _ _ => False) M F hr hg hm hb .nil pass_no hdb) fun σ H Q ⟨L, env, s, S, ee, q⟩ => fun y dy hy hdy hne => by
    have q1 : post X.K ca (RD X.K) L H (if ([] : List D).length + 1 = n then (match fn (.ref s.length :: []) (s ++ [.ins c [] []]) with
      | .ok .non s2 => .ok (.ref s.length) s2
      | _ => .bad) else .bad) Q (wE ca W σ) := q
    split at q1
    case isFalse => exact q1.elim
    rename_i hn
    split at q1
    · rename_i s2 ef
      exact make_post hc S .nil hn ef hy hdy hne fun L2 H2 k2 S2 er => q1 L2 (.ref y) H2 k2 S2 (by simp only [RD]; exact ⟨y, rfl, er⟩)
    · exact q1.elim
theorem de_makeF {c k n : Nat} {f : Addr} {fd : FuncData} {ps : List Str} {fn : Fn} {x : Str} (M : Mk X.K (ca c) f) (hc : Cls X.K (ca c)) (F : FnOk X.prog X.w X.K X.mg X.base (L2N.CX X.prog X.w) k f fd ps (spOf X.K ca n fn)) (hr : Room (k + 1) X.A) (hm : X.mg x = some (.ref (ca c))) (hb : Binds X.K fd ps [])
    (ha : DA X ca W (e :: es) ms) (hg : Gl X x := by rfl) (hdb : (x == ("__debug__" : Str)) = false := by decide) (he : starEach (e :: es) X.env = (false, eval e X.env) :: starEach es X.env := by rfl) (hpl : (backTo pos (starEach es X.env)).any (·.1) = false := by rfl) :
    DE X ca W (.Call (.Name x p) (e :: es) [] pos) (eMakeF c n fn ms) :=
  PE.imp (pe_make (E := fun _ _ _ => False) M F hr hg hm hb .nil pass_no ha hdb he hpl) fun σ H Q ⟨L, env, s, S, ee, q⟩ => ⟨L, env, s, S, ee, q.bind.imp fun vs H1 ⟨L1, s1, ds, k1, S1, r1, q1⟩ => fun y dy hy hdy hne => by
    split at q1
    case isFalse => exact q1.elim
    rename_i hn
    split at q1
    · rename_i s2 ef
      split at q1
      · rename_i d ez
        split at q1
        · rename_i ht
          refine make_post hc S1 r1 hn ef hy hdy hne fun L2 H2 k2 S2 er => ?_
          obtain ⟨w, k', S'⟩ := S1.back k2 S2 ht
          exact q1 L1 (.ref y) H2 k' S' (frz_ok w S2 ez (by simp only [RD]; exact ⟨y, rfl, er⟩))
        · exact q1.elim
      · exact q1.elim
    · exact q1.elim⟩
end
/-! ### dict displays with texts for keys; nothing changes them -/
theorem mergeK_new : ∀ (acc kvs : List (Key × V)), ((acc ++ kvs).map (·.1)).Nodup → mergeK acc kvs = acc ++ kvs
  | acc, [], _ => by simp [mergeK]
  | acc, (k, v) :: r, h => by
    have hk : (acc.any fun kv => decide (kv.1 = k)) = false := by
      rw [List.any_eq_false]
      intro kv hm
      have : kv.1 ≠ k := by
        intro e
        rw [List.map_append, List.nodup_append] at h
        exact h.2.2 kv.1 (List.mem_map_of_mem hm) k (by simp) e
      simpa using this
    have e : putK acc k v = acc ++ [(k, v)] := by unfold putK; rw [if_neg (by rw [hk]; exact Bool.false_ne_true)]
    have ih := mergeK_new (acc ++ [(k, v)]) r (by rw [List.append_assoc]; exact h)
    show mergeK (putK acc k v) r = _
    rw [e, ih, List.append_assoc]
    rfl
section
variable {X : Cx} {ca : Nat → Addr} {W : WX} {v : Expr} {m : EM} {ms : AM} {keys : List (Option Expr)} {values : List Expr} {ks : List Str} {pos p : Pos}
/-- the pairs of a display -/
def DP (X : Cx) (ca : Nat → Addr) (W : WX) (pos : Pos) (keys : List (Option Expr)) (values : List Expr) (ks : List Str) (ms : AM) : Prop := ∃ trs : List (TE × TE), PPs X pos keys values trs ∧ ∀ (σ : St) (H : Hp) (Q : List (V × V) → Hp → Prop),
  (∃ L env s, SR X.K ca L s H ∧ ER X.K L H env σ ∧ post X.K ca (RDs X.K) L H (ms env s) (fun vs H1 => Q ((ks.map V.str).zip vs) H1) (wE ca W σ)) → tPairs trs σ H Q
theorem dp_nil : DP X ca W pos [] [] [] aNil := ⟨[], pps_nil, fun σ H Q ⟨L, env, s, S, e, q⟩ => by
  have := q L [] H Keep.refl S .nil
  exact this⟩
theorem dp_cons {k : Str} {j : Nat} (hv : DE X ca W v m) (hr : DP X ca W pos keys values ks ms) : DP X ca W pos (some (.Constant (.str k) j p) :: keys) (v :: values) (k :: ks) (aCons m ms) := by
  obtain ⟨trs, h1, h2⟩ := hr
  refine ⟨_, pps_cons pe_str hv h1, fun σ H Q ⟨L, env, s, S, e, q⟩ => ?_⟩
  refine ⟨L, env, s, S, e, q.bind.imp fun y H1 ⟨L1, s1, d, k1, S1, r1, q1⟩ => ?_⟩
  exact h2 σ H1 _ ⟨L1, env, s1, S1, e.mono k1.mono, q1.bind.imp fun ys H2 ⟨L2, s2, ds, k2, S2, r2, q2⟩ => q2 L2 _ H2 Keep.refl S2 (.cons (RD.mono k2.mono _ _ r1) r2)⟩
theorem zip_kv : ∀ (ks : List Str) (vs : List V), (ks.map V.str).zip vs = ((ks.map Sum.inr : List Key).zip vs).map (fun kv => (kV kv.1, kv.2))
  | [], _ => by simp
  | _ :: _, [] => by simp
  | k :: ks, v :: vs => by
    simp only [List.map_cons, List.zip_cons_cons, zip_kv ks vs]
    rfl
def eDct (ks : List Str) (ms : AM) : EM := fun env s => (ms env s).bind fun ds s => if ds.length = ks.length then .ok (.dct (ks.map .inr) ds) s else .bad
theorem de_dct {k0 : Option Expr} (h : DP X ca W pos (k0 :: keys) values ks ms) (hn : ks.Nodup := by decide +kernel) (h15 : ks.length ≤ 15 := by decide) (hall : (k0 :: keys).all (·.isSome) = true := by rfl) (hl : (k0 :: keys).length = values.length := by rfl) (hl15 : (k0 :: keys).length ≤ 15 := by exact Nat.le_of_ble_eq_true rfl) :
    DE X ca W (.Dict (k0 :: keys) values pos) (eDct ks ms) := by
  obtain ⟨trs, h1, h2⟩ := h
  refine PE.imp (pe_disp h1 hall hl (List.cons_ne_nil _ _) hl15) fun σ H Q ⟨L, env, s, S, e, q⟩ => fun a ha => ?_
  obtain ⟨kk, SS⟩ := S.new ha (.dK [])
  have f := S.fresh ha
  have S0 : SR X.K ca ⟨L.rho, a :: L.pi⟩ s (upd H a (.dK [])) := ⟨SS.len, SS.nd, fun l b c e1 e2 => (S.cell l b c e1 e2).mono (L2 := ⟨L.rho, a :: L.pi⟩) ⟨List.prefix_refl _, fun b' o eb h1 h2 => ⟨by rw [upd_ne (ne_of_none eb ha)]; exact eb, h1, by
      simp only [List.mem_cons, not_or]; exact ⟨ne_of_none eb ha, h2⟩⟩⟩ (by
      obtain ⟨u, hu⟩ := (S.cell l b c e1 e2).some
      rw [upd_ne (ne_of_none hu ha)]), fun b hb => by
      rcases List.mem_cons.mp hb with rfl | hb
      · exact ⟨f.1, _, upd_same⟩
      · exact SS.pi b hb⟩
  have m0 : Mono L H ⟨L.rho, a :: L.pi⟩ (upd H a (.dK [])) := ⟨List.prefix_refl _, fun b o eb h1 h2 => ⟨by rw [upd_ne (ne_of_none eb ha)]; exact eb, h1, by simp only [List.mem_cons, not_or]; exact ⟨ne_of_none eb ha, h2⟩⟩⟩
  refine h2 σ _ _ ⟨⟨L.rho, a :: L.pi⟩, env, s, S0, e.mono m0, ?_⟩
  unfold eDct at q
  cases em : ms env s with
  | bad => rw [em] at q; exact q.elim
  | exc c s1 =>
    rw [em] at q
    intro L1 H1 k1 S1
    obtain ⟨rho1, pi1⟩ := L1
    have hp : pi1 = a :: L.pi := k1.pi
    subst hp
    refine q ⟨rho1, L.pi⟩ H1 ⟨rfl, k1.rho, fun b o eb hb => ?_⟩ S1.open
    exact k1.keep b o (by rw [upd_ne (ne_of_none eb ha)]; exact eb) hb
  | ok ds s1 =>
    rw [em] at q
    simp only [R.bind_ok] at q
    split at q
    case isFalse => exact q.elim
    rename_i hd
    intro L1 vs H1 k1 S1 r1
    obtain ⟨rho1, pi1⟩ := L1
    have hp : pi1 = a :: L.pi := k1.pi
    subst hp
    have k0 := k1.keep a _ upd_same f.1
    have hlen : ks.length = vs.length := by rw [← r1.length, hd]
    refine ⟨k0.1, (ks.map Sum.inr).zip vs, ?_, ?_, ?_⟩
    · exact zip_kv ks vs
    · rw [List.length_zip, List.length_map]; omega
    · have ez : mergeK [] ((ks.map Sum.inr).zip vs) = (ks.map Sum.inr).zip vs := by
        rw [mergeK_new [] _ (by
          rw [List.nil_append, List.map_fst_zip (by rw [List.length_map]; omega)]
          exact List.Pairwise.map _ (fun x y h e => h (Sum.inr.inj e)) hn)]
        rfl
      rw [ez]
      obtain ⟨S2, m2⟩ := S1.poke List.mem_cons_self (.dK ((ks.map Sum.inr).zip vs))
      refine q ⟨rho1, L.pi⟩ _ _ ⟨rfl, k1.rho, fun b o eb hb => ?_⟩ S2.open ?_
      · have := k1.keep b o (by rw [upd_ne (ne_of_none eb ha)]; exact eb) hb
        exact ⟨by rw [upd_ne (ne_of_none eb ha)]; exact this.1, this.2⟩
      · simp only [RD]
        refine ⟨a, vs, rfl, ⟨k0.2, fun z => f.2 z, upd_same⟩, by rw [List.length_map]; exact hlen, RDs.mono mo_open _ _ (RDs.mono m2 _ _ r1)⟩
/-- d[k] of such a dict -/
def getK (ks : List Key) (xs : List D) (k : Key) : Option D := match ks, xs with
  | g :: ks, x :: xs => if g = k then some x else getK ks xs k
  | _, _ => none
def keyD : D → Option Key
  | .int i => some (.inl i)
  | .str x => some (.inr x)
  | _ => none
theorem keyD_ok {K : PySem.W.Frag} {L : Lv} {H : Hp} {d : D} {k : Key} {v : V} (e : keyD d = some k) (r : RD K L H d v) : v = kV k := by
  unfold keyD at e
  split at e
  · cases e; simp only [RD] at r; exact r
  · cases e; simp only [RD] at r; exact r
  · cases e
theorem getK_ok {K : PySem.W.Frag} {L : Lv} {H : Hp} : ∀ {ks : List Key} {xs : List D} {vs : List V} {k : Key} {d : D}, getK ks xs k = some d → RDs K L H xs vs → ∃ v, valV (ks.zip vs) k = some v ∧ RD K L H d v
  | [], _, _, _, _, e, _ => by simp [getK] at e
  | _ :: _, [], _, _, _, e, _ => by simp [getK] at e
  | g :: ks, x :: xs, vs, k, d, e, r => by
    simp only [RDs] at r
    obtain ⟨w, ws, rfl, r1, r2⟩ := r
    unfold getK at e
    by_cases h : g = k
    · rw [if_pos h] at e
      cases e
      exact ⟨w, by rw [List.zip_cons_cons]; exact valV_pos h, r1⟩
    · rw [if_neg h] at e
      obtain ⟨v, e1, r3⟩ := getK_ok e r2
      exact ⟨v, by rw [List.zip_cons_cons, valV_neg h]; exact e1, r3⟩
def dgetD : D → D → Store → R D := fun x y s => match x, keyD y with
  | .dct ks xs, some k => match getK ks xs k with | some d => .ok d s | none => .bad
  | .ref l, some k => match s[l]? with
    | some (.dK ks xs) => match getK ks xs k with | some d => .ok d s | none => .bad
    | _ => .bad
  | _, _ => .bad
theorem de_dget {a b : Expr} {ma mb : EM} (hu : X.A.units + 1 < cLine) (ha : DE X ca W a ma) (hb : DE X ca W b mb) (hs : NoSl b := by exact fun _ _ => rfl) : DE X ca W (.Subscript a b pos) (e2 dgetD ma mb) :=
  PE.imp (pe_dget hu ha hb hs) fun σ H Q ⟨L, env, s, S, e, q⟩ => ⟨L, env, s, S, e, q.bind.imp fun x H1 ⟨L1, s1, d1, k1, S1, r1, q1⟩ => ⟨L1, env, s1, S1, e.mono k1.mono, q1.bind.imp fun y H2 ⟨L2, s2, d2, k2, S2, r2, q2⟩ => by
    have r1' := RD.mono k2.mono _ _ r1
    unfold dgetD at q2
    split at q2
    · rename_i ks xs k ek _
      have ey := keyD_ok ek r2
      simp only [RD] at r1'
      obtain ⟨a, vs, rfl, f, hl, rs⟩ := r1'
      split at q2
      · rename_i d eg
        obtain ⟨v, ev, rv⟩ := getK_ok eg rs
        exact ⟨a, v, rfl, .inl ⟨_, k, .inl f.2.2, ey, ev.symm⟩, q2 L2 v _ Keep.refl S2 rv⟩
      · exact q2.elim
    · rename_i l k ek _
      have ey := keyD_ok ek r2
      simp only [RD] at r1'
      obtain ⟨a, rfl, ea⟩ := r1'
      split at q2
      · rename_i ks xs ec
        obtain ⟨vs, h1, hl, rs⟩ := S2.cell l a _ ea ec
        split at q2
        · rename_i d eg
          obtain ⟨v, ev, rv⟩ := getK_ok eg rs
          exact ⟨a, v, rfl, .inl ⟨_, k, .inl h1, ey, ev.symm⟩, q2 L2 v _ Keep.refl S2 rv⟩
        · exact q2.elim
      · exact q2.elim
    · exact q2.elim⟩⟩
end
end DE
/-! DEV: how the combinators evaluate -/
namespace DE
open PySem PySem.Spec PyProof.Rows L2
theorem ofS_list (a : String) : (Str.ofString a).cps = (a.toList.map Char.toNat).toArray := by rw [Str.ofString_eq_toList]
theorem ofS_inj (a b : String) : (Str.ofString a = Str.ofString b) ↔ a = b := by
  refine ⟨fun h => ?_, fun h => by rw [h]⟩
  have h1 := congrArg Str.cps h
  rw [ofS_list, ofS_list] at h1
  have h2 : a.toList.map Char.toNat = b.toList.map Char.toNat := by simpa using h1
  have mi : ∀ x y : List Char, x.map Char.toNat = y.map Char.toNat → x = y := by
    intro x
    induction x with
    | nil => intro y h; cases y with | nil => rfl | cons _ _ => cases h
    | cons c r ih => intro y h; cases y with
      | nil => cases h
      | cons d t =>
        simp only [List.map_cons, List.cons.injEq] at h
        rw [Char.toNat_inj.mp h.1, ih t h.2]
  have h3 : a.toList = b.toList := mi _ _ h2
  exact String.toList_inj.mp h3
theorem ofS_ok (a : String) : strOk' (Str.ofString a) = true := by
  unfold strOk'
  rw [ofS_list]
  rw [List.all_toArray, List.all_eq_true]
  intro x hx
  obtain ⟨c, _, rfl⟩ := List.mem_map.mp hx
  have := c.valid
  unfold UInt32.isValidChar Nat.isValidChar at this
  have e : c.toNat = c.val.toNat := rfl
  rw [decide_eq_true_eq, e]
  omega
theorem res_non (s : Store) : res s .non = some .non := by simp [sub]
theorem res_bl (s : Store) (b : Bool) : res s (.bl b) = some (.bl b) := by simp [sub]
theorem res_int (s : Store) (b : Int) : res s (.int b) = some (.int b) := by simp [sub]
theorem res_str (s : Store) (b : Str) : res s (.str b) = some (.str b) := by simp [sub]
theorem eqD_int (neg : Bool) (i j : Int) (s : Store) : eqD neg (.int i) (.int j) s = .ok (.bl (if neg then !decide (i = j) else decide (i = j))) s := by
  unfold eqD
  rw [res_int, res_int]
  simp only [layD, depD, eqv, pyOf, PyData.eqv]
  have e : (i == j) = decide (i = j) := by by_cases h : i = j <;> simp [h]
  rw [e]
  simp
theorem eqD_str (neg : Bool) (a b : Str) (s : Store) (ha : strOk' a = true) (hb : strOk' b = true) : eqD neg (.str a) (.str b) s = .ok (.bl (if neg then !decide (a = b) else decide (a = b))) s := by
  unfold eqD
  rw [res_str, res_str]
  simp only [layD, depD, eqv, pyOf, PyData.eqv, ha, hb]
  have e : (a == b) = decide (a = b) := by by_cases h : a = b <;> simp [h]
  rw [e]
  simp
/-- an own member of words -/
theorem strs_sub (f : Nat → Option D) : ∀ ws : List Str, subs f (ws.map D.str) = some (ws.map D.str)
  | [] => by simp [subs]
  | w :: ws => by simp only [List.map_cons, subs, sub]; rw [strs_sub f ws]
theorem strs_lay : ∀ ws : List Str, (∀ w ∈ ws, strOk' w = true) → layDs (ws.map D.str) = true
  | [], _ => by simp [layDs]
  | w :: ws, h => by
    simp only [List.map_cons, layDs, layD, Bool.and_eq_true]
    exact ⟨h w List.mem_cons_self, strs_lay ws fun x hx => h x (List.mem_cons_of_mem _ hx)⟩
theorem strs_any (a : Str) : ∀ ws : List Str, (ws.map D.str).any (fun y => eqv y (.str a)) = decide (a ∈ ws)
  | [] => by simp
  | w :: ws => by
    have ih := strs_any a ws
    rw [List.map_cons, List.any_cons, ih]
    simp only [eqv, pyOf, PyData.eqv, List.mem_cons]
    have e : (w == a) = decide (a = w) := by
      by_cases h : a = w
      · rw [h]; simp
      · have : ¬ w = a := fun q => h q.symm
        simp [h, this]
    rw [e]
    simp
theorem inD_strs (neg : Bool) (a : Str) (ws : List Str) (s : Store) (ha : strOk' a = true) (hw : ∀ w ∈ ws, strOk' w = true) :
    inD neg (.str a) (.tup (ws.map D.str)) s = .ok (.bl (if neg then !decide (a ∈ ws) else decide (a ∈ ws))) s := by
  have e2 : res s (.tup (ws.map D.str)) = some (.tup (ws.map D.str)) := by
    show sub _ _ = _
    simp only [sub]
    rw [strs_sub]
    rfl
  have e3 : inD neg (.str a) (.tup (ws.map D.str)) s = (match res s (.str a), res s (.tup (ws.map D.str)) with
    | some a, some (.tup ys) => if layD a = true ∧ layDs ys = true ∧ depD a ≤ 190 then .ok (.bl (if neg then !ys.any (fun y => eqv y a) else ys.any (fun y => eqv y a))) s else .bad
    | some a, some (.lst ys) => if layD a = true ∧ layDs ys = true ∧ depD a ≤ 190 then .ok (.bl (if neg then !ys.any (fun y => eqv y a) else ys.any (fun y => eqv y a))) s else .bad
    | _, _ => .bad) := rfl
  rw [e3, e2, res_str]
  simp only [layD, ha, strs_lay ws hw, depD, strs_any]
  simp
theorem inD3 (neg : Bool) (a x y z : Str) (s : Store) (ha : strOk' a = true) (hx : strOk' x = true) (hy : strOk' y = true) (hz : strOk' z = true) :
    inD neg (.str a) (.tup [.str x, .str y, .str z]) s = .ok (.bl (if neg then !decide (a = x ∨ a = y ∨ a = z) else decide (a = x ∨ a = y ∨ a = z))) s := by
  have := inD_strs neg a [x, y, z] s ha (by simp [hx, hy, hz])
  simpa using this
theorem inD2 (neg : Bool) (a x y : Str) (s : Store) (ha : strOk' a = true) (hx : strOk' x = true) (hy : strOk' y = true) :
    inD neg (.str a) (.tup [.str x, .str y]) s = .ok (.bl (if neg then !decide (a = x ∨ a = y) else decide (a = x ∨ a = y))) s := by
  have := inD_strs neg a [x, y] s ha (by simp [hx, hy])
  simpa using this
theorem eqD_ss (neg : Bool) (a b : String) (s : Store) : eqD neg (.str (Str.ofString a)) (.str (Str.ofString b)) s = .ok (.bl (if neg then !decide (a = b) else decide (a = b))) s := by
  rw [eqD_str neg _ _ s (ofS_ok a) (ofS_ok b)]
  simp only [ofS_inj]
theorem inD3_ss (neg : Bool) (a x y z : String) (s : Store) : inD neg (.str (Str.ofString a)) (.tup [.str (Str.ofString x), .str (Str.ofString y), .str (Str.ofString z)]) s = .ok (.bl (if neg then !decide (a = x ∨ a = y ∨ a = z) else decide (a = x ∨ a = y ∨ a = z))) s := by
  rw [inD3 neg _ _ _ _ s (ofS_ok a) (ofS_ok x) (ofS_ok y) (ofS_ok z)]
  simp only [ofS_inj]
theorem inD2_ss (neg : Bool) (a x y : String) (s : Store) : inD neg (.str (Str.ofString a)) (.tup [.str (Str.ofString x), .str (Str.ofString y)]) s = .ok (.bl (if neg then !decide (a = x ∨ a = y) else decide (a = x ∨ a = y))) s := by
  rw [inD2 neg _ _ _ s (ofS_ok a) (ofS_ok x) (ofS_ok y)]
  simp only [ofS_inj]
/-- a comprehension whose items are made one by one, nothing is stored -/
theorem lcD_map {t : Tgt} {tt : TM} {em : EM} {a : List D × Option (Store → Prop)} {env : Env} {s : Store} (g : okG a s) (f : D → D) : ∀ xs : List D,
    (∀ x ∈ xs, ∃ env1, setT t x env = some env1 ∧ tt env1 s = .ok true s ∧ em env1 s = .ok (f x) s) → lcD t tt em a env xs s = .ok (xs.map f) s
  | [], _ => by unfold lcD; rw [if_pos g]; rfl
  | x :: xs, h => by
    obtain ⟨env1, e1, e2, e3⟩ := h x List.mem_cons_self
    unfold lcD
    rw [if_pos g, e1]
    simp only [e2, R.bind_ok, if_true, e3, lcD_map g f xs fun y hy => h y (List.mem_cons_of_mem _ hy), List.map_cons]
theorem lcD_filter {t : Tgt} {tt : TM} {em : EM} {a : List D × Option (Store → Prop)} {env : Env} {s : Store} (g : okG a s) (p : D → Bool) (f : D → D) : ∀ xs : List D,
    (∀ x ∈ xs, ∃ env1, setT t x env = some env1 ∧ tt env1 s = .ok (p x) s ∧ em env1 s = .ok (f x) s) → lcD t tt em a env xs s = .ok ((xs.filter p).map f) s
  | [], _ => by unfold lcD; rw [if_pos g]; rfl
  | x :: xs, h => by
    obtain ⟨env1, e1, e2, e3⟩ := h x List.mem_cons_self
    have ih := lcD_filter g p f xs fun y hy => h y (List.mem_cons_of_mem _ hy)
    unfold lcD
    rw [if_pos g, e1]
    simp only [e2, R.bind_ok]
    cases q : p x with
    | true =>
      rw [if_pos rfl, e3, List.filter_cons_of_pos q]
      simp only [R.bind_ok, ih, List.map_cons]
    | false =>
      rw [if_neg Bool.false_ne_true, List.filter_cons_of_neg (by rw [q]; exact Bool.false_ne_true)]
      exact ih
theorem bools_map {α : Type} (f : α → Bool) : ∀ xs : List α, bools (xs.map fun x => D.bl (f x)) = some (xs.map f)
  | [] => rfl
  | x :: xs => by simp only [List.map_cons, bools, bools_map f xs]; rfl
theorem intsD_map {α : Type} (f : α → Int) : ∀ xs : List α, intsD (xs.map fun x => D.int (f x)) = some (xs.map f)
  | [] => rfl
  | x :: xs => by simp only [List.map_cons, intsD, intsD_map f xs]; rfl
theorem strsD_map {α : Type} (f : α → Str) : ∀ xs : List α, strsD (xs.map fun x => D.str (f x)) = some (xs.map f)
  | [] => rfl
  | x :: xs => by simp only [List.map_cons, strsD, strsD_map f xs]; rfl
theorem isD_true (x : Bool) (s : Store) : isD false (.bl x) (.bl true) s = .ok (.bl x) s := by cases x <;> rfl
theorem isnD_true (x : Bool) (s : Store) : isD true (.bl x) (.bl true) s = .ok (.bl (!x)) s := by cases x <;> rfl
theorem isnD_false (x : Bool) (s : Store) : isD true (.bl x) (.bl false) s = .ok (.bl x) s := by cases x <;> rfl
theorem atI_nat {α : Type} (xs : List α) (i : Nat) (h : i < xs.length) : atI xs (i : Int) = xs[i]? := by
  unfold atI ixN
  rw [if_pos (by omega), if_pos (by omega)]
  simp
theorem atI_0 {α : Type} (x : α) (xs : List α) : atI (x :: xs) 0 = some x := atI_nat (x :: xs) 0 (by simp)
theorem atI_1 {α : Type} (x y : α) (xs : List α) : atI (x :: y :: xs) 1 = some y := atI_nat (x :: y :: xs) 1 (by simp)
theorem atI_int {α : Type} (xs : List α) (i : Int) (h0 : 0 ≤ i) (h : i < xs.length) : ∃ x ∈ xs, atI xs i = some x := by
  unfold atI ixN
  rw [if_pos h0, if_pos h]
  have hl : i.toNat < xs.length := by omega
  refine ⟨xs[i.toNat], List.getElem_mem hl, ?_⟩
  show xs[i.toNat]? = _
  exact List.getElem?_eq_getElem hl
theorem sg_len (c : Nat) : Str.length ⟨#[c]⟩ = 1 := rfl
theorem sg_of {z : Str} (h : z.length = 1) : ∃ c, z = ⟨#[c]⟩ := by
  obtain ⟨⟨a⟩⟩ := z
  match a, h with
  | [c], _ => exact ⟨c, rfl⟩
theorem lenD_str {z : Str} {s : Store} (h : z.length ≤ 1000) : lenD [.str z] s = .ok (.int z.length) s := by
  show (if z.length ≤ LINE then (R.ok (D.int z.length) s : R D) else .bad) = _
  rw [if_pos (by unfold LINE; omega)]
theorem lenD_tup {xs : List D} {s : Store} : lenD [.tup xs] s = .ok (.int xs.length) s := rfl
theorem lenD_lst {xs : List D} {s : Store} : lenD [.lst xs] s = .ok (.int xs.length) s := rfl
theorem ixD_t0 {x : D} {xs : List D} {s : Store} : ixD (.tup (x :: xs)) (.int 0) s = .ok x s := by
  simp [ixD, atI_0]
theorem ixD_t1 {x y : D} {xs : List D} {s : Store} : ixD (.tup (x :: y :: xs)) (.int 1) s = .ok y s := by
  simp [ixD, atI_1]
theorem ixD_int {xs : List D} {i : Int} {s : Store} (h0 : 0 ≤ i) (h : i < xs.length) : ∃ x ∈ xs, ixD (.lst xs) (.int i) s = .ok x s := by
  obtain ⟨x, hx, e⟩ := atI_int xs i h0 h
  refine ⟨x, hx, ?_⟩
  simp [ixD, rdS, e]
theorem finL_ok {zs : List D} {s : Store} (h : zs.length ≤ 1000) : finL (.ok zs s) = .ok (.lst zs) s := by
  unfold finL
  simp only
  rw [if_pos (by unfold LINE; omega)]
theorem allD_map {α : Type} (f : α → Bool) (ys : List α) (s : Store) : allD [.lst (ys.map fun y => .bl (f y))] s = .ok (.bl (ys.all f)) s := by
  simp only [allD, rdS, bools_map, List.all_map]
  rfl
theorem anyD_map {α : Type} (f : α → Bool) (ys : List α) (s : Store) : anyD [.lst (ys.map fun y => .bl (f y))] s = .ok (.bl (ys.any f)) s := by
  simp only [anyD, rdS, bools_map, List.any_map]
  rfl
theorem sumD_map {α : Type} (f : α → Int) (ys : List α) (s : Store) : sumD [.lst (ys.map fun y => .int (f y))] s = .ok (.int (ys.map f).sum) s := by
  simp only [sumD, rdS, intsD_map]
theorem mulD_int {i j : Int} {s : Store} (h : 0 ≤ i ∧ i < 1000) : mulD (.int i) (.int j) s = .ok (.int (i * j)) s := by
  unfold mulD
  simp only
  rw [if_pos (.inl (by unfold BIG; omega))]
theorem fdivD_int {i j : Int} {s : Store} (h : 0 < j ∧ j ≤ 1000) : fdivD (.int i) (.int j) s = .ok (.int (i / j)) s := by
  unfold fdivD
  simp only
  rw [if_pos ⟨h.1, by omega⟩]
theorem modD_int {i j : Int} {s : Store} (h : 0 < j) : modD (.int i) (.int j) s = .ok (.int (i % j)) s := by
  unfold modD
  simp only
  rw [if_pos h]
theorem addD_int {i j : Int} {s : Store} : addD (.int i) (.int j) s = .ok (.int (i + j)) s := rfl
theorem subD_int {i j : Int} {s : Store} : subD (.int i) (.int j) s = .ok (.int (i - j)) s := rfl
theorem seq_ret {A B : SM} {env env1 : Env} {s s1 s2 : Store} {d : D} (h1 : A env s = .next env1 s1) (h2 : B env1 s1 = .ret d s2) : sSeq A B env s = .ret d s2 := by
  unfold sSeq
  rw [h1]
  exact h2
theorem body_ret {n : Nat} {m : SM} {ds : List D} {s s2 : Store} {d : D} (h : m (env0 n ds) s = .ret d s2) : bodyF n m ds s = .ok d s2 := by
  unfold bodyF
  rw [h]
theorem eqD_kind (neg : Bool) (a b : String) (s : Store) : eqD neg (.lst [.str (Str.ofString a)]) (.lst [.str (Str.ofString b)]) s = .ok (.bl (if neg then !decide (a = b) else decide (a = b))) s := by
  have e1 : ∀ a : String, res s (.lst [.str (Str.ofString a)]) = some (.lst [.str (Str.ofString a)]) := fun a => by simp [sub, subs]
  unfold eqD
  rw [e1, e1]
  simp only [layD, layDs, ofS_ok, depD, depDs, eqv, pyOf, pyOfs, PyData.eqv, PyData.eqvAll]
  have e : (Str.ofString a == Str.ofString b) = decide (a = b) := by
    by_cases h : a = b
    · rw [h]; simp
    · have : ¬ Str.ofString a = Str.ofString b := fun q => h ((ofS_inj a b).mp q)
      simp [h, this]
  rw [e]
  simp
theorem eqD_non (neg : Bool) (s : Store) : eqD neg .non .non s = .ok (.bl (!neg)) s := by
  unfold eqD
  rw [res_non]
  cases neg <;> simp [layD, depD, eqv, pyOf, PyData.eqv]
theorem joinD_all {z : Str} {zs : List Str} {s : Store} (h : (zs.map (·.length)).sum + zs.length * z.length ≤ 16777216) : joinD z (.lst (zs.map D.str)) s = .ok (.str (Txt.join z zs)) s := by
  have := strsD_map (fun x : Str => x) zs
  simp only [List.map_id'] at this
  simp only [joinD, rdS, this]
  rw [if_pos (show _ ≤ LINE from h)]
/-- a loop that keeps an invariant -/
theorem for_inv {g : GM} {body : SM} {a : List D × Option (Store → Prop)} {s : Store} (ok : okG a s) (I : Env → Prop) : ∀ (xs : List D) (env : Env), I env →
    (∀ x ∈ xs, ∀ env, I env → ∃ env1 env2, g x env s = .ok env1 s ∧ body env1 s = .next env2 s ∧ I env2) → ∃ env2, forD g body a xs env s = .next env2 s ∧ I env2
  | [], env, h, _ => ⟨env, by unfold forD; rw [if_pos ok], h⟩
  | x :: xs, env, h, hh => by
    obtain ⟨env1, env2, e1, e2, h2⟩ := hh x List.mem_cons_self env h
    obtain ⟨env3, e3, h3⟩ := for_inv ok I xs env2 h2 fun y hy => hh y (List.mem_cons_of_mem _ hy)
    refine ⟨env3, ?_, h3⟩
    unfold forD
    rw [if_pos ok, e1]
    simp only [R.bindS_ok, e2, loopB_next]
    exact e3
/-- .. that hangs on how many turns were made -/
theorem for_ind {g : GM} {body : SM} {a : List D × Option (Store → Prop)} {s : Store} (ok : okG a s) (I : Nat → Env → Prop) : ∀ (xs : List D) (i : Nat) (env : Env), I i env →
    (∀ j x, xs[j]? = some x → ∀ env, I (i + j) env → ∃ env1 env2, g x env s = .ok env1 s ∧ body env1 s = .next env2 s ∧ I (i + j + 1) env2) → ∃ env2, forD g body a xs env s = .next env2 s ∧ I (i + xs.length) env2
  | [], i, env, h, _ => ⟨env, by unfold forD; rw [if_pos ok], h⟩
  | x :: xs, i, env, h, hh => by
    obtain ⟨env1, env2, e1, e2, h2⟩ := hh 0 x rfl env h
    obtain ⟨env3, e3, h3⟩ := for_ind ok I xs (i + 1) env2 h2 fun j y hy env hi => by
      have e : i + 1 + j = i + (j + 1) := by omega
      rw [e] at hi ⊢
      exact hh (j + 1) y hy env hi
    refine ⟨env3, ?_, by have e : i + (x :: xs).length = i + 1 + xs.length := by simp only [List.length_cons]; omega
                         rw [e]; exact h3⟩
    unfold forD
    rw [if_pos ok, e1]
    simp only [R.bindS_ok, e2, loopB_next]
    exact e3
/-- a comprehension over what is made of ys -/
theorem lcD_by {α : Type} {t : Tgt} {tt : TM} {em : EM} {a : List D × Option (Store → Prop)} {env : Env} {s : Store} (g : okG a s) (m : α → D) (p : α → Bool) (f : α → D) : ∀ ys : List α,
    (∀ y ∈ ys, ∃ env1, setT t (m y) env = some env1 ∧ tt env1 s = .ok (p y) s ∧ (p y = true → em env1 s = .ok (f y) s)) → lcD t tt em a env (ys.map m) s = .ok ((ys.filter p).map f) s
  | [], _ => by unfold lcD; rw [List.map_nil]; simp only; rw [if_pos g]; rfl
  | y :: ys, h => by
    obtain ⟨env1, e1, e2, e3⟩ := h y List.mem_cons_self
    have ih := lcD_by g m p f ys fun y hy => h y (List.mem_cons_of_mem _ hy)
    rw [List.map_cons]
    unfold lcD
    rw [if_pos g, e1]
    simp only [e2, R.bind_ok]
    cases q : p y with
    | true =>
      rw [if_pos rfl, e3 q, List.filter_cons_of_pos q]
      simp only [R.bind_ok, ih, List.map_cons]
    | false =>
      rw [if_neg Bool.false_ne_true, List.filter_cons_of_neg (by rw [q]; exact Bool.false_ne_true)]
      exact ih
theorem eLc_by {α : Type} {t : Tgt} {vs : List Nat} {tt : TM} {em : EM} {im : IM} {env : Env} {s : Store} (m : α → D) (p : α → Bool) (f : α → D) (ys : List α) (hi : im env s = .ok (ys.map m, none) s) (hl : ys.length ≤ 1000)
    (h : ∀ y ∈ ys, ∃ env1, setT t (m y) (wipeE env vs) = some env1 ∧ tt env1 s = .ok (p y) s ∧ (p y = true → em env1 s = .ok (f y) s)) : eLc im t vs tt em env s = .ok (.lst ((ys.filter p).map f)) s := by
  unfold eLc
  rw [hi]
  simp only [R.bind_ok]
  rw [lcD_by (by simp) m p f ys h, finL_ok (by rw [List.length_map]; exact Nat.le_trans (List.length_filter_le _ _) hl)]
theorem filter_yes {α : Type} (ys : List α) : ys.filter (fun _ => true) = ys := List.filter_eq_self.mpr fun _ _ => rfl
theorem eLc_all {α : Type} {t : Tgt} {vs : List Nat} {em : EM} {im : IM} {env : Env} {s : Store} (m : α → D) (f : α → D) (ys : List α) (hi : im env s = .ok (ys.map m, none) s) (hl : ys.length ≤ 1000)
    (h : ∀ y ∈ ys, ∃ env1, setT t (m y) (wipeE env vs) = some env1 ∧ em env1 s = .ok (f y) s) : eLc im t vs tYesM em env s = .ok (.lst (ys.map f)) s := by
  have := eLc_by (tt := tYesM) m (fun _ => true) f ys hi hl fun y hy => by
    obtain ⟨env1, e1, e2⟩ := h y hy
    exact ⟨env1, e1, rfl, fun _ => e2⟩
  rw [filter_yes] at this
  exact this
end DE
/-! DEM: dicts with tuples for keys, items stored, places in texts and lists -/
namespace DE
open PySem PySem.Spec PyProof.Rows L2
theorem noTupK : ¬ TupK := fun h => h
def keysD : List D → Option (List Key)
  | [] => some []
  | d :: ds => match keyD d, keysD ds with
    | some k, some ks => some (k :: ks)
    | _, _ => none
def tupKey : D → Option (List Key)
  | .tup ds => keysD ds
  | _ => none
section
variable {K : PySem.W.Frag} {L : Lv} {H : Hp}
theorem keysD_ok : ∀ {ds : List D} {ks : List Key} {vs : List V}, keysD ds = some ks → RDs K L H ds vs → vs = ks.map kV
  | [], ks, vs, e, r => by
    cases e
    simp only [RDs] at r
    exact r
  | d :: ds, ks, vs, e, r => by
    simp only [RDs] at r
    obtain ⟨w, ws, rfl, r1, r2⟩ := r
    unfold keysD at e
    split at e
    · rename_i k ks' ek eks
      cases e
      rw [keyD_ok ek r1, keysD_ok eks r2]
      rfl
    · cases e
theorem tupKey_ok {d : D} {ks : List Key} {v : V} (e : tupKey d = some ks) (r : RD K L H d v) : ∃ b, v = .ref b ∧ H b = some (.tup (ks.map kV)) := by
  unfold tupKey at e
  split at e
  · simp only [RD] at r
    obtain ⟨a, vs, rfl, f, rs⟩ := r
    rcases f with ⟨_, _, f⟩ | ⟨q, _⟩
    · rw [keysD_ok e rs] at f
      exact ⟨a, rfl, f⟩
    · exact absurd q noTupK
  · cases e
end
def getT (ks : List (List Key)) (xs : List D) (k : List Key) : Option D := match ks, xs with
  | g :: ks, x :: xs => if g = k then some x else getT ks xs k
  | _, _ => none
def putT (ks : List (List Key)) (xs : List D) (k : List Key) (d : D) : List (List Key) × List D := match ks, xs with
  | g :: ks, x :: xs => if g = k then (g :: ks, d :: xs) else (g :: (putT ks xs k d).1, x :: (putT ks xs k d).2)
  | _, _ => ([k], [d])
section
variable {K : PySem.W.Frag} {L : Lv} {H : Hp}
theorem getT_ok : ∀ {ks : List (List Key)} {xs : List D} {vs : List V} {k : List Key}, ks.length = vs.length → RDs K L H xs vs → match getT ks xs k with
    | some d => ∃ v, valV (ks.zip vs) k = some v ∧ RD K L H d v
    | none => valV (ks.zip vs) k = none
  | [], xs, vs, k, _, _ => by simp [getT, valV]
  | g :: ks, [], vs, k, hl, r => by
    simp only [RDs] at r
    subst r
    simp at hl
  | g :: ks, x :: xs, vs, k, hl, r => by
    simp only [RDs] at r
    obtain ⟨w, ws, rfl, r1, r2⟩ := r
    unfold getT
    by_cases h : g = k
    · rw [if_pos h]
      exact ⟨w, by rw [List.zip_cons_cons]; exact valV_pos h, r1⟩
    · rw [if_neg h]
      have := getT_ok (k := k) (by simpa using hl) r2
      split at this
      · rename_i d e
        obtain ⟨v, e1, e2⟩ := this
        exact ⟨v, by rw [List.zip_cons_cons, valV_neg h]; exact e1, e2⟩
      · rename_i e
        rw [List.zip_cons_cons, valV_neg h]
        exact this
theorem putT_ok : ∀ {ks : List (List Key)} {xs : List D} {vs : List V} {k : List Key} {d : D} {v : V}, ks.Nodup → ks.length = vs.length → RDs K L H xs vs → RD K L H d v →
    ∃ vs', putK (ks.zip vs) k v = (putT ks xs k d).1.zip vs' ∧ (putT ks xs k d).1.length = vs'.length ∧ RDs K L H (putT ks xs k d).2 vs' ∧ (putT ks xs k d).1.Nodup ∧ ∀ g, g ∈ (putT ks xs k d).1 ↔ g ∈ ks ∨ g = k
  | [], xs, vs, k, d, v, nd, hl, r, rd => by
    have : vs = [] := by simpa using hl.symm
    subst this
    refine ⟨[v], by simp [putK, putT], by simp [putT], ?_, by simp [putT], by simp [putT]⟩
    simp only [putT]
    exact .cons rd .nil
  | g :: ks, [], vs, k, d, v, nd, hl, r, rd => by
    simp only [RDs] at r
    subst r
    simp at hl
  | g :: ks, x :: xs, vs, k, d, v, nd, hl, r, rd => by
    simp only [RDs] at r
    obtain ⟨w, ws, rfl, r1, r2⟩ := r
    have ⟨n1, n2⟩ := List.nodup_cons.mp nd
    have hl' : ks.length = ws.length := by simpa using hl
    by_cases h : g = k
    · subst h
      refine ⟨v :: ws, ?_, by simp [putT, hl'], ?_, by simpa [putT] using nd, by simp [putT]⟩
      · have e : (ks.zip ws).map (fun kv => if kv.1 = g then (kv.1, v) else kv) = ks.zip ws := by
          have : ∀ kv ∈ ks.zip ws, (if kv.1 = g then (kv.1, v) else kv) = kv := fun kv hm => by
            rw [if_neg]
            intro e
            exact n1 (e ▸ (List.of_mem_zip hm).1)
          rw [List.map_congr_left this, List.map_id']
        simp only [putT, if_true, List.zip_cons_cons, putK, List.any_cons, decide_true, Bool.true_or, List.map_cons, e]
      · simp only [putT, if_true]
        exact .cons rd r2
    · obtain ⟨vs', e1, e2, e3, e4, e5⟩ := putT_ok (k := k) (d := d) n2 hl' r2 rd
      refine ⟨w :: vs', ?_, ?_, ?_, ?_, ?_⟩
      · simp only [putT, if_neg h, List.zip_cons_cons]
        rw [← e1]
        unfold putK
        simp only [List.any_cons, List.map_cons, if_neg h]
        have hd : decide (g = k) = false := decide_eq_false h
        rw [hd, Bool.false_or]
        split <;> rfl
      · simp only [putT, if_neg h, List.length_cons, e2]
      · simp only [putT, if_neg h]
        exact .cons r1 e3
      · simp only [putT, if_neg h]
        refine List.nodup_cons.mpr ⟨fun hm => ?_, e4⟩
        rcases (e5 g).mp hm with q | q
        · exact n1 q
        · exact h q
      · intro g'
        simp only [putT, if_neg h, List.mem_cons, e5]
        exact ⟨fun q => by rcases q with q | q | q <;> simp [q], fun q => by rcases q with (q | q) | q <;> simp [q]⟩
end
/-- the dict of a live cell -/
def dT? (s : Store) : D → Option (Nat × List (List Key) × List D)
  | .ref l => match s[l]? with
    | some (.dT ks xs) => some (l, ks, xs)
    | _ => none
  | _ => none
theorem dT_ok {K : PySem.W.Frag} {ca : Nat → Addr} {L : Lv} {s : Store} {H : Hp} {d : D} {v : V} {l : Nat} {ks : List (List Key)} {xs : List D} (S : SR K ca L s H) (e : dT? s d = some (l, ks, xs)) (r : RD K L H d v) :
    ∃ a vs, d = .ref l ∧ v = .ref a ∧ L.rho[l]? = some a ∧ s[l]? = some (.dT ks xs) ∧ H a = some (.dT (ks.zip vs)) ∧ ks.length = vs.length ∧ RDs K L H xs vs := by
  unfold dT? at e
  split at e
  · rename_i l'
    split at e
    · rename_i ks' xs' ec
      simp only [Option.some.injEq, Prod.mk.injEq] at e
      obtain ⟨rfl, rfl, rfl⟩ := e
      simp only [RD] at r
      obtain ⟨a, rfl, ea⟩ := r
      obtain ⟨vs, h1, h2, h3⟩ := S.cell l' a _ ea ec
      exact ⟨a, vs, rfl, rfl, ea, ec, h1, h2, h3⟩
    · cases e
  · cases e
def dgetT : D → D → Store → R D := fun x y s => match dT? s x, tupKey y with
  | some (_, ks, xs), some k => match getT ks xs k with
    | some d => .ok d s
    | none => .bad
  | _, _ => .bad
def inTD (neg : Bool) : D → D → Store → R D := fun y x s => match dT? s x, tupKey y with
  | some (_, ks, xs), some k => .ok (.bl (if neg then !(getT ks xs k).isSome else (getT ks xs k).isSome)) s
  | _, _ => .bad
def lenTD : List D → Store → R D := fun xs s => match xs with
  | [x] => match dT? s x with
    | some (_, ks, _) => .ok (.int ks.length) s
    | none => .bad
  | _ => .bad
section
variable {X : Cx} {ca : Nat → Addr} {W : WX} {a b c e o : Expr} {ma mb mc m mo mv : EM} {pos pos' apos : Pos}
theorem de_dgetT (hu : X.A.units + 1 < cLine) (ha : DE X ca W a ma) (hb : DE X ca W b mb) (hs : NoSl b := by exact fun _ _ => rfl) : DE X ca W (.Subscript a b pos) (e2 dgetT ma mb) :=
  PE.imp (pe_dget hu ha hb hs) fun σ H Q ⟨L, env, s, S, e, q⟩ => ⟨L, env, s, S, e, q.bind.imp fun x H1 ⟨L1, s1, d1, k1, S1, r1, q1⟩ => ⟨L1, env, s1, S1, e.mono k1.mono, q1.bind.imp fun y H2 ⟨L2, s2, d2, k2, S2, r2, q2⟩ => by
    have r1' := RD.mono k2.mono _ _ r1
    unfold dgetT at q2
    split at q2
    · rename_i l ks xs k et ek
      obtain ⟨a, vs, _, rfl, ea, ec, h1, hl, rs⟩ := dT_ok S2 et r1'
      obtain ⟨bb, rfl, hb'⟩ := tupKey_ok ek r2
      have g := getT_ok (k := k) hl rs
      split at q2
      · rename_i d eg
        rw [eg] at g
        obtain ⟨v, ev, rv⟩ := g
        exact ⟨a, v, rfl, .inr ⟨_, k, bb, .inl h1, rfl, hb', ev.symm⟩, q2 L2 v _ Keep.refl S2 rv⟩
      · exact q2.elim
    · exact q2.elim⟩⟩
def rInT (neg : Bool) : R2 := fun y x H Q => ∃ a o, x = .ref a ∧ DGet H a y o ∧ Q (.bl (if neg then !o.isSome else o.isSome)) H
theorem op_inT (hu : X.A.units + 1 < cLine) : OpR X (compareOp .In) (rInT false) := fun pins s σ H y x v u Q I ry rx ⟨a, ov, ex, g, q⟩ => by
  subst ex
  obtain rfl : u = Value.ref a := rx
  exact d_in hu I g ry fun s3 I3 => ⟨.bl ov.isSome, H, I3, rfl, q⟩
theorem op_notInT (hu : X.A.units + 1 < cLine) : OpR X (compareOp .NotIn) (rInT true) := fun pins s σ H y x v u Q I ry rx ⟨a, ov, ex, g, q⟩ => by
  subst ex
  obtain rfl : u = Value.ref a := rx
  exact d_notIn hu I g ry fun s3 I3 => ⟨.bl (!ov.isSome), H, I3, rfl, q⟩
theorem imp_inT (neg : Bool) : Imp2 X.K ca (inTD neg) (rInT neg) := fun L H s y x v u Q E S ry rx q => by
  unfold inTD at q
  split at q
  · rename_i l ks xs k et ek
    obtain ⟨a, vs, _, rfl, ea, ec, h1, hl, rs⟩ := dT_ok S et rx
    obtain ⟨bb, rfl, hb'⟩ := tupKey_ok ek ry
    have g := getT_ok (k := k) hl rs
    refine ⟨a, valV (ks.zip vs) k, rfl, .inr ⟨_, k, bb, .inl h1, rfl, hb', rfl⟩, ?_⟩
    have e : (valV (ks.zip vs) k).isSome = (getT ks xs k).isSome := by
      cases eg : getT ks xs k with
      | some d => rw [eg] at g; obtain ⟨v, ev, _⟩ := g; rw [ev]; rfl
      | none => rw [eg] at g; rw [g]; rfl
    rw [e]
    exact q L (.bl _) H Keep.refl S rfl
  · exact q.elim
theorem imp_lenT : ImpC X.K ca lenTD rLenT := by
  intro L H s xs vs Q E S h p
  unfold lenTD at p
  split at p
  · split at p
    · rename_i l ks ys et
      obtain ⟨v, rfl, r⟩ := h.one
      obtain ⟨a, vs, _, rfl, ea, ec, h1, hl, rs⟩ := dT_ok S et r
      refine ⟨a, _, rfl, h1, ?_⟩
      rw [List.length_zip, ← hl, Nat.min_self]
      exact p L _ H Keep.refl S rfl
    · exact p.elim
  · exact p.elim
/-- d.get(k, x) -/
def eGet2 (mo m mx : EM) : EM := fun env s => (mo env s).bind fun o s => match dT? s o with
  | some _ => (m env s).bind fun y s => (mx env s).bind fun z s => match dT? s o, tupKey y with
    | some (_, ks, xs), some k => .ok ((getT ks xs k).getD z) s
    | _, _ => .bad
  | none => .bad
theorem de_get2 (hu : X.A.units + 1 < cLine) (ho : DE X ca W o mo) (he : DE X ca W a ma) (hx : DE X ca W b mb)
    (hbase : attributeBase o "get" X.env (eval o X.env) = eval o X.env := by rfl)
    (few : ((backTo pos (starEach [a, b] X.env)).all (fun x => !x.1) && (backToKw pos (keywordEach [] X.env)).all (fun x => x.1.isSome)
      && decide (([a, b] : List Expr).length + ([] : List Keyword).length + (if ([] : List Keyword).isEmpty then 0 else 1) < 30)) = true := by rfl) (hline : (apos.endLine == pos.line) = true := by rfl)
    (trees : backTo pos (starEach [a, b] X.env) = [(false, eval a X.env), (false, eval b X.env)] := by rfl) : DE X ca W (.Call (.Attribute o "get" apos) [a, b] [] pos) (eGet2 mo ma mb) :=
  PE.imp (pe_dget2 hu ho he hx ⟨hbase, few, hline, trees⟩) fun σ H Q ⟨L, env, s, S, ee, q⟩ => ⟨L, env, s, S, ee, q.bind.imp fun x H1 ⟨L1, s1, d1, k1, S1, r1, q1⟩ => by
    split at q1
    case h_2 => exact q1.elim
    rename_i t et
    obtain ⟨l, ks, xs⟩ := t
    obtain ⟨A, vs, _, rfl, ea, ec, h1, hl, rs⟩ := dT_ok S1 et r1
    refine ⟨A, rfl, .inr ⟨_, .inl h1⟩, L1, env, s1, S1, ee.mono k1.mono, q1.bind.imp fun y H2 ⟨L2, s2, d2, k2, S2, r2, q2⟩ => ⟨L2, env, s2, S2, (ee.mono k1.mono).mono k2.mono, q2.bind.imp fun z H3 ⟨L3, s3, d3, k3, S3, r3, q3⟩ => ?_⟩⟩
    have r1' := RD.mono (k2.trans k3).mono _ _ r1
    have r2' := RD.mono k3.mono _ _ r2
    split at q3
    case h_2 => exact q3.elim
    rename_i l' ks' xs' k et' ek
    obtain ⟨A', vs', _, e', ea', ec', h1', hl', rs'⟩ := dT_ok S3 et' r1'
    cases e'
    obtain ⟨bb, rfl, hb'⟩ := tupKey_ok ek r2'
    have g := getT_ok (k := k) hl' rs'
    refine ⟨valV (ks'.zip vs') k, .inr ⟨_, k, bb, .inl h1', rfl, hb', rfl⟩, ?_⟩
    cases eg : getT ks' xs' k with
    | some d =>
      rw [eg] at g q3
      obtain ⟨v, ev, rv⟩ := g
      rw [ev]
      exact q3 L3 v _ Keep.refl S3 rv
    | none =>
      rw [eg] at g q3
      rw [g]
      exact q3 L3 z _ Keep.refl S3 r3⟩
/-- {} that is changed, tuples for keys -/
def eNewDT : EM := fun _ s => .ok (.ref s.length) (s ++ [.dT [] []])
theorem de_newDT : DE X ca W (.Dict [] [] pos) eNewDT := PE.imp pe_dnewT fun σ H Q ⟨L, env, s, S, e, q⟩ => fun p hp => by
  obtain ⟨k, S'⟩ := S.alloc hp (o := .dT []) (c := .dT [] []) ⟨[], upd_same, rfl, .nil⟩
  exact q _ (.ref p) _ k S' (by simp only [RD]; exact ⟨p, rfl, by rw [← S.len]; simp⟩)
/-- d[k] = x, such a dict -/
noncomputable def gPutT (mo mi : EM) : GM := fun d env s => (mo env s).bind fun o s => (mi env s).bind fun y s => match dT? s o, tupKey y with
  | some (l, ks, xs), some k => @ite (R _) (ks.Nodup ∧ ks.length < 1000000) (Classical.propDecidable _) (.ok env (s.set l (.dT (putT ks xs k d).1 (putT ks xs k d).2))) .bad
  | _, _ => .bad
theorem dg_putT (hu : X.A.units + 1 < cLine) (ho : DE X ca W o mo) (hi : DE X ca W a ma)
    (ha : ∀ v, assign (.Subscript o a pos) X.env v = (do
      let ov ← holding [v] (eval o X.env)
      let iv ← holding [v, ov] (eval a X.env)
      standAt pos
      holding [v, ov, iv] (setItem ov iv v)
      release [v, ov, iv] []) := by intro _; rfl) : DG X ca W (.Subscript o a pos) (gPutT mo ma) :=
  PG.imp (pg_sub ho hi (set_dict hu) ha) fun v σ H Q ⟨L, env, s, d, S, e, r, q⟩ => ⟨L, env, s, S, e, q.bind.imp fun x H1 ⟨L1, s1, d1, k1, S1, r1, q1⟩ => ⟨L1, env, s1, S1, e.mono k1.mono, q1.bind.imp fun y H2 ⟨L2, s2, d2, k2, S2, r2, q2⟩ => by
    have r1' := RD.mono k2.mono _ _ r1
    have r' := RD.mono (k1.trans k2).mono _ _ r
    split at q2
    case h_2 => exact q2.elim
    rename_i l ks xs k et ek
    split at q2
    case isFalse => exact q2.elim
    rename_i hnd
    obtain ⟨A, vs, _, rfl, ea, ec, h1, hl, rs⟩ := dT_ok S2 et r1'
    obtain ⟨bb, rfl, hb'⟩ := tupKey_ok ek r2
    obtain ⟨vs', e1, e2, e3, e4, e5⟩ := putT_ok (k := k) hnd.1 hl rs r'
    have hu2 : Mono L2 H2 L2 (upd H2 A (.dT (putK (ks.zip vs) k v))) := ⟨List.prefix_refl _, fun b u eb hb1 hb2 => ⟨by rw [upd_ne (show b ≠ A from fun z => hb1 (by rw [z]; exact List.mem_of_getElem? ea))]; exact eb, hb1, hb2⟩⟩
    obtain ⟨kw, Sw⟩ := S2.write ea (o := .dT (putK (ks.zip vs) k v)) (c := .dT (putT ks xs k d).1 (putT ks xs k d).2) ⟨vs', by rw [e1]; exact upd_same, e2, RDs.mono hu2 _ _ e3⟩
    refine ⟨A, _, rfl, .inr ⟨_, k, bb, h1, rfl, hb', ?_, rfl⟩, ?_⟩
    · rw [List.length_zip, ← hl, Nat.min_self]
      exact Nat.lt_of_lt_of_le hnd.2 (by decide)
    · exact q2 L2 σ _ kw Sw ((e.mono (k1.trans k2).mono).mono kw.mono)⟩⟩
/-- l[i] = x, l a live list -/
def gSetL (mo mi : EM) : GM := fun d env s => (mo env s).bind fun o s => (mi env s).bind fun y s => match o, y with
  | .ref l, .int i => match s[l]? with
    | some (.lst xs) => match ixN xs.length i with
      | some j => .ok env (s.set l (.lst (xs.set j d)))
      | none => .bad
    | _ => .bad
  | _, _ => .bad
theorem dg_setL (ho : DE X ca W o mo) (hi : DE X ca W a ma)
    (ha : ∀ v, assign (.Subscript o a pos) X.env v = (do
      let ov ← holding [v] (eval o X.env)
      let iv ← holding [v, ov] (eval a X.env)
      standAt pos
      holding [v, ov, iv] (setItem ov iv v)
      release [v, ov, iv] []) := by intro _; rfl) : DG X ca W (.Subscript o a pos) (gSetL mo ma) :=
  PG.imp (pg_sub ho hi set_list ha) fun v σ H Q ⟨L, env, s, d, S, e, r, q⟩ => ⟨L, env, s, S, e, q.bind.imp fun x H1 ⟨L1, s1, d1, k1, S1, r1, q1⟩ => ⟨L1, env, s1, S1, e.mono k1.mono, q1.bind.imp fun y H2 ⟨L2, s2, d2, k2, S2, r2, q2⟩ => by
    have r1' := RD.mono k2.mono _ _ r1
    have r' := RD.mono (k1.trans k2).mono _ _ r
    split at q2
    case h_2 => exact q2.elim
    rename_i l i _
    split at q2
    case h_2 => exact q2.elim
    rename_i xs ec
    split at q2
    case h_2 => exact q2.elim
    rename_i j ej
    simp only [RD] at r1' r2
    subst r2
    obtain ⟨A, rfl, ea⟩ := r1'
    obtain ⟨vs, h1, rs⟩ := S2.cell l A _ ea ec
    obtain ⟨kw, Sw⟩ := write_lst S2 ea (rs.set r' j)
    exact ⟨A, vs, i, j, rfl, rfl, h1, by rw [← rs.length]; exact ej, q2 L2 σ _ kw Sw ((e.mono (k1.trans k2).mono).mono kw.mono)⟩⟩⟩
end
end DE
/-! DEN: a display with a tuple for its key; enumerate of a text; zip -/
namespace DE
open PySem PySem.Spec PyProof.Rows L2
section
variable {X : Cx} {ca : Nat → Addr} {W : WX} {a b c e o : Expr} {ma mb mc m mo mv : EM} {pos pos' apos tpos p : Pos}
/-! ### {(x, y): v} -/
def tDispT (tk tv : TE) : TE := fun σ H Q => ∀ p, H p = none → tk σ (upd H p (.dT [])) fun x H1 => tv σ H1 fun y H2 => ∃ bb k, x = .ref bb ∧ H2 bb = some (.tup (k.map kV)) ∧ H2 p = some (.dT []) ∧ Q (.ref p) (upd H2 p (.dT [(k, y)]))
theorem pe_dispT {tk tv : TE} (hu : X.A.units + 1 < cLine) (hk : PE X a tk) (hv : PE X b tv) : PE X (.Dict [some a] [b] pos) (tDispT tk tv) := by
  refine ⟨fun pins s σ H Q I q => ?_⟩
  have I1 := I.laid (a := s.heap.objs.size) (o := .dT []) (h' := s.heap.push { cls := .type "dict", data := .dict #[] }) (t' := s.toks) (fun _ _ q => Heap.get?_push_of_some _ q) (Nat.le_refl _) (dt_empty s.heap I.big)
  have hq : tPairs [(tk, tv)] σ (upd H s.heap.objs.size (.dT [])) (fun ps H2 => match ps with
    | [(x, y)] => ∃ bb k, x = .ref bb ∧ H2 bb = some (.tup (k.map kV)) ∧ H2 s.heap.objs.size = some (.dT []) ∧ Q (.ref s.heap.objs.size) (upd H2 s.heap.objs.size (.dT [(k, y)]))
    | _ => False) := q _ (I.hok.fresh (Nat.le_refl _))
  refine wpAny_Dict_any rfl rfl (by simp) (by simp) (thn ((pps_cons hk hv pps_nil).run pins _ σ _ _ I1 hq) fun ws s2 ⟨ps, H2, I2, rel, q2⟩ => ?_)
  split at q2
  case h_2 => exact q2.elim
  rename_i x y
  obtain ⟨bb, k, rfl, hb, hp, q3⟩ := q2
  cases rel with
  | @cons pp uv _ _ r0 rr =>
    cases rr
    obtain ⟨u, w⟩ := uv
    obtain ⟨ru, rw'⟩ := r0
    cases (show u = Value.ref bb from ru)
    obtain ⟨z, hd, xs, rel, dd⟩ := dt_of I2.hok hp
    have hx : xs = [] := by
      have := Paired.length rel
      simpa using this.symm
    subst hx
    unfold storeAll
    rw [List.forIn_cons]
    refine wpAny_bind (wpAny_bind (wpAny_dictSet_heap (hsz := Nat.zero_le _) (show (tupleKind (mixKind X.prog X.w)).room X.A from ?_) (key_of I2.hok hb) dd fun h' dd' hs => wpAny_pure ?_))
    · show X.A.units < cLine
      omega
    · show wpAny _ _ (forIn [] _ _) _ _ _
      rw [List.forIn_nil]
      refine wpAny_pure ⟨.ref s.heap.objs.size, _, ?_, rfl, q3⟩
      obtain ⟨qo, es, ep, hqo, h2, h3, h4, h6, h5⟩ := dd'
      have rput : KT H2 (putK ([] : List (List Key × V)) k y) (storedH [] k bb w) := rel.put k hb rw'
      refine d_write I2 (by rw [hp]; exact True.intro) hs ⟨qo, hqo⟩ ⟨Nat.succ_le_of_lt (by decide), hd, _, KT.keeps (H' := upd H2 s.heap.objs.size (.dT [(k, y)])) rput fun cc ys ec => ?_, qo, es, ep, hqo, h2, h3, h4, h5⟩
      rw [upd_ne (ne_of ec hp (fun z => nomatch z))]
      exact ec
/-- {y: d} that is changed, y a tuple -/
def eDisT (mk mv : EM) : EM := fun env s => (mk env s).bind fun y s => (mv env s).bind fun d s => match tupKey y with
  | some k => .ok (.ref s.length) (s ++ [.dT [k] [d]])
  | none => .bad
theorem keep_shut {L : Lv} {H : Hp} {p : Addr} {o : HO} (hp : H p = none) {L1 : Lv} {H1 : Hp} (k : Keep ⟨L.rho, p :: L.pi⟩ (upd H p o) L1 H1) : Keep L H ⟨L1.rho, L.pi⟩ H1 := ⟨rfl, k.rho, fun b u eb hb => k.keep b u (by rw [upd_ne (ne_of_none eb hp)]; exact eb) hb⟩
theorem de_disT (hu : X.A.units + 1 < cLine) (ha : DE X ca W a ma) (hb : DE X ca W b mb) : DE X ca W (.Dict [some a] [b] pos) (eDisT ma mb) :=
  PE.imp (pe_dispT hu ha hb) fun σ H Q ⟨L, env, s, S, e, q⟩ => fun p hp => by
    obtain ⟨kk, SS⟩ := S.new hp (.dT [])
    have f := S.fresh hp
    have S0 : SR X.K ca ⟨L.rho, p :: L.pi⟩ s (upd H p (.dT [])) := ⟨SS.len, SS.nd, fun l bq c e1 e2 => (S.cell l bq c e1 e2).mono (L2 := ⟨L.rho, p :: L.pi⟩) ⟨List.prefix_refl _, fun b' o eb h1 h2 => ⟨by rw [upd_ne (ne_of_none eb hp)]; exact eb, h1, by
        simp only [List.mem_cons, not_or]; exact ⟨ne_of_none eb hp, h2⟩⟩⟩ (by
        obtain ⟨u, hu⟩ := (S.cell l bq c e1 e2).some
        rw [upd_ne (ne_of_none hu hp)]), fun bq hbq => by
        rcases List.mem_cons.mp hbq with rfl | hbq
        · exact ⟨f.1, _, upd_same⟩
        · exact SS.pi bq hbq⟩
    have m0 : Mono L H ⟨L.rho, p :: L.pi⟩ (upd H p (.dT [])) := ⟨List.prefix_refl _, fun bq o eb h1 h2 => ⟨by rw [upd_ne (ne_of_none eb hp)]; exact eb, h1, by simp only [List.mem_cons, not_or]; exact ⟨ne_of_none eb hp, h2⟩⟩⟩
    refine ⟨⟨L.rho, p :: L.pi⟩, env, s, S0, e.mono m0, ?_⟩
    unfold eDisT at q
    cases em : ma env s with
    | bad => rw [em] at q; exact q.elim
    | exc c s1 =>
      rw [em] at q
      intro L1 H1 k1 S1
      obtain ⟨rho1, pi1⟩ := L1
      cases (k1.pi : pi1 = p :: L.pi)
      exact q ⟨rho1, L.pi⟩ H1 (keep_shut hp k1) S1.open
    | ok y s1 =>
      rw [em] at q
      simp only [R.bind_ok] at q
      intro L1 x H1 k1 S1 r1
      refine ⟨L1, env, s1, S1, (e.mono m0).mono k1.mono, ?_⟩
      cases em2 : mb env s1 with
      | bad => rw [em2] at q; exact q.elim
      | exc c s2 =>
        rw [em2] at q
        intro L2 H2 k2 S2
        have k12 := k1.trans k2
        obtain ⟨rho2, pi2⟩ := L2
        cases (k12.pi : pi2 = p :: L.pi)
        exact q ⟨rho2, L.pi⟩ H2 (keep_shut hp k12) S2.open
      | ok d s2 =>
        rw [em2] at q
        simp only [R.bind_ok] at q
        intro L2 v H2 k2 S2 r2
        have k12 := k1.trans k2
        have r1' := RD.mono k2.mono _ _ r1
        obtain ⟨rho2, pi2⟩ := L2
        cases (k12.pi : pi2 = p :: L.pi)
        have k0 := k12.keep p _ upd_same f.1
        split at q
        case h_2 => exact q.elim
        rename_i k ek
        obtain ⟨bb, rfl, hbb⟩ := tupKey_ok ek r1'
        refine ⟨bb, k, rfl, hbb, k0.1, ?_⟩
        obtain ⟨S3, m3⟩ := S2.poke List.mem_cons_self (.dT [(k, v)])
        have S4 := S3.adopt f.2 (c := .dT [k] [d]) ⟨[v], upd_same, rfl, .cons (RD.mono mo_adopt _ _ (RD.mono m3 _ _ r2)) .nil⟩
        refine q ⟨rho2 ++ [p], L.pi⟩ (.ref p) _ ⟨rfl, ?_, fun bq o eb hbq => ?_⟩ S4 ?_
        · exact List.IsPrefix.trans k12.rho (List.prefix_append _ _)
        · have hne : bq ≠ p := ne_of_none eb hp
          have := k12.keep bq o (by rw [upd_ne hne]; exact eb) hbq
          refine ⟨by rw [upd_ne hne]; exact this.1, fun hm => ?_⟩
          rcases List.mem_append.mp hm with hm | hm
          · exact this.2 hm
          · exact hne (by simpa using hm)
        · simp only [RD]
          refine ⟨p, rfl, ?_⟩
          have hl := S2.len
          simp only at hl
          rw [← hl]
          simp
end
end DE
/-! DEP: enumerate of a text; zip -/
namespace DE
open PySem PySem.Spec PyProof.Rows L2
/-- a text's signs, numbered -/
def IteS (z : Str) : It := ⟨fun i _ => i < z.cps.size, fun i H v H' => ∃ T c, v = .ref T ∧ H T = none ∧ H' = upd H T (.tup [.int (i : Nat), .str ⟨#[c]⟩]) ∧ z.cps[i]? = some c, fun i _ => z.cps.size ≤ i⟩
theorem drawsS {prog : Program} {w : World} {A : Around} (hh : A.handled = none) (it : Addr) (x : Str) (t : Tok) :
    Draws prog w A it [it] x.cps.size (fun i v => ∃ c u, x.cps[i]? = some c ∧ v = .str ⟨#[c]⟩ u) (fun i h => h.IsStrIter it (strIterType x) x t i) := by
  by_cases ha : strIterType x = "str_ascii_iterator"
  · rw [ha]; exact Draws.strAscii hh it x t
  · have : strIterType x = "str_iterator" := by
      unfold strIterType at ha ⊢
      split
      · rename_i q; exact absurd (by rw [if_pos q]) ha
      · rfl
    rw [this]; exact Draws.strWide hh it x t
theorem turn_enumS {P : Program} {w : World} {K : PySem.W.Frag} {elts : List Expr} {kk : Nat} {tpos : Pos} (e it : Addr) (z : Str) (t : Tok) :
    Turn P w K (.Tuple elts kk tpos) (IteS z) [e, it] e (fun i h => (∃ old, IsEnum h e it ((i : Nat) : Int) old) ∧ h.IsStrIter it (strIterType z) z t i ∧ e ≠ it ∧ i ≤ z.cps.size) where
  mem := by simp
  obj := fun i h st b hb => by
    obtain ⟨⟨old, he⟩, ⟨o, ho, _, hd⟩, _⟩ := st
    rcases List.mem_cons.mp hb with q | hb
    · rw [q]
      exact ⟨_, he, fun v q => nomatch q⟩
    · have q : b = it := by simpa using hb
      rw [q]
      exact ⟨o, ho, fun v q => by rw [hd] at q; cases q⟩
  keep := fun i h h' ⟨⟨old, he⟩, ⟨o, ho, r⟩, hne, hle⟩ k => ⟨⟨old, k e (by simp) _ he⟩, ⟨o, k it (by simp) o ho, r⟩, hne, hle⟩
  item := by
    intro X hP hw hK hc i pins s σ H E I hf st hg
    subst hP hw hK
    obtain ⟨⟨old, he⟩, hit, hne, hle⟩ := st
    have hh : X.A.in1.handled = none := I.ok.hd hc
    have hel := Heap.lt_size he
    have hil : it < s.heap.objs.size := by obtain ⟨_, q, _⟩ := hit; exact Heap.lt_size q
    refine wpAny_pyNext_enum_itemD (drawsS hh it z t) he hit hg hne (by simpa using hne) fun x h' tk hx ho hit' hT hsz hk => ?_
    obtain ⟨c, u, hcz, rfl⟩ := hx
    refine ⟨_, rfl, wpAny_letOwnedTupleGo_enum (s := { s with heap := h', toks := tk + 1 }) ho fun h2 he2 sb => ?_⟩
    have hT2 := (sb.2 _ (Nat.ne_of_gt hel)).trans hT
    have I1 : L2.Inv X pins σ (upd H s.heap.objs.size (.tup [.int (i : Nat), .str ⟨#[c]⟩])) { s with heap := h2, toks := tk + 1 } :=
      I.turnedNew (ch := [e, it]) (fun b o hb q => (sb.2 b fun z => hb (by simp [z])).trans (hk b o (fun z => hb (by simp [z])) (fun z => hb (by simp [z])) q)) hf (Nat.le_refl _)
        ⟨by show 2 ≤ sizeLine; decide, [.int i tk, .str ⟨#[c]⟩ u], .cons ⟨_, rfl⟩ (.cons ⟨_, rfl⟩ .nil), ⟨_, hT2, rfl, _, rfl⟩⟩
    refine ⟨.ref s.heap.objs.size, _, I1, rfl, ⟨_, c, rfl, I.hok.fresh (Nat.le_refl _), rfl, hcz⟩, ⟨⟨.str ⟨#[c]⟩ u, ?_⟩, ?_, hne, hg⟩, fun b hb => ?_⟩
    · have e1 : ((i + 1 : Nat) : Int) = (i : Int) + 1 := by omega
      rw [e1]
      exact he2
    · obtain ⟨o, hoo, r⟩ := hit'
      exact ⟨o, (sb.2 it (Ne.symm hne)).trans hoo, r⟩
    · have hlt : b < s.heap.objs.size := by
        rcases List.mem_cons.mp hb with q | hb
        · rw [q]; exact hel
        · have q : b = it := by simpa using hb
          rw [q]; exact hil
      rw [upd_ne (Nat.ne_of_lt hlt)]
      exact (hf b hb).1
  done := by
    intro X hP hw hK hc i pins s σ H E I hf st hg
    subst hP hw hK
    obtain ⟨⟨old, he⟩, hit, hne, hle⟩ := st
    obtain ⟨f0, f1, f2, f3, f4, f5⟩ := hf it (by simp)
    have hh : X.A.in1.handled = none := I.ok.hd hc
    have hn : i = z.cps.size := Nat.le_antisymm hle hg
    subst hn
    exact wpAny_pyNext_enum_endD (drawsS hh it z t) he hit fun h' eb => ⟨rfl, I.turned (t' := s.toks) (fun b o hb q => eb b o hb q) f0 f1 f3 f4 f5⟩
  self := fun A i s Q E st h => wpAny_pyIter_enum st.1.choose_spec h
/-- enumerate(text) -/
def iEnumS (ta : TA) : TI := fun σ H R => ta σ H fun vs H1 => ∃ z, vs = [.str z] ∧ R (IteS z) H1
theorem pi_enumS {X : Cx} {e : Expr} {ta : TA} {p pos tpos : Pos} {elts : List Expr} {kk : Nat} (hg : Gl X "enumerate") (hm : X.mg "enumerate" = none) (ha : PA X [e] ta) (hs : starEach [e] X.env = [(false, eval e X.env)] := by rfl) :
    PI X (.Tuple elts kk tpos) (.Call (.Name "enumerate" p) [e] [] pos) (iEnumS ta) := by
  constructor
  intro pins s σ H R I h
  refine Call_ (ld_blt I hg hm boot_enumerate (PyProof.Rows.callWith_type1 (thn (ha.run pos pins s σ H _ I h) fun us s1 ⟨vs, H1, I1, r1, z, ex, q⟩ => ?_) hs rfl))
  subst ex
  cases r1 with
  | cons r rr =>
    obtain ⟨t, et⟩ := r
    subst et
    cases rr
    have en : s1.heap.objs.size + 1 ≠ s1.heap.objs.size := by omega
    refine call_enumerate_str fun g eg ig _ kg => wpAny_pyIter_enum eg ?_
    have I2 : Inv X pins σ H1 { s1 with heap := g } := I1.kept (t' := s1.toks) kg
    refine ⟨_, [s1.heap.objs.size + 1, s1.heap.objs.size], _, _, H1, rfl, I2, turn_enumS (s1.heap.objs.size + 1) s1.heap.objs.size z t, ⟨⟨Value.none, eg⟩, ig, en, Nat.zero_le _⟩, ?_, q⟩
    intro b hb
    have le : s1.heap.objs.size ≤ b := by
      simp only [List.mem_cons, List.not_mem_nil, or_false] at hb
      rcases hb with y | y
      · rw [y]; exact Nat.le_add_right _ _
      · rw [y]; exact Nat.le_refl _
    exact I1.fpOk le (I1.hok.fresh le)
section
variable {X : Cx} {ca : Nat → Addr} {W : WX} {e a b : Expr} {ms : AM} {pos p tpos : Pos} {elts : List Expr} {kk : Nat}
/-- a text's signs with their numbers -/
def numS (z : Str) : List D := (List.range z.cps.size).map fun i => .tup [.int (i : Nat), .str ⟨#[z.cps.getD i 0]⟩]
def itEnumS (ms : AM) : IM := fun env s => (ms env s).bind fun ds s => match ds with
  | [.str z] => .ok (numS z, none) s
  | _ => .bad
theorem walks_numS {K : PySem.W.Frag} {L : Lv} {H : Hp} (z : Str) : Walks K ca L H (numS z, none) (IteS z) := fun L2 s2 H2 k S g i => by
  unfold numS
  refine ⟨fun d ed => ?_, fun hl => ?_⟩
  rotate_left
  · show z.cps.size ≤ i
    simpa using hl
  rw [List.getElem?_map] at ed
  by_cases hi : i < z.cps.size
  · rw [List.getElem?_range hi] at ed
    have ed : D.tup [.int (i : Nat), .str ⟨#[z.cps.getD i 0]⟩] = d := by simpa using ed
    subst ed
    refine ⟨hi, fun x H3 ⟨T, c, ex, eT, eH, ec⟩ => ?_⟩
    subst ex; subst eH
    obtain ⟨kp, S3⟩ := S.new eT (.tup [.int (i : Nat), .str ⟨#[c]⟩])
    have hc : z.cps.getD i 0 = c := by rw [Array.getD_eq_getD_getElem?, ec]; rfl
    rw [hc]
    obtain ⟨n1, n2⟩ := S.fresh eT
    exact ⟨kp, S3, T, _, rfl, .inl ⟨n1, n2, upd_same⟩, .cons rfl (.cons rfl .nil)⟩
  · rw [List.getElem?_eq_none (by simpa using hi)] at ed; cases ed
theorem di_enumS (hm : X.mg "enumerate" = none) (ha : DA X ca W [a] ms) (hg : Gl X "enumerate" := by rfl) (hs : starEach [a] X.env = [(false, eval a X.env)] := by rfl) : DI X ca W (.Tuple elts kk tpos) (.Call (.Name "enumerate" p) [a] [] pos) (itEnumS ms) :=
  PI.imp (pi_enumS hg hm ha hs) fun σ H Q ⟨L, env, s, S, e, p⟩ => ⟨L, env, s, S, e, p.bind.imp fun vs H1 ⟨L1, s1, ds, k1, S1, r1, p1⟩ => by
    split at p1
    · obtain ⟨v, rfl, r⟩ := r1.one
      simp only [RD] at r
      subst r
      exact ⟨_, rfl, p1 L1 _ H1 Keep.refl S1 (walks_numS _)⟩
    · exact p1.elim⟩
end
end DE
/-! DEQ: zip of two live lists; a pair for each turn, or a name that keeps it -/
namespace DE
open PySem PySem.Spec PyProof.Rows L2
/-- a zip, whatever it says of the tuple it gave out -/
abbrev ZipAs (h : Heap) (z p r : Addr) (x y : Value) : Prop := h.get? z = some { cls := .type "zip", dict := none, data := .fields #[x, y, .bool false, .ref p, .ref r], slots := #[] }
section
variable {prog : Program} {w : World} {A : Around} {E : Value → Shared → Prop} {s : Shared}
/-- the tuple that was given out is no more -/
theorem free_gone {z p r T : Addr} {f : Bool} {Q : Bool → Shared → Prop} (hz : ZipAs s.heap z p r (rawInt T) (.bool f)) (no : s.heap.get? T = none) (q : Q true s) :
    wpAny (model prog w) A (Builtin.SmallTypes.ownedTupleIsFree (.ref z)) Q E s := by
  unfold Builtin.SmallTypes.ownedTupleIsFree
  refine wpAny_bind (wpAny_field hz rfl (x := rawInt T) rfl ?_)
  show wpAny (model prog w) A (loadIfAlive ((T : Int).toNat) >>= _) _ E s
  rw [Int.toNat_natCast]
  have al : ∀ R : Option Obj → Shared → Prop, R none s → wpAny (model prog w) A (loadIfAlive T) R E s := fun R k => by
    have k2 : R (s.heap.get? T) s := by rw [no]; exact k
    exact fun _ _ _ => k2
  exact wpAny_bind (al _ (wpAny_pure q))
/-- the next pair, where that tuple is no more -/
theorem gone_item {z p r m n l1 l2 T : Addr} {f : Bool} {i j : Nat} {xs ys : Array Value} {x y x0 y0 : Value} {Q : Value → Shared → Prop} (G : ZipApart z p r m n l1 l2) (no : s.heap.get? T = none)
    (az : ZipAs s.heap z p r (rawInt T) (.bool f)) (ap : IsPair s.heap p (.ref m) (.ref n)) (ar : IsPair s.heap r x0 y0)
    (am : s.heap.IsListIter m l1 i) (an : s.heap.IsListIter n l2 j) (k1 : s.heap.IsList l1 xs) (k2 : s.heap.IsList l2 ys) (ex : xs[i]? = some x) (ey : ys[j]? = some y)
    (fin : ∀ g, ZipAs g z p r (rawInt s.heap.objs.size) (.bool false) → IsPair g r x y → g.IsListIter m l1 (i + 1) → g.IsListIter n l2 (j + 1) → IsPair g s.heap.objs.size x y → g.objs.size = s.heap.objs.size + 1 →
      (∀ c o, c ≠ z → c ≠ r → c ≠ m → c ≠ n → s.heap.get? c = some o → g.get? c = some o) → Q (.ref s.heap.objs.size) { s with heap := g }) :
    wpAny (model prog w) A (Builtin.«zip.__next__» ⟨[.ref z], []⟩) (fun v s' => ∃ u, v = .done (.ret u) ∧ Q u s') E s := by
  change wpAny (model prog w) A (field (.ref z) 2 >>= _) _ E s
  refine wpAny_bind (wpAny_field az rfl (x := .bool false) rfl ?_)
  change wpAny (model prog w) A (field (.ref z) 3 >>= _) _ E s
  refine wpAny_bind (wpAny_field az rfl (x := .ref p) rfl (wpAny_bind (wpAny_seqItems ap rfl ?_)))
  change wpAny (model prog w) A (Builtin.SmallTypes.ownedTupleIsFree (.ref z) >>= _) _ E s
  refine wpAny_bind (free_gone az no ?_)
  simp only [if_true]
  refine wpAny_bind (wpAny_rule (wpAny_bind (wpAny_field az rfl (x := .ref r) rfl ?_)))
  refine wpAny_bind (wpAny_setField_rec az (by simp) fun g1 u1 b1 => ?_)
  have z1 : ZipAs g1 z p r .ellipsis (.bool f) := u1
  refine wpAny_bind ?_
  simp only [List.forIn_cons, List.forIn_nil, List.zipIdx_cons, List.zipIdx_nil]
  refine wpAny_bind (wpAny_bind (wpAny_onRaise ?_))
  change wpAny (model prog w) A (Builtin.SmallTypes.nextOf (.ref m) >>= _) _ _ _
  refine wpAny_bind (wpAny_nextOf_list_item (am.extBut b1.extBut G.i1z) (k1.extBut b1.extBut G.l1z) ex fun g2 u2 b2 => wpAny_pure ?_)
  have r2 : IsPair g2 r x0 y0 := b2.extBut _ _ G.TOi1 (b1.extBut _ _ G.TOz ar)
  refine wpAny_bind (wpAny_seqItems r2 rfl (wpAny_bind (wpAny_updateSeq_pair r2 fun g3 u3 b3 => ?_)))
  have r3 : IsPair g3 r x y0 := u3
  refine wpAny_bind (wpAny_letGo (wpAny_pure (wpAny_bind (wpAny_bind (wpAny_onRaise ?_)))))
  change wpAny (model prog w) A (Builtin.SmallTypes.nextOf (.ref n) >>= _) _ _ _
  have n3 : g3.IsListIter n l2 j := ((an.extBut b1.extBut G.i2z).extBut b2.extBut G.i12.symm).extBut b3.extBut G.TOi2.symm
  have l3 : g3.IsList l2 ys := ((k2.extBut b1.extBut G.l2z).extBut b2.extBut G.l2i1).extBut b3.extBut G.l2TO
  refine wpAny_bind (wpAny_nextOf_list_item n3 l3 ey fun g4 u4 b4 => wpAny_pure ?_)
  have r4 : IsPair g4 r x y0 := b4.extBut _ _ G.TOi2 r3
  refine wpAny_bind (wpAny_seqItems r4 rfl (wpAny_bind (wpAny_updateSeq_pair r4 fun g5 u5 b5 => ?_)))
  have r5 : IsPair g5 r x y := u5
  refine wpAny_bind (wpAny_letGo (wpAny_pure (wpAny_pure (wpAny_bind (wpAny_seqItems r5 rfl (wpAny_bind (wpAny_newTuple ?_)))))))
  have sz : g5.objs.size = s.heap.objs.size := by rw [b5.1, b4.1, b3.1, b2.1, b1.1]
  have z5 : ZipAs g5 z p r .ellipsis (.bool f) := b5.extBut _ _ G.TOz.symm (b4.extBut _ _ G.i2z.symm (b3.extBut _ _ G.TOz.symm (b2.extBut _ _ G.i1z.symm z1)))
  have m5 : g5.IsListIter m l1 (i + 1) := ((u2.extBut b3.extBut G.TOi1.symm).extBut b4.extBut G.i12).extBut b5.extBut G.TOi1.symm
  have n5 : g5.IsListIter n l2 (j + 1) := u4.extBut b5.extBut G.TOi2.symm
  have all5 : ∀ c o, c ≠ z → c ≠ r → c ≠ m → c ≠ n → s.heap.get? c = some o → g5.get? c = some o := fun c o q1 q2 q3 q4 e =>
    b5.extBut _ _ q2 (b4.extBut _ _ q4 (b3.extBut _ _ q2 (b2.extBut _ _ q3 (b1.extBut _ _ q1 e))))
  have zl : z < g5.objs.size := Heap.lt_size z5
  change wpAny (model prog w) A (Builtin.SmallTypes.ownedTupleHandOut (.ref z) (.ref g5.objs.size) >>= _) _ E _
  refine wpAny_bind ?_
  unfold Builtin.SmallTypes.ownedTupleHandOut
  have z6 : ZipAs (g5.push { cls := .type "tuple", data := .seq #[x, y] }) z p r .ellipsis (.bool f) := Heap.get?_push_of_some _ z5
  refine wpAny_bind (wpAny_setField_rec z6 (by simp) fun g7 u7 b7 => ?_)
  have z7 : ZipAs g7 z p r (rawInt g5.objs.size) (.bool f) := u7
  refine wpAny_setField_rec z7 (by simp) fun g8 u8 b8 => ?_
  have z8 : ZipAs g8 z p r (rawInt g5.objs.size) (.bool false) := u8
  have up : ∀ c o, c ≠ z → (g5.push { cls := .type "tuple", data := .seq #[x, y] }).get? c = some o → g8.get? c = some o := fun c o q1 e => b8.extBut _ _ q1 (b7.extBut _ _ q1 e)
  have t8 : IsPair g8 g5.objs.size x y := up _ _ (Nat.ne_of_gt zl) (Heap.get?_push_size _ rfl)
  have s8 : g8.objs.size = g5.objs.size + 1 := by rw [b8.1, b7.1, Heap.size_push]
  have r8 : IsPair g8 r x y := up _ _ G.TOz (Heap.get?_push_of_some _ r5)
  have m8 : g8.IsListIter m l1 (i + 1) := m5.at fun o e => up _ o G.i1z (Heap.get?_push_of_some _ e)
  have n8 : g8.IsListIter n l2 (j + 1) := n5.at fun o e => up _ o G.i2z (Heap.get?_push_of_some _ e)
  rw [sz] at z8 t8 s8
  refine wpAny_pure ⟨_, rfl, ?_⟩
  change Q (.ref g5.objs.size) _
  rw [sz]
  exact fin g8 z8 r8 m8 n8 t8 s8 fun c o q1 q2 q3 q4 e => up c o q1 (Heap.get?_push_of_some _ (all5 c o q1 q2 q3 q4 e))
theorem gone_end {z p r m n l1 l2 T : Addr} {f : Bool} {i j : Nat} {xs ys : Array Value} {x0 y0 : Value} {Q : Fin → Shared → Prop} (hh : A.handled = none) (G : ZipApart z p r m n l1 l2) (no : s.heap.get? T = none)
    (az : ZipAs s.heap z p r (rawInt T) (.bool f)) (ap : IsPair s.heap p (.ref m) (.ref n)) (ar : IsPair s.heap r x0 y0)
    (am : s.heap.IsListIter m l1 i) (an : s.heap.IsListIter n l2 j) (k1 : s.heap.IsList l1 xs) (k2 : s.heap.IsList l2 ys) (he : xs[i]? = none ∨ ys[j]? = none)
    (fin : ∀ g e, (∀ c o, c ≠ z → c ≠ r → c ≠ m → c ≠ n → s.heap.get? c = some o → g.get? c = some o) → (∃ o, g.get? e = some o ∧ o.cls = .type "StopIteration") → E (.ref e) { s with heap := g }) :
    wpAny (model prog w) A (Builtin.«zip.__next__» ⟨[.ref z], []⟩) Q E s := by
  change wpAny (model prog w) A (field (.ref z) 2 >>= _) _ E s
  refine wpAny_bind (wpAny_field az rfl (x := .bool false) rfl ?_)
  change wpAny (model prog w) A (field (.ref z) 3 >>= _) _ E s
  refine wpAny_bind (wpAny_field az rfl (x := .ref p) rfl (wpAny_bind (wpAny_seqItems ap rfl ?_)))
  change wpAny (model prog w) A (Builtin.SmallTypes.ownedTupleIsFree (.ref z) >>= _) _ E s
  refine wpAny_bind (free_gone az no ?_)
  simp only [if_true]
  refine wpAny_bind (wpAny_rule (wpAny_bind (wpAny_field az rfl (x := .ref r) rfl ?_)))
  refine wpAny_bind (wpAny_setField_rec az (by simp) fun g1 u1 b1 => ?_)
  have z1 : ZipAs g1 z p r .ellipsis (.bool f) := u1
  refine wpAny_bind ?_
  simp only [List.forIn_cons, List.forIn_nil, List.zipIdx_cons, List.zipIdx_nil]
  refine wpAny_bind (wpAny_bind (wpAny_onRaise ?_))
  change wpAny (model prog w) A (Builtin.SmallTypes.nextOf (.ref m) >>= _) _ _ _
  cases ex : xs[i]? with
  | none =>
    refine wpAny_bind (wpAny_nextOf_list_end hh (am.extBut b1.extBut G.i1z) (k1.extBut b1.extBut G.l1z) ex fun g2 e b2 ⟨oe, oo, oc⟩ => ?_)
    have z2 : ZipAs g2 z p r .ellipsis (.bool f) := b2 _ _ G.i1z.symm z1
    have ne : e ≠ z := by
      rintro rfl
      rw [z2] at oo; cases oo; simp at oc
    exact wpAny_setField_rec z2 (by simp) fun g3 _ b3 => fin g3 e (fun c o q1 _ q3 _ h => b3.extBut _ _ q1 (b2 _ _ q3 (b1.extBut _ _ q1 h))) ⟨oe, b3.extBut _ _ ne oo, oc⟩
  | some x =>
    have ey : ys[j]? = none := he.resolve_left (by rw [ex]; exact fun h => nomatch h)
    refine wpAny_bind (wpAny_nextOf_list_item (am.extBut b1.extBut G.i1z) (k1.extBut b1.extBut G.l1z) ex fun g2 u2 b2 => wpAny_pure ?_)
    have r2 : IsPair g2 r x0 y0 := b2.extBut _ _ G.TOi1 (b1.extBut _ _ G.TOz ar)
    refine wpAny_bind (wpAny_seqItems r2 rfl (wpAny_bind (wpAny_updateSeq_pair r2 fun g3 u3 b3 => ?_)))
    refine wpAny_bind (wpAny_letGo (wpAny_pure (wpAny_bind (wpAny_bind (wpAny_onRaise ?_)))))
    change wpAny (model prog w) A (Builtin.SmallTypes.nextOf (.ref n) >>= _) _ _ _
    have n3 : g3.IsListIter n l2 j := ((an.extBut b1.extBut G.i2z).extBut b2.extBut G.i12.symm).extBut b3.extBut G.TOi2.symm
    have l3 : g3.IsList l2 ys := ((k2.extBut b1.extBut G.l2z).extBut b2.extBut G.l2i1).extBut b3.extBut G.l2TO
    refine wpAny_bind (wpAny_nextOf_list_end hh n3 l3 ey fun g4 e b4 ⟨oe, oo, oc⟩ => ?_)
    have z4 : ZipAs g4 z p r .ellipsis (.bool f) := b4 _ _ G.i2z.symm (b3.extBut _ _ G.TOz.symm (b2.extBut _ _ G.i1z.symm z1))
    have ne : e ≠ z := by
      rintro rfl
      rw [z4] at oo; cases oo; simp at oc
    exact wpAny_setField_rec z4 (by simp) fun g5 _ b5 => fin g5 e (fun c o q1 q2 q3 q4 h => b5.extBut _ _ q1 (b4 _ _ q4 (b3.extBut _ _ q2 (b2.extBut _ _ q3 (b1.extBut _ _ q1 h))))) ⟨oe, b5.extBut _ _ ne oo, oc⟩
/-- a zip ahead of its next pair -/
def ZipAny (h : Heap) (z p r : Addr) : Prop := IsZip h z p r .none ∨ ∃ (T : Addr) (f : Bool), ZipAs h z p r (rawInt T) (.bool f)
theorem zipN_item {z p r m n l1 l2 : Addr} {i j : Nat} {xs ys : Array Value} {x y x0 y0 : Value} {Q : Option Value → Shared → Prop} (G : ZipApart z p r m n l1 l2)
    (az : ZipAny s.heap z p r) (ap : IsPair s.heap p (.ref m) (.ref n)) (ar : IsPair s.heap r x0 y0)
    (am : s.heap.IsListIter m l1 i) (an : s.heap.IsListIter n l2 j) (k1 : s.heap.IsList l1 xs) (k2 : s.heap.IsList l2 ys) (ex : xs[i]? = some x) (ey : ys[j]? = some y)
    (fin : ∀ g, ZipAny g z p r → (∃ a b, IsPair g r a b) → g.IsListIter m l1 (i + 1) → g.IsListIter n l2 (j + 1) → IsPair g s.heap.objs.size x y →
      (∀ c o, c ≠ z → c ≠ r → c ≠ m → c ≠ n → s.heap.get? c = some o → g.get? c = some o) → Q (some (.ref s.heap.objs.size)) { s with heap := g }) :
    wpAny (model prog w) A (pyNext (.ref z)) Q E s := by
  rcases az with az | ⟨T, f, az⟩
  · exact wpAny_pyNext_zip_item G az ap ar am an k1 k2 ex ey fun g a b c d e _ k => fin g (.inr ⟨_, false, a⟩) ⟨_, _, b⟩ c d e k
  · cases no : s.heap.get? T with
    | some oT => exact wpAny_pyNext_zip_item_held G az no ap am an k1 k2 ex ey fun g a c d e _ k => fin g (.inr ⟨_, true, a⟩) ⟨_, _, k _ _ G.TOz G.TOi1 G.TOi2 ar⟩ c d e fun c o q1 _ q3 q4 h => k c o q1 q3 q4 h
    | none =>
      have ty : s.TypeIs (.ref z) "zip" := ⟨_, az, rfl⟩
      unfold pyNext
      exact wpAny_bind (wpAny_attempt (wpAny_callSpecial?_slot (name := Str.ofString "__next__") ty F.slot_zip_next (wpAny_call_entry F.slot_zip_next ty F.entry_zip_next
        (gone_item G no az ap ar am an k1 k2 ex ey fun g a b c d e _ k => wpAny_pure (fin g (.inr ⟨_, false, a⟩) ⟨_, _, b⟩ c d e k)) (F.args_zip_next_1 _))))
theorem zipN_end {z p r m n l1 l2 : Addr} {i j : Nat} {xs ys : Array Value} {x0 y0 : Value} {Q : Option Value → Shared → Prop} (hh : A.handled = none) (G : ZipApart z p r m n l1 l2)
    (az : ZipAny s.heap z p r) (ap : IsPair s.heap p (.ref m) (.ref n)) (ar : IsPair s.heap r x0 y0)
    (am : s.heap.IsListIter m l1 i) (an : s.heap.IsListIter n l2 j) (k1 : s.heap.IsList l1 xs) (k2 : s.heap.IsList l2 ys) (he : xs[i]? = none ∨ ys[j]? = none)
    (fin : ∀ g, (∀ c o, c ≠ z → c ≠ r → c ≠ m → c ≠ n → s.heap.get? c = some o → g.get? c = some o) → Q none { s with heap := g }) :
    wpAny (model prog w) A (pyNext (.ref z)) Q E s := by
  rcases az with az | ⟨T, f, az⟩
  · exact wpAny_pyNext_zip_end hh G az ap ar am an k1 k2 he fin
  · cases no : s.heap.get? T with
    | some oT => exact wpAny_pyNext_zip_end_held hh G az no ap am an k1 k2 he fun g k => fin g fun c o q1 _ q3 q4 h => k c o q1 q3 q4 h
    | none =>
      have ty : s.TypeIs (.ref z) "zip" := ⟨_, az, rfl⟩
      unfold pyNext
      refine wpAny_bind (wpAny_attempt (wpAny_callSpecial?_slot (name := Str.ofString "__next__") ty F.slot_zip_next (wpAny_call_entry F.slot_zip_next ty F.entry_zip_next
        (gone_end hh G no az ap ar am an k1 k2 he fun g e k ⟨o, e1, e2⟩ => ?_) (F.args_zip_next_1 _))))
      exact wpAny_bind (wpAny_isInstance (T := "StopIteration") (b := true) ⟨o, e1, e2⟩ isSubtype_stop (wpAny_pure (fin g k)))
theorem ZipAny.obj {h : Heap} {z p r : Addr} (a : ZipAny h z p r) : ∃ o, h.get? z = some o ∧ ∀ v, o.data ≠ .cell v := by
  rcases a with a | ⟨T, f, a⟩
  · exact ⟨_, a, fun v q => nomatch q⟩
  · exact ⟨_, a, fun v q => nomatch q⟩
theorem ZipAny.keep {h g : Heap} {z p r : Addr} (a : ZipAny h z p r) (k : ∀ o, h.get? z = some o → g.get? z = some o) : ZipAny g z p r := by
  rcases a with a | ⟨T, f, a⟩
  · exact .inl (k _ a)
  · exact .inr ⟨T, f, k _ a⟩
theorem turn_zipN {P : Program} {w : World} {K : PySem.W.Frag} {nm : Str} {tpos : Pos} {a b z p r m n : Addr} (G : ZipApart z p r m n a b) :
    Turn P w K (.Name nm tpos) (Itz K a b) [z, p, r, m, n] z (fun i h => ZipAny h z p r ∧ IsPair h p (.ref m) (.ref n) ∧ (∃ x y, IsPair h r x y) ∧ h.IsListIter m a i ∧ h.IsListIter n b i) where
  mem := by simp
  obj := by
    intro i h ⟨hz, hp, ⟨x, y, hr⟩, ⟨o1, e1, _, d1⟩, ⟨o2, e2, _, d2⟩⟩ c hc
    simp only [List.mem_cons, List.not_mem_nil, or_false] at hc
    rcases hc with q | q | q | q | q <;> rw [q]
    · exact hz.obj
    · exact ⟨_, hp, fun v q => nomatch q⟩
    · exact ⟨_, hr, fun v q => nomatch q⟩
    · exact ⟨o1, e1, fun v q => by rw [d1] at q; cases q⟩
    · exact ⟨o2, e2, fun v q => by rw [d2] at q; cases q⟩
  keep := by
    intro i h g ⟨hz, hp, ⟨x, y, hr⟩, h1, h2⟩ k
    exact ⟨hz.keep (k z (by simp)), k p (by simp) _ hp, ⟨x, y, k r (by simp) _ hr⟩, h1.at fun o q => k m (by simp) o q, h2.at fun o q => k n (by simp) o q⟩
  item := by
    intro X hP hw hK hc i pins s σ H E I hf st ⟨xs, ys, x, y, qx, qy, ex, ey⟩
    subst hP hw hK
    obtain ⟨hz, hp, ⟨x0, y0, hr⟩, h1, h2⟩ := st
    obtain ⟨us, rv, o1, _⟩ := I.list qx
    obtain ⟨ws, rv2, o2, _⟩ := I.list qy
    obtain ⟨u, hu, ru⟩ := rv.get ex
    obtain ⟨v, hv, rw2⟩ := rv2.get ey
    have lt : ∀ c ∈ [z, p, r, m, n], c < s.heap.objs.size := by
      intro c hcm
      simp only [List.mem_cons, List.not_mem_nil, or_false] at hcm
      rcases hcm with q | q | q | q | q <;> rw [q]
      · obtain ⟨o, e, _⟩ := hz.obj; exact Heap.lt_size e
      · exact Heap.lt_size hp
      · exact Heap.lt_size hr
      · obtain ⟨_, e1, _⟩ := h1; exact Heap.lt_size e1
      · obtain ⟨_, e2, _⟩ := h2; exact Heap.lt_size e2
    refine zipN_item G hz hp hr h1 h2 o1.isList o2.isList (x := u) (y := v) (by simpa using hu) (by simpa using hv) fun g z' r' m' n' t' k => ?_
    have new : ObjOk X.prog X.w (upd H s.heap.objs.size (.tup [x, y])) g s.heap.objs.size (.tup [x, y]) :=
      ⟨by show 2 ≤ sizeLine; decide, [u, v], .cons ru (.cons rw2 .nil), ⟨_, t', rfl, _, rfl⟩⟩
    have I1 : L2.Inv X pins σ (upd H s.heap.objs.size (.tup [x, y])) { s with heap := g } :=
      I.turnedNew (t' := s.toks) (ch := [z, p, r, m, n]) (fun c o hb q => k c o (fun q' => hb (by simp [q'])) (fun q' => hb (by simp [q'])) (fun q' => hb (by simp [q'])) (fun q' => hb (by simp [q'])) q) hf (Nat.le_refl _) new
    refine ⟨_, rfl, wpAny_pure ⟨.ref s.heap.objs.size, _, I1, rfl, ⟨_, x, y, rfl, I.hok.fresh (Nat.le_refl _), rfl, fun l hl => by rw [I.list_inj hl qx]; exact ex, fun l hl => by rw [I.list_inj hl qy]; exact ey⟩, ⟨z', ?_, r', m', n'⟩, fun c hcm => ?_⟩⟩
    · exact k _ _ G.TIz G.TITO G.TIi1 G.TIi2 hp
    · rw [upd_ne (Nat.ne_of_lt (lt c hcm))]
      exact (hf c hcm).1
  done := by
    intro X hP hw hK hc i pins s σ H E I hf st ⟨xs, ys, qx, qy, stop⟩
    subst hP hw hK
    obtain ⟨hz, hp, ⟨x0, y0, hr⟩, h1, h2⟩ := st
    obtain ⟨us, rv, o1, _⟩ := I.list qx
    obtain ⟨ws, rv2, o2, _⟩ := I.list qy
    have n1 := rv.length
    have n2 := rv2.length
    have he : us.toArray[i]? = none ∨ ws.toArray[i]? = none := by
      rcases stop with q | q
      · left; simp; omega
      · right; simp; omega
    exact zipN_end (I.ok.hd hc) G hz hp hr h1 h2 o1.isList o2.isList he fun g k => ⟨rfl, I.turnedL (t' := s.toks) (ch := [z, p, r, m, n]) (fun c o hb q =>
      k c o (fun q' => hb (by simp [q'])) (fun q' => hb (by simp [q'])) (fun q' => hb (by simp [q'])) (fun q' => hb (by simp [q'])) q) hf⟩
  self := by
    intro A i s Q E st h
    rcases st.1 with a | ⟨T, f, a⟩
    · exact wpAny_pyIter_zip a h
    · have ty : s.TypeIs (.ref z) "zip" := ⟨_, a, rfl⟩
      refine wpAny_pyIter_slot ty F.slot_zip_iter (wpAny_call_entry F.slot_zip_iter ty F.entry_zip_iter ?_ (F.args_zip_iter_1 _))
      change wpAny _ _ (ret (.ref z)) _ _ s
      exact wpAny_pure ⟨_, rfl, "zip", _, ty, F.slot_zip_next.lookup, h⟩
/-- zip, the pair kept by a name -/
theorem pi_zipN {X : Cx} {e e2 : Expr} {ta : TA} {p pos tpos : Pos} {nm : Str} (hg : Gl X "zip") (hm : X.mg "zip" = none) (ha : PA X [e, e2] ta)
    (hs : starEach [e, e2] X.env = (false, eval e X.env) :: starEach [e2] X.env := by rfl) (hpl : (backTo pos (starEach [e2] X.env)).any (·.1) = false := by rfl) :
    PI X (.Name nm tpos) (.Call (.Name "zip" p) [e, e2] [] pos) (iZip X.K ta) := by
  constructor
  intro pins s σ H R I h
  refine Call_ (ld_blt I hg hm PyProof.Rows.boot_zip (PyProof.Rows.callWith_type1 (thn (ha.run pos pins s σ H _ I h) fun us s1 ⟨vs, H1, I1, r1, a, b, xs, ys, ev, q1, q2, q⟩ => ?_) hs hpl))
  subst ev
  cases r1 with
  | cons ra rr => cases rr with
    | cons rb rr =>
      cases rr; cases ra; cases rb
      obtain ⟨us, rv, o1, _⟩ := I1.list q1
      obtain ⟨ws, rv2, o2, _⟩ := I1.list q2
      refine call_zip_2 o1.isList o2.isList fun g hz hp hr h1 h2 _ k => wpAny_pyIter_zip hz ?_
      have I2 : L2.Inv X pins σ H1 { s1 with heap := g } := I1.kept (t' := s1.toks) k
      refine ⟨_, [s1.heap.objs.size + 4, s1.heap.objs.size + 2, s1.heap.objs.size + 3, s1.heap.objs.size, s1.heap.objs.size + 1], _, _, H1, rfl, I2, turn_zipN (PySem.W.ktu_apart s1.heap.objs.size a b o1.lt o2.lt), ⟨.inl hz, hp, ⟨_, _, hr⟩, h1, h2⟩, fun c hcm => ?_, q⟩
      have le : s1.heap.objs.size ≤ c := by
        simp only [List.mem_cons, List.not_mem_nil, or_false] at hcm
        rcases hcm with y | y | y | y | y <;> rw [y]
        · exact Nat.le_add_right _ _
        · exact Nat.le_add_right _ _
        · exact Nat.le_add_right _ _
        · exact Nat.le_refl _
        · exact Nat.le_add_right _ _
      exact I1.fpOk le (I1.hok.fresh le)
end
section
variable {X : Cx} {ca : Nat → Addr} {W : WX} {e a b tg : Expr} {ms : AM} {pos p tpos : Pos} {elts : List Expr} {kk : Nat}
def pairsD (xs ys : List D) : List D := List.zipWith (fun x y => .tup [x, y]) xs ys
/-- zip of two live lists, which stay -/
def itZip (ms : AM) : IM := fun env s => (ms env s).bind fun ds s => match ds with
  | [.ref l, .ref k] => match s[l]?, s[k]? with
    | some (.lst xs), some (.lst ys) => .ok (pairsD xs ys, some fun s => s[l]? = some (.lst xs) ∧ s[k]? = some (.lst ys)) s
    | _, _ => .bad
  | _ => .bad
theorem walks_zip {K : PySem.W.Frag} {L : Lv} {H : Hp} {l k : Nat} {a b : Addr} {xs ys : List D} (ea : L.rho[l]? = some a) (eb : L.rho[k]? = some b) :
    Walks K ca L H (pairsD xs ys, some fun s => s[l]? = some (.lst xs) ∧ s[k]? = some (.lst ys)) (Itz K a b) := fun L2 s2 H2 mo S g i => by
  obtain ⟨g1, g2⟩ := g _ rfl
  obtain ⟨vs, h1, r1⟩ := S.cell l a _ (prefix_get mo.rho ea) g1
  obtain ⟨ws, h2, r2⟩ := S.cell k b _ (prefix_get mo.rho eb) g2
  unfold pairsD
  refine ⟨fun d ed => ?_, fun hl => ⟨vs, ws, SqL.of h1, SqL.of h2, ?_⟩⟩
  · rw [List.getElem?_zipWith] at ed
    cases ex : xs[i]? with
    | none => rw [ex] at ed; cases ed
    | some x => cases ey : ys[i]? with
      | none => rw [ex, ey] at ed; cases ed
      | some y =>
        rw [ex, ey] at ed
        have ed : D.tup [x, y] = d := by simpa using ed
        subst ed
        obtain ⟨v, ev, rv⟩ := r1.get ex
        obtain ⟨w, ew, rw2⟩ := r2.get ey
        refine ⟨⟨vs, ws, v, w, SqL.of h1, SqL.of h2, ev, ew⟩, fun u H3 ⟨T, x', y', eu, eT, eH, q1, q2⟩ => ?_⟩
        subst eu; subst eH
        have := q1 vs (SqL.of h1); rw [ev] at this; cases this
        have := q2 ws (SqL.of h2); rw [ew] at this; cases this
        obtain ⟨kp, S3⟩ := S.new eT (.tup [v, w])
        obtain ⟨n1, n2⟩ := S.fresh eT
        exact ⟨kp, S3, T, _, rfl, .inl ⟨n1, n2, upd_same⟩, .cons (RD.mono kp.mono _ _ rv) (.cons (RD.mono kp.mono _ _ rw2) .nil)⟩
  · have n1 := r1.length
    have n2 := r2.length
    simp only [List.length_zipWith] at hl
    omega
theorem di_zipT (hm : X.mg "zip" = none) (ha : DA X ca W [a, b] ms) (hg : Gl X "zip" := by rfl) (hs : starEach [a, b] X.env = (false, eval a X.env) :: starEach [b] X.env := by rfl) (hpl : (backTo pos (starEach [b] X.env)).any (·.1) = false := by rfl) :
    DI X ca W (.Tuple elts kk tpos) (.Call (.Name "zip" p) [a, b] [] pos) (itZip ms) :=
  PI.imp (pi_zip hg hm ha hs hpl) fun σ H Q ⟨L, env, s, S, e, q⟩ => ⟨L, env, s, S, e, q.bind.imp fun vs H1 ⟨L1, s1, ds, k1, S1, r1, p1⟩ => by
    split at p1
    · split at p1
      · rename_i e1 e2
        obtain ⟨v, w, rfl, r, r2⟩ := r1.two
        simp only [RD] at r r2
        obtain ⟨x, rfl, ea⟩ := r
        obtain ⟨y, rfl, eb⟩ := r2
        obtain ⟨vs, h1, _⟩ := S1.cell _ x _ ea e1
        obtain ⟨ws, h2, _⟩ := S1.cell _ y _ eb e2
        exact ⟨x, y, vs, ws, rfl, SqL.of h1, SqL.of h2, p1 L1 _ H1 Keep.refl S1 (walks_zip ea eb)⟩
      · exact p1.elim
    · exact p1.elim⟩
theorem di_zipN {nm : Str} (hm : X.mg "zip" = none) (ha : DA X ca W [a, b] ms) (hg : Gl X "zip" := by rfl) (hs : starEach [a, b] X.env = (false, eval a X.env) :: starEach [b] X.env := by rfl) (hpl : (backTo pos (starEach [b] X.env)).any (·.1) = false := by rfl) :
    DI X ca W (.Name nm tpos) (.Call (.Name "zip" p) [a, b] [] pos) (itZip ms) :=
  PI.imp (pi_zipN hg hm ha hs hpl) fun σ H Q ⟨L, env, s, S, e, q⟩ => ⟨L, env, s, S, e, q.bind.imp fun vs H1 ⟨L1, s1, ds, k1, S1, r1, p1⟩ => by
    split at p1
    · split at p1
      · rename_i e1 e2
        obtain ⟨v, w, rfl, r, r2⟩ := r1.two
        simp only [RD] at r r2
        obtain ⟨x, rfl, ea⟩ := r
        obtain ⟨y, rfl, eb⟩ := r2
        obtain ⟨vs, h1, _⟩ := S1.cell _ x _ ea e1
        obtain ⟨ws, h2, _⟩ := S1.cell _ y _ eb e2
        exact ⟨x, y, vs, ws, rfl, SqL.of h1, SqL.of h2, p1 L1 _ H1 Keep.refl S1 (walks_zip ea eb)⟩
      · exact p1.elim
    · exact p1.elim⟩
end
end DE
/-! DER: where a sign stands in a text, an int in a list -/
namespace DE
open PySem PySem.Spec PyProof.Rows L2
section
variable {X : Cx} {ca : Nat → Addr} {W : WX} {e a b c o : Expr} {m ma mb mo : EM} {pos apos : Pos}
def sindexD : Str → D → Store → R D := fun a y s => match y with
  | .str b => match Builtin.Str.occurrences a b 0 a.length 1 with
    | i :: _ => .ok (.int (i : Nat)) s
    | [] => .bad
  | _ => .bad
theorem imp_sindex : ImpS X.K ca sindexD (fun x xs H Q => ∃ a b i rest, x = .str a ∧ xs = [.str b] ∧ Builtin.Str.occurrences a b 0 a.length 1 = i :: rest ∧ Q (.int (i : Nat)) H) := by
  intro L H s z y u Q E S r p
  unfold sindexD at p
  split at p
  · simp only [RD] at r
    subst r
    split at p
    · rename_i i rest eo
      exact ⟨_, _, i, rest, rfl, rfl, eo, p L _ H Keep.refl S rfl⟩
    · exact p.elim
  · exact p.elim
theorem de_sindex (ho : DE X ca W a ma) (he : DE X ca W e m) (hs : starEach [e] X.env = [(false, eval e X.env)] := by rfl) (hbase : attributeBase a "index" X.env (eval a X.env) = eval a X.env := by rfl) (hline : (apos.endLine == pos.line) = true := by rfl) :
    DE X ca W (.Call (.Attribute a "index" apos) [e] [] pos) (eM1 sindexD ma m) := PE.imp (pe_m1 PySem.F.slot_str_index PySem.F.type_str_index mt_sindex ho he hs hbase hline) (tM1_of imp_sindex)
/-- the first place of n -/
def atInt : List Int → Int → Option Nat
  | [], _ => none
  | x :: xs, n => if x = n then some 0 else (atInt xs n).map (· + 1)
theorem atInt_ok : ∀ {xs : List Int} {n : Int} {j : Nat}, atInt xs n = some j → xs[j]? = some n ∧ ∀ (m : Nat) (z : Int), m < j → xs[m]? = some z → z ≠ n
  | [], n, j, h => by cases h
  | x :: xs, n, j, h => by
    unfold atInt at h
    split at h
    · rename_i e
      subst e
      cases h
      exact ⟨rfl, fun m z hm => absurd hm (Nat.not_lt_zero m)⟩
    · rename_i ne
      cases q : atInt xs n with
      | none => rw [q] at h; cases h
      | some k =>
        rw [q] at h
        cases h
        obtain ⟨h1, h2⟩ := atInt_ok q
        refine ⟨h1, fun m z hm ez => ?_⟩
        cases m with
        | zero => cases ez; exact ne
        | succ m => exact h2 m z (Nat.lt_of_succ_lt_succ hm) ez
def lindexD : D → D → Store → R D := fun x y s => match x, y with
  | .lst xs, .int n => match intsD xs with
    | some ns => match atInt ns n with
      | some j => .ok (.int (j : Nat)) s
      | none => .bad
    | none => .bad
  | _, _ => .bad
/-- o.index(e), o a list that nothing changes -/
def eLI (mo m : EM) : EM := fun env s => (mo env s).bind fun o s => match o with
  | .lst _ => (m env s).bind fun d s => lindexD o d s
  | _ => .bad
theorem de_lindex (ho : DE X ca W o mo) (he : DE X ca W e m) (hs : starEach (e :: []) X.env = (false, eval e X.env) :: starEach [] X.env := by rfl) (hbase : attributeBase o "index" X.env (eval o X.env) = eval o X.env := by rfl)
    (hfew : ((backTo pos (starEach (e :: []) X.env)).all (fun x => !x.1) && (backToKw pos (keywordEach [] X.env)).all (fun x => x.1.isSome)
      && decide ((e :: []).length + ([] : List Keyword).length + (if ([] : List Keyword).isEmpty then 0 else 1) < 30)) = true := by rfl) (hline : (apos.endLine == pos.line) = true := by rfl) (hplain : (backTo pos (starEach [] X.env)).any (·.1) = false := by rfl) :
    DE X ca W (.Call (.Attribute o "index" apos) [e] [] pos) (eLI mo m) :=
  PE.imp (pe_bm PySem.F.plainAttrs_list PySem.F.slot_list_index PySem.F.type_list_index mt_index ho (pa_cons he pa_nil hs) hbase hfew hline hs hplain) fun σ H Q ⟨L, env, s, S, ee, q⟩ => ⟨L, env, s, S, ee, q.bind.imp fun x H1 ⟨L1, s1, od, k1, S1, r1, q1⟩ => by
    split at q1
    case h_2 => exact q1.elim
    rename_i xs
    have r1' := r1
    simp only [RD] at r1
    obtain ⟨a, vs, rfl, f, rs⟩ := r1
    refine ⟨.inl ⟨rfl, vs, f.sq⟩, L1, env, s1, S1, ee.mono k1.mono, q1.bind.imp fun y H2 ⟨L2, s2, d, k2, S2, r2, q2⟩ => ?_⟩
    have f2 := f.mono k2.mono
    have rs2 := RDs.mono k2.mono _ _ rs
    unfold lindexD at q2
    split at q2
    case h_2 => exact q2.elim
    rename_i ys n e1
    cases e1
    simp only [RD] at r2
    subst r2
    split at q2
    case h_2 => exact q2.elim
    rename_i ns en
    split at q2
    case h_2 => exact q2.elim
    rename_i j ej
    have ev := intsD_ok en rs2
    obtain ⟨h1, h2⟩ := atInt_ok ej
    refine ⟨a, vs, .int n, j, .int n, rfl, rfl, f2.sq, rfl, ?_, ?_, ?_, ?_, q2 L2 _ _ Keep.refl S2 rfl⟩
    · rw [ev]; simp [flatV]
    · rw [ev, List.getElem?_map, h1]; rfl
    · simp [eqV]
    · intro k z hk ez
      rw [ev, List.getElem?_map] at ez
      cases ek : ns[k]? with
      | none => rw [ek] at ez; cases ez
      | some w =>
        rw [ek] at ez
        cases ez
        have := h2 k w hk ek
        simp [eqV, this]⟩
end
end DE
namespace G
open PySem PySem.Spec PyProof.Rows L2 DE
abbrev i_are_letters : Nat := 0
abbrev i_need_letters : Nat := 1
abbrev i_is_sign : Nat := 2
abbrev i_need_text : Nat := 3
abbrev i_need_room : Nat := 4
abbrev i_room_of : Nat := 5
abbrev i_parting : Nat := 6
abbrev i__law_cell_at : Nat := 7
abbrev i__law_letters : Nat := 8
abbrev i__law_text : Nat := 9
abbrev i__law_machine : Nat := 10
abbrev i__law_far : Nat := 11
abbrev i__law_due : Nat := 12
abbrev i__law_told : Nat := 13
abbrev i__law_no_text : Nat := 14
abbrev i__law_longest : Nat := 15
abbrev i__law_refused : Nat := 16
abbrev i__law_good : Nat := 17
abbrev i_law : Nat := 18
def topS (i : Nat) : Stmt := PySem.Challenge.pw_bothreed_k06_rooms_and_partings.main.body.getD i (.Pass ⟨0, 0, 0, 0⟩)
abbrev s_are_letters : Stmt := topS 10
theorem sc_are_letters : FnScope ["thing", "sign"] ["thing"] (defScope s_are_letters) := ⟨rfl, rfl, rfl, by decide +kernel, rfl, by decide +kernel, by decide +kernel⟩
abbrev s_need_letters : Stmt := topS 11
theorem sc_need_letters : FnScope ["letters"] ["letters"] (defScope s_need_letters) := ⟨rfl, rfl, rfl, by decide +kernel, rfl, by decide +kernel, by decide +kernel⟩
abbrev s_is_sign : Stmt := topS 12
theorem sc_is_sign : FnScope ["letters", "thing"] ["letters", "thing"] (defScope s_is_sign) := ⟨rfl, rfl, rfl, by decide +kernel, rfl, by decide +kernel, by decide +kernel⟩
abbrev s_need_text : Stmt := topS 15
theorem sc_need_text : FnScope ["letters", "text", "sign"] ["letters", "text"] (defScope s_need_text) := ⟨rfl, rfl, rfl, by decide +kernel, rfl, by decide +kernel, by decide +kernel⟩
abbrev s_need_room : Stmt := topS 17
theorem sc_need_room : FnScope ["machine", "room"] ["machine", "room"] (defScope s_need_room) := ⟨rfl, rfl, rfl, by decide +kernel, rfl, by decide +kernel, by decide +kernel⟩
abbrev s_room_of : Stmt := topS 18
theorem sc_room_of : FnScope ["letters", "machine", "room", "text", "sign"] ["letters", "machine", "room", "text"] (defScope s_room_of) := ⟨rfl, rfl, rfl, by decide +kernel, rfl, by decide +kernel, by decide +kernel⟩
abbrev s_parting : Stmt := topS 19
theorem sc_parting : FnScope ["letters", "machine", "room", "other", "ways", "row", "at", "steps", "ends", "one", "two", "place", "sign", "pair"] ["letters", "machine", "room", "other"] (defScope s_parting) := ⟨rfl, rfl, rfl, by decide +kernel, rfl, by decide +kernel, by decide +kernel⟩
abbrev s__law_cell_at : Stmt := topS 21
theorem sc__law_cell_at : FnScope ["_law_script", "_law_k"] ["_law_script", "_law_k"] (defScope s__law_cell_at) := ⟨rfl, rfl, rfl, by decide +kernel, rfl, by decide +kernel, by decide +kernel⟩
abbrev s__law_letters : Stmt := topS 22
theorem sc__law_letters : FnScope ["_law_cell", "_law_some", "_law_k"] ["_law_cell"] (defScope s__law_letters) := ⟨rfl, rfl, rfl, by decide +kernel, rfl, by decide +kernel, by decide +kernel⟩
abbrev s__law_text : Stmt := topS 23
theorem sc__law_text : FnScope ["_law_letters_here", "_law_cell", "_law_most", "_law_found", "_law_k", "_law_number"] ["_law_letters_here", "_law_cell", "_law_most"] (defScope s__law_text) := ⟨rfl, rfl, rfl, by decide +kernel, rfl, by decide +kernel, by decide +kernel⟩
abbrev s__law_machine : Stmt := topS 25
theorem sc__law_machine : FnScope ["_law_letters_here", "_law_script", "_law_cell", "_law_many", "_law_steps", "_law_ends", "_law_room", "_law_own", "_law_k"] ["_law_letters_here", "_law_script"] (defScope s__law_machine) := ⟨rfl, rfl, rfl, by decide +kernel, rfl, by decide +kernel, by decide +kernel⟩
abbrev s__law_far : Stmt := topS 26
theorem sc__law_far : FnScope ["_law_steps", "_law_ends", "_law_many", "_law_far_here", "_law_one", "_law_size", "_law_turn", "_law_two", "_law_goals", "_law_a", "_law_b"] ["_law_steps", "_law_ends"] (defScope s__law_far) := ⟨rfl, rfl, rfl, by decide +kernel, rfl, by decide +kernel, by decide +kernel⟩
abbrev s__law_due : Stmt := topS 27
theorem sc__law_due : FnScope ["_law_letters_here", "_law_machine_here", "_law_one", "_law_two", "_law_far_here", "_law_text_here", "_law_steps", "_law_ends", "_law_goals", "_law_at", "_law_pair"] ["_law_letters_here", "_law_machine_here", "_law_one", "_law_two"] (defScope s__law_due) := ⟨rfl, rfl, rfl, by decide +kernel, rfl, by decide +kernel, by decide +kernel⟩
abbrev s__law_told : Stmt := topS 28
theorem sc__law_told : FnScope ["_law_way", "_law_letters_here", "_law_machine_here", "_law_room", "_law_thing", "_law_error"] ["_law_way", "_law_letters_here", "_law_machine_here", "_law_room", "_law_thing"] (defScope s__law_told) := ⟨rfl, rfl, rfl, by decide +kernel, rfl, by decide +kernel, by decide +kernel⟩
abbrev s__law_no_text : Stmt := topS 29
theorem sc__law_no_text : FnScope ["_law_letters_here", "_law_cell", "_law_others", "_law_other", "_law_some", "_law_sign"] ["_law_letters_here", "_law_cell"] (defScope s__law_no_text) := ⟨rfl, rfl, rfl, by decide +kernel, rfl, by decide +kernel, by decide +kernel⟩
abbrev s__law_longest : Stmt := topS 30
theorem sc__law_longest : FnScope ["_law_letters_here", "_law_machine_here", "_law_room", "_law_here", "_law_turn"] ["_law_letters_here", "_law_machine_here", "_law_room"] (defScope s__law_longest) := ⟨rfl, rfl, rfl, by decide +kernel, rfl, by decide +kernel, by decide +kernel⟩
abbrev s__law_refused : Stmt := topS 31
theorem sc__law_refused : FnScope ["_law_letters_here", "_law_machine_here", "_law_room", "_law_cell", "_law_many", "_law_wrong", "_law_told_here", "_law_none"] ["_law_letters_here", "_law_machine_here", "_law_room", "_law_cell"] (defScope s__law_refused) := ⟨rfl, rfl, rfl, by decide +kernel, rfl, by decide +kernel, by decide +kernel⟩
abbrev s__law_good : Stmt := topS 32
theorem sc__law_good : FnScope ["_law_letters_here", "_law_machine_here", "_law_one", "_law_two", "_law_text_here", "_law_here", "_law_sign", "_law_kept", "_law_found", "_law_due_here", "_law_pair", "_law_row"] ["_law_letters_here", "_law_machine_here", "_law_one", "_law_two", "_law_text_here"] (defScope s__law_good) := ⟨rfl, rfl, rfl, by decide +kernel, rfl, by decide +kernel, by decide +kernel⟩
abbrev s_law : Stmt := topS 33
theorem sc_law : FnScope ["_law_script", "_law_letters_here", "_law_machine_here", "_law_many", "_law_one", "_law_two", "_law_text_here"] ["_law_script"] (defScope s_law) := ⟨rfl, rfl, rfl, by decide +kernel, rfl, by decide +kernel, by decide +kernel⟩
abbrev s__law_kind : Stmt := topS 24
theorem sc__law_kind : FnScope ["_law_error", "_law_found", "_law_word", "_law_is_one"] ["_law_error"] (defScope s__law_kind) := ⟨rfl, rfl, rfl, by decide +kernel, rfl, by decide +kernel, by decide +kernel⟩
noncomputable def m_are_letters (call : Nat → Fn) : SM :=
  (sSeq (sIf (tOrM (tNotM (tVal (isiD "str" (eVar 0)))) (tNotM (tVal (eChain leD leD (eC (.int 1)) (eCall lenD (aCons (eVar 0) aNil)) (eC (.int 4))))))
  (sRet (eC (.bl false)))
  sPass)
  (sRet (eCall allD (aCons (eLc (itV' (eVar 0)) (.one 1) [1] tYesM (eAnd (e2 (inD false) (eVar 1) (eC (.str "abcdefghijklmnopqrstuvwxyz"))) (e2 (eqD false) (eM1 countD (eVar 0) (eVar 1)) (eC (.int 1))))) aNil))))
noncomputable def b_are_letters (call : Nat → Fn) : Fn := bodyF 2 (m_are_letters call)
noncomputable def m_need_letters (call : Nat → Fn) : SM :=
  (sIf (tNotM (tVal (eCall (ar 1 (call i_are_letters)) (aCons (eVar 0) aNil))))
  (sRaise 1)
  sPass)
noncomputable def b_need_letters (call : Nat → Fn) : Fn := bodyF 1 (m_need_letters call)
noncomputable def m_is_sign (call : Nat → Fn) : SM :=
  (sRet (eAnd (isiD "str" (eVar 1)) (eAnd (e2 (eqD false) (eCall lenD (aCons (eVar 1) aNil)) (eC (.int 1))) (e2 (inD false) (eVar 1) (eVar 0)))))
noncomputable def b_is_sign (call : Nat → Fn) : Fn := bodyF 2 (m_is_sign call)
noncomputable def m_need_text (call : Nat → Fn) : SM :=
  (sIf (tOrM (tNotM (tVal (isiD "str" (eVar 1)))) (tOrM (tVal (e2 gtD (eCall lenD (aCons (eVar 1) aNil)) (eC (.int 200)))) (tNotM (tVal (eCall allD (aCons (eLc (itV' (eVar 1)) (.one 2) [2] tYesM (eCall (ar 2 (call i_is_sign)) (aCons (eVar 0) (aCons (eVar 2) aNil)))) aNil))))))
  (sRaise 4)
  sPass)
noncomputable def b_need_text (call : Nat → Fn) : Fn := bodyF 3 (m_need_text call)
noncomputable def m_need_room (call : Nat → Fn) : SM :=
  (sIf (tOrM (tNotM (tVal (isiD "int" (eVar 1)))) (tOrM (tVal (isiD "bool" (eVar 1))) (tNotM (tVal (eChain leD ltD (eC (.int 0)) (eVar 1) (eCall lenD (aCons (e2 ixD (eVar 0) (eC (.int 0))) aNil)))))))
  (sRaise 5)
  sPass)
noncomputable def b_need_room (call : Nat → Fn) : Fn := bodyF 2 (m_need_room call)
noncomputable def m_room_of (call : Nat → Fn) : SM :=
  (sSeq (sExpr (eCall (ar 1 (call i_need_letters)) (aCons (eVar 0) aNil)))
  (sSeq (sExpr (eCall (ar 2 (call i_need_room)) (aCons (eVar 1) (aCons (eVar 2) aNil))))
  (sSeq (sExpr (eCall (ar 2 (call i_need_text)) (aCons (eVar 0) (aCons (eVar 3) aNil))))
  (sSeq (sFor (itV' (eVar 3)) (gVar 4)
  (sSet 2 (e2 ixD (e2 ixD (e2 ixD (eVar 1) (eC (.int 0))) (eVar 2)) (eM1 sindexD (eVar 0) (eVar 4)))))
  (sRet (eVar 2))))))
noncomputable def b_room_of (call : Nat → Fn) : Fn := bodyF 5 (m_room_of call)
noncomputable def m_parting (call : Nat → Fn) : SM :=
  (sSeq (sExpr (eCall (ar 1 (call i_need_letters)) (aCons (eVar 0) aNil)))
  (sSeq (sExpr (eCall (ar 2 (call i_need_room)) (aCons (eVar 1) (aCons (eVar 2) aNil))))
  (sSeq (sExpr (eCall (ar 2 (call i_need_room)) (aCons (eVar 1) (aCons (eVar 3) aNil))))
  (sSeq (sAsg (eVar 1) (gTupD 2 (gMore (gVar 7) (gMore (gVar 8) gNone))))
  (sSeq (sSet 4 (eDisT (eTup (aCons (eVar 2) (aCons (eVar 3) aNil))) (eC (.str ""))))
  (sSeq (sSet 5 (eNew (aCons (eTup (aCons (eVar 2) (aCons (eVar 3) aNil))) aNil)))
  (sSeq (sSet 6 (eC (.int 0)))
  (sSeq (sWhile (tVal (e2 ltD (eVar 6) (eCall lenD (aCons (eVar 5) aNil))))
  (sSeq (sAsg (e2 ixD (eVar 5) (eVar 6)) (gTupD 2 (gMore (gVar 9) (gMore (gVar 10) gNone))))
  (sSeq (sIf (tVal (e2 (eqD true) (e2 ixD (eVar 8) (eVar 9)) (e2 ixD (eVar 8) (eVar 10))))
  (sRet (e2 dgetT (eVar 4) (e2 ixD (eVar 5) (eVar 6))))
  sPass)
  (sSeq (sFor (itEnumS (aCons (eVar 0) aNil)) (gTupD 2 (gMore (gVar 11) (gMore (gVar 12) gNone)))
  (sSeq (sSet 13 (eTup (aCons (e2 ixD (e2 ixD (eVar 7) (eVar 9)) (eVar 11)) (aCons (e2 ixD (e2 ixD (eVar 7) (eVar 10)) (eVar 11)) aNil))))
  (sIf (tVal (e2 (inTD true) (eVar 13) (eVar 4)))
  (sSeq (sAsg (e2 addD (e2 dgetT (eVar 4) (e2 ixD (eVar 5) (eVar 6))) (eVar 12)) (gPutT (eVar 4) (eVar 13)))
  (sExpr (eLM apD (eVar 5) (eVar 13))))
  sPass)))
  (sSet 6 (e2 addD (eVar 6) (eC (.int 1))))))))
  (sRet (eC .non))))))))))
noncomputable def b_parting (call : Nat → Fn) : Fn := bodyF 14 (m_parting call)
noncomputable def m__law_cell_at (call : Nat → Fn) : SM :=
  (sSeq (sIf (tVal (e2 ltD (eVar 1) (eCall lenD (aCons (eVar 0) aNil))))
  (sRet (e2 ixD (eVar 0) (eVar 1)))
  sPass)
  (sRet (eC (.int 0))))
noncomputable def b__law_cell_at (call : Nat → Fn) : Fn := bodyF 2 (m__law_cell_at call)
noncomputable def m__law_letters (call : Nat → Fn) : SM :=
  (sSeq (sSet 1 (eC (.str "abcdefghijklmnopqrstuvwxyz")))
  (sRet (eM1 joinD (eC (.str "")) (eLc (itR1 (aCons (e2 addD (eC (.int 1)) (e2 modD (eVar 0) (eC (.int 4)))) aNil)) (.one 2) [2] tYesM (e2 ixD (eVar 1) (e2 modD (e2 addD (e2 fdivD (eVar 0) (eC (.int 4))) (e2 mulD (eVar 2) (e2 addD (eC (.int 1)) (e2 modD (e2 fdivD (eVar 0) (eC (.int 104))) (eC (.int 12)))))) (eC (.int 26))))))))
noncomputable def b__law_letters (call : Nat → Fn) : Fn := bodyF 3 (m__law_letters call)
noncomputable def m__law_text (call : Nat → Fn) : SM :=
  (sSeq (sSet 3 (eC (.str "")))
  (sSeq (sFor (itR1 (aCons (e2 modD (eVar 1) (e2 addD (eVar 2) (eC (.int 1)))) aNil)) (gVar 4)
  (sSeq (sSet 5 (e2 modD (e2 addD (e2 mulD (eVar 1) (eC (.int 48271))) (e2 mulD (e2 mulD (eC (.int 7919)) (eVar 4)) (eVar 4))) (eC (.int 1000003))))
  (sSet 3 (e2 addD (eVar 3) (e2 ixD (eVar 0) (e2 modD (e2 fdivD (eVar 5) (eC (.int 7))) (eCall lenD (aCons (eVar 0) aNil))))))))
  (sRet (eVar 3))))
noncomputable def b__law_text (call : Nat → Fn) : Fn := bodyF 6 (m__law_text call)
noncomputable def m__law_machine (call : Nat → Fn) : SM :=
  (sSeq (sSet 2 (eCall (ar 2 (call i__law_cell_at)) (aCons (eVar 1) (aCons (eC (.int 1)) aNil))))
  (sSeq (sSet 3 (e2 addD (eC (.int 1)) (e2 modD (eVar 2) (eC (.int 9)))))
  (sSeq (sIf (tVal (e2 (eqD false) (e2 modD (e2 fdivD (eVar 2) (eC (.int 9))) (eC (.int 8))) (eC (.int 1))))
  (sSet 3 (e2 addD (eC (.int 1)) (e2 modD (e2 fdivD (eVar 2) (eC (.int 72))) (eC (.int 14)))))
  sPass)
  (sSeq (sSet 4 (eNew aNil))
  (sSeq (sSet 5 (eNew aNil))
  (sSeq (sFor (itR1 (aCons (eVar 3) aNil)) (gVar 6)
  (sSeq (sSet 7 (e2 addD (e2 addD (e2 mulD (eCall (ar 2 (call i__law_cell_at)) (aCons (eVar 1) (aCons (e2 addD (eC (.int 6)) (eVar 6)) aNil))) (eC (.int 48271))) (e2 mulD (eC (.int 7919)) (eVar 6))) (eVar 2)))
  (sSeq (sExpr (eLM apD (eVar 4) (eLcN (itR1 (aCons (eCall lenD (aCons (eVar 0) aNil)) aNil)) (.one 8) [8] tYesM (e2 modD (e2 fdivD (eVar 7) (e2 ixD (eLst (aCons (eC (.int 3)) (aCons (eC (.int 17)) (aCons (eC (.int 101)) (aCons (eC (.int 613)) aNil))))) (eVar 8))) (eVar 3)))))
  (sSeq (sIf (tVal (e2 (eqD false) (e2 modD (eVar 7) (eC (.int 3))) (eC (.int 0))))
  (sAsg (e2 modD (e2 addD (eVar 6) (eC (.int 1))) (eVar 3)) (gSetL (e2 ixD (eVar 4) (eNeg (eC (.int 1)))) (e2 modD (e2 fdivD (eVar 7) (eC (.int 7))) (eCall lenD (aCons (eVar 0) aNil)))))
  sPass)
  (sExpr (eLM apD (eVar 5) (e2 (eqD false) (e2 modD (e2 fdivD (eVar 7) (eC (.int 5))) (eC (.int 4))) (eC (.int 0)))))))))
  (sRet (eTup (aCons (eVar 4) (aCons (eVar 5) aNil))))))))))
noncomputable def b__law_machine (call : Nat → Fn) : Fn := bodyF 9 (m__law_machine call)
noncomputable def m__law_far (call : Nat → Fn) : SM :=
  (sSeq (sSet 2 (eCall lenD (aCons (eVar 1) aNil)))
  (sSeq (sSet 3 eNewDT)
  (sSeq (sFor (itR1 (aCons (eVar 2) aNil)) (gVar 4)
  (sFor (itR1 (aCons (eVar 2) aNil)) (gVar 7)
  (sIf (tVal (e2 (eqD true) (e2 ixD (eVar 1) (eVar 4)) (e2 ixD (eVar 1) (eVar 7))))
  (sAsg (eC (.int 0)) (gPutT (eVar 3) (eTup (aCons (eVar 4) (aCons (eVar 7) aNil)))))
  sPass)))
  (sSeq (sSet 5 (eNeg (eC (.int 1))))
  (sSeq (sSet 6 (eC (.int 0)))
  (sSeq (sWhile (tVal (e2 ltD (eVar 5) (eCall lenTD (aCons (eVar 3) aNil))))
  (sSeq (sSet 5 (eCall lenTD (aCons (eVar 3) aNil)))
  (sSeq (sSet 6 (e2 addD (eVar 6) (eC (.int 1))))
  (sFor (itR1 (aCons (eVar 2) aNil)) (gVar 4)
  (sFor (itR1 (aCons (eVar 2) aNil)) (gVar 7)
  (sSeq (sSet 8 (eLc (itZip (aCons (e2 ixD (eVar 0) (eVar 4)) (aCons (e2 ixD (eVar 0) (eVar 7)) aNil))) (.two 9 10) [9, 10] tYesM (eGet2 (eVar 3) (eTup (aCons (eVar 9) (aCons (eVar 10) aNil))) (eVar 6))))
  (sIf (tAndM (tVal (e2 (inTD true) (eTup (aCons (eVar 4) (aCons (eVar 7) aNil))) (eVar 3))) (tVal (e2 (inD false) (e2 subD (eVar 6) (eC (.int 1))) (eVar 8))))
  (sAsg (eVar 6) (gPutT (eVar 3) (eTup (aCons (eVar 4) (aCons (eVar 7) aNil)))))
  sPass)))))))
  (sRet (eVar 3))))))))
noncomputable def b__law_far (call : Nat → Fn) : Fn := bodyF 11 (m__law_far call)
noncomputable def m__law_due (call : Nat → Fn) : SM :=
  (sSeq (sAsg (eVar 1) (gTupD 2 (gMore (gVar 6) (gMore (gVar 7) gNone))))
  (sSeq (sSet 4 (eCall (ar 2 (call i__law_far)) (aCons (eVar 6) (aCons (eVar 7) aNil))))
  (sSeq (sIf (tVal (e2 (inTD true) (eTup (aCons (eVar 2) (aCons (eVar 3) aNil))) (eVar 4)))
  (sRet (eC .non))
  sPass)
  (sSeq (sSet 5 (eC (.str "")))
  (sSeq (sWhile (tVal (e2 gtD (e2 dgetT (eVar 4) (eTup (aCons (eVar 2) (aCons (eVar 3) aNil)))) (eC (.int 0))))
  (sSeq (sSet 8 (eLc (itZip (aCons (e2 ixD (eVar 6) (eVar 2)) (aCons (e2 ixD (eVar 6) (eVar 3)) aNil))) (.one 10) [10] tYesM (eGet2 (eVar 4) (eVar 10) (eCall lenTD (aCons (eVar 4) aNil)))))
  (sSeq (sSet 9 (eLI (eVar 8) (e2 subD (e2 dgetT (eVar 4) (eTup (aCons (eVar 2) (aCons (eVar 3) aNil)))) (eC (.int 1)))))
  (sSeq (sSet 5 (e2 addD (eVar 5) (e2 ixD (eVar 0) (eVar 9))))
  (sPar 2 3 (aCons (e2 ixD (e2 ixD (eVar 6) (eVar 2)) (eVar 9)) (aCons (e2 ixD (e2 ixD (eVar 6) (eVar 3)) (eVar 9)) aNil)))))))
  (sRet (eVar 5)))))))
noncomputable def b__law_due (call : Nat → Fn) : Fn := bodyF 11 (m__law_due call)
noncomputable def m__law_told (call : Nat → Fn) : SM :=
  (sTry 5 (sSeq (sIf (tVal (e2 (eqD false) (eVar 0) (eC (.int 0))))
  (sRet (eTup (aCons (eC (.str "told")) (aCons (eCall (ar 4 (call i_room_of)) (aCons (eVar 1) (aCons (eVar 2) (aCons (eVar 3) (aCons (eVar 4) aNil))))) aNil))))
  sPass)
  (sRet (eTup (aCons (eC (.str "told")) (aCons (eCall (ar 4 (call i_parting)) (aCons (eVar 1) (aCons (eVar 2) (aCons (eVar 3) (aCons (eVar 4) aNil))))) aNil))))))
noncomputable def b__law_told (call : Nat → Fn) : Fn := bodyF 6 (m__law_told call)
noncomputable def m__law_no_text (call : Nat → Fn) : SM :=
  (sSeq (sSet 2 (eLc (itV' (eC (.str "abcdefghijklmnopqrstuvwxyz"))) (.one 5) [5] (tVal (e2 (inD true) (eVar 5) (eVar 0))) (eVar 5)))
  (sSeq (sSet 3 (e2 ixD (eVar 2) (e2 modD (e2 fdivD (eVar 1) (eC (.int 11))) (eCall lenD (aCons (eVar 2) aNil)))))
  (sSeq (sSet 4 (eLst (aCons (eC .non) (aCons (eC (.int 5)) (aCons (eLst (aCons (eVar 0) aNil)) (aCons (eTup (aCons (e2 ixD (eVar 0) (eC (.int 0))) aNil)) (aCons (e2 addD (eVar 0) (eC (.str "A"))) (aCons (eVar 3) (aCons (e2 addD (eVar 0) (eVar 3)) (aCons (e2 addD (eVar 3) (eVar 0)) (aCons (eC (.str " ")) aNil)))))))))))
  (sRet (e2 ixD (e2 addD (eVar 4) (eLst (aCons (e2 mulD (e2 ixD (eVar 0) (eC (.int 0))) (eC (.int 201))) (aCons (eC (.bl true)) aNil)))) (e2 modD (eVar 1) (eC (.int 11))))))))
noncomputable def b__law_no_text (call : Nat → Fn) : Fn := bodyF 6 (m__law_no_text call)
noncomputable def m__law_longest (call : Nat → Fn) : SM :=
  (sSeq (sSet 3 (eVar 2))
  (sSeq (sFor (itR1 (aCons (eC (.int 200)) aNil)) (gVar 4)
  (sSet 3 (e2 ixD (e2 ixD (e2 ixD (eVar 1) (eC (.int 0))) (eVar 3)) (e2 subD (eCall lenD (aCons (eVar 0) aNil)) (eC (.int 1))))))
  (sRet (e2 (eqD false) (eCall (ar 5 (call i__law_told)) (aCons (eC (.int 0)) (aCons (eVar 0) (aCons (eVar 1) (aCons (eVar 2) (aCons (e2 mulD (e2 ixD (eVar 0) (eNeg (eC (.int 1)))) (eC (.int 200))) aNil)))))) (eTup (aCons (eC (.str "told")) (aCons (eVar 3) aNil)))))))
noncomputable def b__law_longest (call : Nat → Fn) : Fn := bodyF 5 (m__law_longest call)
noncomputable def m__law_refused (call : Nat → Fn) : SM :=
  (sSeq (sSet 4 (eCall lenD (aCons (e2 ixD (eVar 1) (eC (.int 1))) aNil)))
  (sSeq (sSet 5 (e2 ixD (eLst (aCons (eNeg (eC (.int 1))) (aCons (eVar 4) (aCons (eC (.bl true)) (aCons (eC .non) (aCons (eC (.str "0")) (aCons (eLst (aCons (eC (.int 0)) aNil)) (aCons (e2 addD (eVar 4) (e2 powD (eC (.int 10)) (eC (.int 9)))) (aCons (eC (.bl false)) (aCons (eTup (aCons (eC (.int 0)) aNil)) aNil)))))))))) (e2 modD (eVar 3) (eC (.int 9)))))
  (sSeq (sSet 6 (eNew (aCons (eCall (ar 5 (call i__law_told)) (aCons (eC (.int 0)) (aCons (eVar 0) (aCons (eVar 1) (aCons (eVar 5) (aCons (eC .non) aNil)))))) aNil)))
  (sSeq (sExpr (eLM apD (eVar 6) (eCall (ar 5 (call i__law_told)) (aCons (eC (.int 0)) (aCons (eVar 0) (aCons (eVar 1) (aCons (eVar 2) (aCons (eCall (ar 2 (call i__law_no_text)) (aCons (eVar 0) (aCons (e2 fdivD (eVar 3) (eC (.int 45))) aNil))) aNil))))))))
  (sSeq (sSet 6 (e2 addN (eVar 6) (eLst (aCons (eCall (ar 5 (call i__law_told)) (aCons (eC (.int 1)) (aCons (eVar 0) (aCons (eVar 1) (aCons (eVar 5) (aCons (eVar 2) aNil)))))) (aCons (eCall (ar 5 (call i__law_told)) (aCons (eC (.int 1)) (aCons (eVar 0) (aCons (eVar 1) (aCons (eVar 2) (aCons (eVar 5) aNil)))))) aNil)))))
  (sSeq (sSet 7 (e2 ixD (eLst (aCons (eC (.str "")) (aCons (eC (.str "aa")) (aCons (eC .non) (aCons (eC (.str "abcde")) (aCons (eC (.str "a1")) aNil)))))) (e2 modD (e2 fdivD (eVar 3) (eC (.int 9))) (eC (.int 5)))))
  (sSeq (sSet 6 (e2 addN (eVar 6) (eLst (aCons (eCall (ar 5 (call i__law_told)) (aCons (eC (.int 0)) (aCons (eVar 7) (aCons (eVar 1) (aCons (eVar 5) (aCons (eC .non) aNil)))))) (aCons (eCall (ar 5 (call i__law_told)) (aCons (eC (.int 1)) (aCons (eVar 7) (aCons (eVar 1) (aCons (eVar 5) (aCons (eVar 5) aNil)))))) aNil)))))
  (sRet (e2 (eqD false) (eVar 6) (eLst (aCons (eLst (aCons (eC (.str "room")) aNil)) (aCons (eLst (aCons (eC (.str "text")) aNil)) (aCons (eLst (aCons (eC (.str "room")) aNil)) (aCons (eLst (aCons (eC (.str "room")) aNil)) (aCons (eLst (aCons (eC (.str "letters")) aNil)) (aCons (eLst (aCons (eC (.str "letters")) aNil)) aNil))))))))))))))))
noncomputable def b__law_refused (call : Nat → Fn) : Fn := bodyF 8 (m__law_refused call)
noncomputable def m__law_good (call : Nat → Fn) : SM :=
  (sSeq (sSet 5 (eVar 2))
  (sSeq (sFor (itV' (eVar 4)) (gVar 6)
  (sSet 5 (e2 ixD (e2 ixD (e2 ixD (eVar 1) (eC (.int 0))) (eVar 5)) (eM1 sindexD (eVar 0) (eVar 6)))))
  (sSeq (sSet 7 (eTup (aCons (eLc (itV' (e2 ixD (eVar 1) (eC (.int 0)))) (.one 11) [11] tYesM (eCall listD (aCons (eVar 11) aNil))) (aCons (eCall listD (aCons (e2 ixD (eVar 1) (eC (.int 1))) aNil)) aNil))))
  (sSeq (sSet 8 (eCall (ar 5 (call i__law_told)) (aCons (eC (.int 0)) (aCons (eVar 0) (aCons (eVar 1) (aCons (eVar 2) (aCons (eVar 4) aNil)))))))
  (sSeq (sIf (tOrM (tVal (e2 (eqD true) (eVar 8) (eTup (aCons (eC (.str "told")) (aCons (eVar 5) aNil))))) (tVal (isiD "bool" (e2 ixD (eVar 8) (eC (.int 1))))))
  (sRet (eC (.bl false)))
  sPass)
  (sSeq (sSet 9 (eTup (aCons (eC (.str "told")) (aCons (eCall (ar 4 (call i__law_due)) (aCons (eVar 0) (aCons (eVar 1) (aCons (eVar 2) (aCons (eVar 3) aNil))))) aNil))))
  (sSeq (sFor (itV' (eTup (aCons (eTup (aCons (eVar 2) (aCons (eVar 3) aNil))) (aCons (eTup (aCons (eVar 3) (aCons (eVar 2) aNil))) (aCons (eTup (aCons (eVar 2) (aCons (eVar 3) aNil))) aNil))))) (gVar 10)
  (sSeq (sSet 8 (eCall (ar 5 (call i__law_told)) (aCons (eC (.int 1)) (aCons (eVar 0) (aCons (eVar 1) (aCons (e2 ixD (eVar 10) (eC (.int 0))) (aCons (e2 ixD (eVar 10) (eC (.int 1))) aNil)))))))
  (sIf (tOrM (tVal (e2 (eqD true) (eVar 8) (eVar 9))) (tVal (e2 (eqD true) (eVar 1) (eVar 7))))
  (sRet (eC (.bl false)))
  sPass)))
  (sRet (eC (.bl true))))))))))
noncomputable def b__law_good (call : Nat → Fn) : Fn := bodyF 12 (m__law_good call)
noncomputable def m_law (call : Nat → Fn) : SM :=
  (sSeq (sSet 1 (eCall (ar 1 (call i__law_letters)) (aCons (eCall (ar 2 (call i__law_cell_at)) (aCons (eVar 0) (aCons (eC (.int 0)) aNil))) aNil)))
  (sSeq (sSet 2 (eCall (ar 2 (call i__law_machine)) (aCons (eVar 1) (aCons (eVar 0) aNil))))
  (sSeq (sSet 3 (eCall lenD (aCons (e2 ixD (eVar 2) (eC (.int 1))) aNil)))
  (sSeq (sSet 4 (e2 modD (eCall (ar 2 (call i__law_cell_at)) (aCons (eVar 0) (aCons (eC (.int 2)) aNil))) (eVar 3)))
  (sSeq (sSet 5 (e2 modD (eCall (ar 2 (call i__law_cell_at)) (aCons (eVar 0) (aCons (eC (.int 3)) aNil))) (eVar 3)))
  (sSeq (sIf (tVal (e2 (eqD false) (e2 modD (eCall (ar 2 (call i__law_cell_at)) (aCons (eVar 0) (aCons (eC (.int 4)) aNil))) (eC (.int 4))) (eC (.int 1))))
  (sSet 5 (eVar 4))
  sPass)
  (sSeq (sSet 6 (eCall (ar 3 (call i__law_text)) (aCons (eVar 1) (aCons (eCall (ar 2 (call i__law_cell_at)) (aCons (eVar 0) (aCons (eC (.int 5)) aNil))) (aCons (eC (.int 12)) aNil)))))
  (sSeq (sIf (tNotM (tVal (eCall (ar 5 (call i__law_good)) (aCons (eVar 1) (aCons (eVar 2) (aCons (eVar 4) (aCons (eVar 5) (aCons (eVar 6) aNil))))))))
  (sRet (eC (.bl false)))
  sPass)
  (sSeq (sAsg (eNot (e2 ixD (e2 ixD (eVar 2) (eC (.int 1))) (eVar 5))) (gSetL (e2 ixD (eVar 2) (eC (.int 1))) (eVar 5)))
  (sSeq (sAsg (e2 modD (e2 fdivD (eCall (ar 2 (call i__law_cell_at)) (aCons (eVar 0) (aCons (eC (.int 4)) aNil))) (eC (.int 4))) (eVar 3)) (gSetL (e2 ixD (e2 ixD (eVar 2) (eC (.int 0))) (eVar 4)) (eC (.int 0))))
  (sSeq (sIf (tOrM (tNotM (tVal (eCall (ar 5 (call i__law_good)) (aCons (eVar 1) (aCons (eVar 2) (aCons (eVar 4) (aCons (eVar 5) (aCons (eVar 6) aNil)))))))) (tNotM (tVal (eCall (ar 3 (call i__law_longest)) (aCons (eVar 1) (aCons (eVar 2) (aCons (eVar 5) aNil)))))))
  (sRet (eC (.bl false)))
  sPass)
  (sRet (eCall (ar 4 (call i__law_refused)) (aCons (eVar 1) (aCons (eVar 2) (aCons (eVar 4) (aCons (e2 modD (e2 mulD (eCall absD (aCons (eCall (ar 2 (call i__law_cell_at)) (aCons (eVar 0) (aCons (eC (.int 4)) aNil))) aNil)) (eC (.int 48271))) (eC (.int 1000003))) aNil)))))))))))))))))
noncomputable def b_law (call : Nat → Fn) : Fn := bodyF 7 (m_law call)
noncomputable def fns : Nat → Nat → Fn
  | 0, _ => fun _ _ => .bad
  | k + 1, 0 => b_are_letters (fns k)
  | k + 1, 1 => b_need_letters (fns k)
  | k + 1, 2 => b_is_sign (fns k)
  | k + 1, 3 => b_need_text (fns k)
  | k + 1, 4 => b_need_room (fns k)
  | k + 1, 5 => b_room_of (fns k)
  | k + 1, 6 => pureRet (b_parting (fns k))
  | k + 1, 7 => b__law_cell_at (fns k)
  | k + 1, 8 => b__law_letters (fns k)
  | k + 1, 9 => b__law_text (fns k)
  | k + 1, 10 => b__law_machine (fns k)
  | k + 1, 11 => b__law_far (fns k)
  | k + 1, 12 => pureRet (b__law_due (fns k))
  | k + 1, 13 => b__law_told (fns k)
  | k + 1, 14 => b__law_no_text (fns k)
  | k + 1, 15 => b__law_longest (fns k)
  | k + 1, 16 => b__law_refused (fns k)
  | k + 1, 17 => b__law_good (fns k)
  | k + 1, 18 => b_law (fns k)
  | _ + 1, _ => fun _ _ => .bad
theorem e_are_letters (k : Nat) : fns (k + 1) i_are_letters = bodyF 2 (m_are_letters (fns k)) := rfl
theorem e_need_letters (k : Nat) : fns (k + 1) i_need_letters = bodyF 1 (m_need_letters (fns k)) := rfl
theorem e_is_sign (k : Nat) : fns (k + 1) i_is_sign = bodyF 2 (m_is_sign (fns k)) := rfl
theorem e_need_text (k : Nat) : fns (k + 1) i_need_text = bodyF 3 (m_need_text (fns k)) := rfl
theorem e_need_room (k : Nat) : fns (k + 1) i_need_room = bodyF 2 (m_need_room (fns k)) := rfl
theorem e_room_of (k : Nat) : fns (k + 1) i_room_of = bodyF 5 (m_room_of (fns k)) := rfl
theorem e_parting (k : Nat) : fns (k + 1) i_parting = pureRet (bodyF 14 (m_parting (fns k))) := rfl
theorem e__law_cell_at (k : Nat) : fns (k + 1) i__law_cell_at = bodyF 2 (m__law_cell_at (fns k)) := rfl
theorem e__law_letters (k : Nat) : fns (k + 1) i__law_letters = bodyF 3 (m__law_letters (fns k)) := rfl
theorem e__law_text (k : Nat) : fns (k + 1) i__law_text = bodyF 6 (m__law_text (fns k)) := rfl
theorem e__law_machine (k : Nat) : fns (k + 1) i__law_machine = bodyF 9 (m__law_machine (fns k)) := rfl
theorem e__law_far (k : Nat) : fns (k + 1) i__law_far = bodyF 11 (m__law_far (fns k)) := rfl
theorem e__law_due (k : Nat) : fns (k + 1) i__law_due = pureRet (bodyF 11 (m__law_due (fns k))) := rfl
theorem e__law_told (k : Nat) : fns (k + 1) i__law_told = bodyF 6 (m__law_told (fns k)) := rfl
theorem e__law_no_text (k : Nat) : fns (k + 1) i__law_no_text = bodyF 6 (m__law_no_text (fns k)) := rfl
theorem e__law_longest (k : Nat) : fns (k + 1) i__law_longest = bodyF 5 (m__law_longest (fns k)) := rfl
theorem e__law_refused (k : Nat) : fns (k + 1) i__law_refused = bodyF 8 (m__law_refused (fns k)) := rfl
theorem e__law_good (k : Nat) : fns (k + 1) i__law_good = bodyF 12 (m__law_good (fns k)) := rfl
theorem e_law (k : Nat) : fns (k + 1) i_law = bodyF 7 (m_law (fns k)) := rfl
structure Tx (K : PySem.W.Frag) (mg : Str → Option Value) where
  a : Nat → Addr
  fd : Nat → FuncData
  ca : Nat → Addr
  F0 : Fun K "are_letters" "are_letters" s_are_letters (a 0) (fd 0)
  g0 : mg "are_letters" = some (.ref (a 0))
  b0 : Binds K (fd 0) ["thing"] []
  F1 : Fun K "need_letters" "need_letters" s_need_letters (a 1) (fd 1)
  g1 : mg "need_letters" = some (.ref (a 1))
  b1 : Binds K (fd 1) ["letters"] []
  F2 : Fun K "is_sign" "is_sign" s_is_sign (a 2) (fd 2)
  g2 : mg "is_sign" = some (.ref (a 2))
  b2 : Binds K (fd 2) ["letters", "thing"] []
  F3 : Fun K "need_text" "need_text" s_need_text (a 3) (fd 3)
  g3 : mg "need_text" = some (.ref (a 3))
  b3 : Binds K (fd 3) ["letters", "text"] []
  F4 : Fun K "need_room" "need_room" s_need_room (a 4) (fd 4)
  g4 : mg "need_room" = some (.ref (a 4))
  b4 : Binds K (fd 4) ["machine", "room"] []
  F5 : Fun K "room_of" "room_of" s_room_of (a 5) (fd 5)
  g5 : mg "room_of" = some (.ref (a 5))
  b5 : Binds K (fd 5) ["letters", "machine", "room", "text"] []
  F6 : Fun K "parting" "parting" s_parting (a 6) (fd 6)
  g6 : mg "parting" = some (.ref (a 6))
  b6 : Binds K (fd 6) ["letters", "machine", "room", "other"] []
  F7 : Fun K "_law_cell_at" "_law_cell_at" s__law_cell_at (a 7) (fd 7)
  g7 : mg "_law_cell_at" = some (.ref (a 7))
  b7 : Binds K (fd 7) ["_law_script", "_law_k"] []
  F8 : Fun K "_law_letters" "_law_letters" s__law_letters (a 8) (fd 8)
  g8 : mg "_law_letters" = some (.ref (a 8))
  b8 : Binds K (fd 8) ["_law_cell"] []
  F9 : Fun K "_law_text" "_law_text" s__law_text (a 9) (fd 9)
  g9 : mg "_law_text" = some (.ref (a 9))
  b9 : Binds K (fd 9) ["_law_letters_here", "_law_cell", "_law_most"] []
  F10 : Fun K "_law_machine" "_law_machine" s__law_machine (a 10) (fd 10)
  g10 : mg "_law_machine" = some (.ref (a 10))
  b10 : Binds K (fd 10) ["_law_letters_here", "_law_script"] []
  F11 : Fun K "_law_far" "_law_far" s__law_far (a 11) (fd 11)
  g11 : mg "_law_far" = some (.ref (a 11))
  b11 : Binds K (fd 11) ["_law_steps", "_law_ends"] []
  F12 : Fun K "_law_due" "_law_due" s__law_due (a 12) (fd 12)
  g12 : mg "_law_due" = some (.ref (a 12))
  b12 : Binds K (fd 12) ["_law_letters_here", "_law_machine_here", "_law_one", "_law_two"] []
  F13 : Fun K "_law_told" "_law_told" s__law_told (a 13) (fd 13)
  g13 : mg "_law_told" = some (.ref (a 13))
  b13 : Binds K (fd 13) ["_law_way", "_law_letters_here", "_law_machine_here", "_law_room", "_law_thing"] []
  F14 : Fun K "_law_no_text" "_law_no_text" s__law_no_text (a 14) (fd 14)
  g14 : mg "_law_no_text" = some (.ref (a 14))
  b14 : Binds K (fd 14) ["_law_letters_here", "_law_cell"] []
  F15 : Fun K "_law_longest" "_law_longest" s__law_longest (a 15) (fd 15)
  g15 : mg "_law_longest" = some (.ref (a 15))
  b15 : Binds K (fd 15) ["_law_letters_here", "_law_machine_here", "_law_room"] []
  F16 : Fun K "_law_refused" "_law_refused" s__law_refused (a 16) (fd 16)
  g16 : mg "_law_refused" = some (.ref (a 16))
  b16 : Binds K (fd 16) ["_law_letters_here", "_law_machine_here", "_law_room", "_law_cell"] []
  F17 : Fun K "_law_good" "_law_good" s__law_good (a 17) (fd 17)
  g17 : mg "_law_good" = some (.ref (a 17))
  b17 : Binds K (fd 17) ["_law_letters_here", "_law_machine_here", "_law_one", "_law_two", "_law_text_here"] []
  F18 : Fun K "law" "law" s_law (a 18) (fd 18)
  g18 : mg "law" = some (.ref (a 18))
  b18 : Binds K (fd 18) ["_law_script"] []
  n_ValueError : mg "ValueError" = none
  n_abs : mg "abs" = none
  n_all : mg "all" = none
  n_bool : mg "bool" = none
  n_enumerate : mg "enumerate" = none
  n_int : mg "int" = none
  n_isinstance : mg "isinstance" = none
  n_len : mg "len" = none
  n_list : mg "list" = none
  n_range : mg "range" = none
  n_str : mg "str" = none
  n_zip : mg "zip" = none
  k_SMALL : GlobD K mg "SMALL" (.str "abcdefghijklmnopqrstuvwxyz")
  k_MOST_LETTERS : GlobD K mg "MOST_LETTERS" (.int 4)
  k_MOST_SIGNS : GlobD K mg "MOST_SIGNS" (.int 200)
  x0 : ExT K mg "PatternError" (ca 0)
  x1 : ExT K mg "NoLetters" (ca 1)
  x2 : ExT K mg "NoPattern" (ca 2)
  x3 : ExT K mg "TooGreat" (ca 3)
  x4 : ExT K mg "NoText" (ca 4)
  x5 : ExT K mg "NoRoom" (ca 5)
  ak : Addr
  fdk : FuncData
  F_kind : Fun K "_law_kind" "_law_kind" s__law_kind ak fdk
  g_kind : mg "_law_kind" = some (.ref ak)
  b_kind : Binds K fdk ["_law_error"] []
  xk : ExK K ca
structure Ok (P : Program) (w : World) (K : PySem.W.Frag) (mg : Str → Option Value) (base : Heap) (T : Tx K mg) (k : Nat) : Prop where
  o0 : FnOk P w K mg base (L2N.CX P w) (k + 1) (T.a 0) (T.fd 0) ["thing"] (spOf K T.ca 1 (fns k 0))
  o1 : FnOk P w K mg base (L2N.CX P w) (k + 1) (T.a 1) (T.fd 1) ["letters"] (spOf K T.ca 1 (fns k 1))
  o2 : FnOk P w K mg base (L2N.CX P w) (k + 1) (T.a 2) (T.fd 2) ["letters", "thing"] (spOf K T.ca 2 (fns k 2))
  o3 : FnOk P w K mg base (L2N.CX P w) (k + 1) (T.a 3) (T.fd 3) ["letters", "text"] (spOf K T.ca 2 (fns k 3))
  o4 : FnOk P w K mg base (L2N.CX P w) (k + 1) (T.a 4) (T.fd 4) ["machine", "room"] (spOf K T.ca 2 (fns k 4))
  o5 : FnOk P w K mg base (L2N.CX P w) (k + 1) (T.a 5) (T.fd 5) ["letters", "machine", "room", "text"] (spOf K T.ca 4 (fns k 5))
  o6 : FnOk P w K mg base (L2N.CX P w) (k + 1) (T.a 6) (T.fd 6) ["letters", "machine", "room", "other"] (spOf K T.ca 4 (fns k 6))
  o7 : FnOk P w K mg base (L2N.CX P w) (k + 1) (T.a 7) (T.fd 7) ["_law_script", "_law_k"] (spOf K T.ca 2 (fns k 7))
  o8 : FnOk P w K mg base (L2N.CX P w) (k + 1) (T.a 8) (T.fd 8) ["_law_cell"] (spOf K T.ca 1 (fns k 8))
  o9 : FnOk P w K mg base (L2N.CX P w) (k + 1) (T.a 9) (T.fd 9) ["_law_letters_here", "_law_cell", "_law_most"] (spOf K T.ca 3 (fns k 9))
  o10 : FnOk P w K mg base (L2N.CX P w) (k + 1) (T.a 10) (T.fd 10) ["_law_letters_here", "_law_script"] (spOf K T.ca 2 (fns k 10))
  o11 : FnOk P w K mg base (L2N.CX P w) (k + 1) (T.a 11) (T.fd 11) ["_law_steps", "_law_ends"] (spOf K T.ca 2 (fns k 11))
  o12 : FnOk P w K mg base (L2N.CX P w) (k + 1) (T.a 12) (T.fd 12) ["_law_letters_here", "_law_machine_here", "_law_one", "_law_two"] (spOf K T.ca 4 (fns k 12))
  o13 : FnOk P w K mg base (L2N.CX P w) (k + 1) (T.a 13) (T.fd 13) ["_law_way", "_law_letters_here", "_law_machine_here", "_law_room", "_law_thing"] (spOf K T.ca 5 (fns k 13))
  o14 : FnOk P w K mg base (L2N.CX P w) (k + 1) (T.a 14) (T.fd 14) ["_law_letters_here", "_law_cell"] (spOf K T.ca 2 (fns k 14))
  o15 : FnOk P w K mg base (L2N.CX P w) (k + 1) (T.a 15) (T.fd 15) ["_law_letters_here", "_law_machine_here", "_law_room"] (spOf K T.ca 3 (fns k 15))
  o16 : FnOk P w K mg base (L2N.CX P w) (k + 1) (T.a 16) (T.fd 16) ["_law_letters_here", "_law_machine_here", "_law_room", "_law_cell"] (spOf K T.ca 4 (fns k 16))
  o17 : FnOk P w K mg base (L2N.CX P w) (k + 1) (T.a 17) (T.fd 17) ["_law_letters_here", "_law_machine_here", "_law_one", "_law_two", "_law_text_here"] (spOf K T.ca 5 (fns k 17))
  o18 : FnOk P w K mg base (L2N.CX P w) (k + 1) (T.a 18) (T.fd 18) ["_law_script"] (spOf K T.ca 1 (fns k 18))
  kd : FnP P w K mg base (L2N.CX P w) 1 T.ak T.fdk ["_law_error"] (spKind K T.ca)
section
variable {P : Program} {w : World} {K : PySem.W.Frag} {mg : Str → Option Value} {base : Heap}
theorem ok_kind (T : Tx K mg) : FnP P w K mg base (L2N.CX P w) 1 T.ak T.fdk ["_law_error"] (spKind K T.ca) :=
  fn_kind (ca := T.ca) (N := ["_law_error", "_law_found", "_law_word", "_law_is_one"]) rfl T.F_kind sc__law_kind (fun X p c ⟨cdv, A, outer, s, H, E, hX⟩ hr hot hpn h1 h5 hz => by
    subst hX
    have nd := sc__law_kind.nd
    have hu := huH hr
    have hf : ∃ vs, p.2.data = .fields vs := by obtain ⟨vs, e, _⟩ := hot.2; exact ⟨vs, e⟩
    have X1 := T.xk.c c h1 h5
    have X2 := T.xk.ko c
    have X3 := T.xk.kv c h1 h5
    show DSs _ T.ca _ _ (m_kind c p.1)
    exact (dss_cons wid_0 (ds_set 1 nd (de_lst (da_cons (de_tup (da_cons de_str (da_cons (de_isE (b := decide (c = 1)) T.x1.g X1 hpn hz hf (X2 1 h1 h5 (by decide) (by decide)) T.n_isinstance (de_var 0)) da_nil))) (da_cons (de_tup (da_cons de_str (da_cons (de_isE (b := decide (c = 2)) T.x2.g X1 hpn hz hf (X2 2 h1 h5 (by decide) (by decide)) T.n_isinstance (de_var 0)) da_nil))) da_nil))))
      (dss_cons wid_0 (ds_set 1 nd (de_bin op_addA imp_add (de_var 1) (de_lst (da_cons (de_tup (da_cons de_str (da_cons (de_isE (b := decide (c = 3)) T.x3.g X1 hpn hz hf (X2 3 h1 h5 (by decide) (by decide)) T.n_isinstance (de_var 0)) da_nil))) (da_cons (de_tup (da_cons de_str (da_cons (de_isE (b := decide (c = 4)) T.x4.g X1 hpn hz hf (X2 4 h1 h5 (by decide) (by decide)) T.n_isinstance (de_var 0)) da_nil))) da_nil)))))
      (dss_cons wid_0 (ds_setLcH (p := p) (t := .two 2 3) (own := [("_law_word", 2), ("_law_is_one", 3)]) 1 hot hpn nd (dih_list (de_bin op_addA imp_add (de_var 1) (de_lst (da_cons (de_tup (da_cons de_str (da_cons (de_isE (b := decide (c = 5)) T.x5.g X1 hpn hz hf (X2 5 h1 h5 (by decide) (by decide)) T.n_isinstance (de_var 0)) da_nil))) da_nil))))
          (blkOk_by (N := ["_law_error", "_law_found", "_law_word", "_law_is_one"]) (sc := defScope s__law_kind) (by decide +kernel)) ⟨List.mem_cons_self, List.mem_cons_of_mem _ List.mem_cons_self⟩ (fun _ _ _ _ _ b => tg_twoH 2 3 hot.1 b nd) (fun _ _ _ _ _ => dts_one (dt_val (de_var 3))) (fun _ _ _ _ _ => de_var 2))
      (dss_one (ds_ret (de_bin op_mulA imp_mul (de_var 1) (de_callTy call_int1 imp_int rfl T.n_int B.int (da_cons (de_and (de_cmp (op_eqP hu) (imp_eqP false) (de_callB call_len imp_len rfl T.n_len PySem.boot_len (da_cons (de_var 1) da_nil)) de_int) (de_one (de_isEV X1 hpn hz hf X3 T.n_isinstance T.n_ValueError (de_var 0)))) da_nil)))))))))
theorem ok_are_letters {k : Nat} (T : Tx K mg) (O : Ok P w K mg base T k) : FnOk P w K mg base (L2N.CX P w) (k + 2) (T.a 0) (T.fd 0) ["thing"] (spOf K T.ca 1 (fns (k + 1) 0)) := by
  show FnOk P w K mg base (L2N.CX P w) (k + 2) (T.a 0) (T.fd 0) ["thing"] (spOf K T.ca 1 (b_are_letters (fns k)))
  exact fn_ok (N := ["thing", "sign"]) 2 1 (m_are_letters (fns k)) rfl rfl T.F0 sc_are_letters (fun X E ⟨cdv, A, outer, s, H, hX⟩ hr => by
    subst hX
    have nd := sc_are_letters.nd
    have hu := hu200 hr
    have hW := wid_fn (E := E)
    have tk := tk_fn (P := P) (w := w) (K := K) (mg := mg) (base := base) (N := ["thing", "sign"]) (qual := "are_letters") (scope := defScope s_are_letters) (f := T.a 0) (cd := cdv) (A := A) (outer := outer) (s := s) (H := H) (E := E)
    have hp := hp_fn (P := P) (w := w) (K := K) (mg := mg) (base := base) (N := ["thing", "sign"]) (qual := "are_letters") (scope := defScope s_are_letters) (f := T.a 0) (cd := cdv) (A := A) (outer := outer) (s := s) (H := H) (E := E)
    show DSs _ T.ca _ _ (m_are_letters (fns k))
    exact (dss_cons hW (ds_if (dt_w (dw_or (dt_not (dt_val (de_isi T.n_isinstance T.n_str B.str (by decide) (de_var 0)))) (dw_or1 (dt_not (dt_chain op_le op_le imp_le imp_le de_int (de_callB call_len imp_len rfl T.n_len PySem.boot_len (da_cons (de_var 0) da_nil)) (de_globD rfl T.k_MOST_LETTERS))))))
  (dss_one (ds_ret de_bl))
  dss_nil)
  (dss_one (ds_ret (de_callB (cr_all rfl) imp_all rfl T.n_all boot_all (da_cons (de_lc rfl nd (t := (.one 1)) (own := [("sign", 1)]) (di_any (de_var 0)) (blkOk_by (N := ["thing", "sign"]) (sc := defScope s_are_letters) (by decide +kernel)) List.mem_cons_self (fun _ _ _ _ _ => tg_one 1 nd) (fun _ _ _ _ _ => dts_nil) (fun _ _ _ _ _ => (de_and (de_cmp (op_inA hu) (imp_in false) (de_var 1) (de_globD rfl T.k_SMALL)) (de_one (de_cmp (op_eqP hu) (imp_eqP false) (de_count (de_var 0) (de_var 1)) de_int))))) da_nil))))))
theorem ok_need_letters {k : Nat} (T : Tx K mg) (O : Ok P w K mg base T k) : FnOk P w K mg base (L2N.CX P w) (k + 2) (T.a 1) (T.fd 1) ["letters"] (spOf K T.ca 1 (fns (k + 1) 1)) := by
  show FnOk P w K mg base (L2N.CX P w) (k + 2) (T.a 1) (T.fd 1) ["letters"] (spOf K T.ca 1 (b_need_letters (fns k)))
  exact fn_ok (N := ["letters"]) 1 1 (m_need_letters (fns k)) rfl rfl T.F1 sc_need_letters (fun X E ⟨cdv, A, outer, s, H, hX⟩ hr => by
    subst hX
    have nd := sc_need_letters.nd
    have hu := hu200 hr
    have hW := wid_fn (E := E)
    have tk := tk_fn (P := P) (w := w) (K := K) (mg := mg) (base := base) (N := ["letters"]) (qual := "need_letters") (scope := defScope s_need_letters) (f := T.a 1) (cd := cdv) (A := A) (outer := outer) (s := s) (H := H) (E := E)
    have hp := hp_fn (P := P) (w := w) (K := K) (mg := mg) (base := base) (N := ["letters"]) (qual := "need_letters") (scope := defScope s_need_letters) (f := T.a 1) (cd := cdv) (A := A) (outer := outer) (s := s) (H := H) (E := E)
    show DSs _ T.ca _ _ (m_need_letters (fns k))
    exact (dss_one (ds_if (dt_not (dt_val (de_call O.o0 hr tk T.g0 T.F0.kp T.b0 (da_cons (de_var 0) da_nil))))
  (dss_one (ds_raise (c := 1) T.x1 rfl tk))
  dss_nil)))
theorem ok_is_sign {k : Nat} (T : Tx K mg) (O : Ok P w K mg base T k) : FnOk P w K mg base (L2N.CX P w) (k + 2) (T.a 2) (T.fd 2) ["letters", "thing"] (spOf K T.ca 2 (fns (k + 1) 2)) := by
  show FnOk P w K mg base (L2N.CX P w) (k + 2) (T.a 2) (T.fd 2) ["letters", "thing"] (spOf K T.ca 2 (b_is_sign (fns k)))
  exact fn_ok (N := ["letters", "thing"]) 2 2 (m_is_sign (fns k)) rfl rfl T.F2 sc_is_sign (fun X E ⟨cdv, A, outer, s, H, hX⟩ hr => by
    subst hX
    have nd := sc_is_sign.nd
    have hu := hu200 hr
    have hW := wid_fn (E := E)
    have tk := tk_fn (P := P) (w := w) (K := K) (mg := mg) (base := base) (N := ["letters", "thing"]) (qual := "is_sign") (scope := defScope s_is_sign) (f := T.a 2) (cd := cdv) (A := A) (outer := outer) (s := s) (H := H) (E := E)
    have hp := hp_fn (P := P) (w := w) (K := K) (mg := mg) (base := base) (N := ["letters", "thing"]) (qual := "is_sign") (scope := defScope s_is_sign) (f := T.a 2) (cd := cdv) (A := A) (outer := outer) (s := s) (H := H) (E := E)
    show DSs _ T.ca _ _ (m_is_sign (fns k))
    exact (dss_one (ds_ret (de_and (de_isi T.n_isinstance T.n_str B.str (by decide) (de_var 1)) (de_and (de_cmp (op_eqP hu) (imp_eqP false) (de_callB call_len imp_len rfl T.n_len PySem.boot_len (da_cons (de_var 1) da_nil)) de_int) (de_one (de_cmp (op_inA hu) (imp_in false) (de_var 1) (de_var 0))))))))
theorem ok_need_text {k : Nat} (T : Tx K mg) (O : Ok P w K mg base T k) : FnOk P w K mg base (L2N.CX P w) (k + 2) (T.a 3) (T.fd 3) ["letters", "text"] (spOf K T.ca 2 (fns (k + 1) 3)) := by
  show FnOk P w K mg base (L2N.CX P w) (k + 2) (T.a 3) (T.fd 3) ["letters", "text"] (spOf K T.ca 2 (b_need_text (fns k)))
  exact fn_ok (N := ["letters", "text", "sign"]) 3 2 (m_need_text (fns k)) rfl rfl T.F3 sc_need_text (fun X E ⟨cdv, A, outer, s, H, hX⟩ hr => by
    subst hX
    have nd := sc_need_text.nd
    have hu := hu200 hr
    have hW := wid_fn (E := E)
    have tk := tk_fn (P := P) (w := w) (K := K) (mg := mg) (base := base) (N := ["letters", "text", "sign"]) (qual := "need_text") (scope := defScope s_need_text) (f := T.a 3) (cd := cdv) (A := A) (outer := outer) (s := s) (H := H) (E := E)
    have hp := hp_fn (P := P) (w := w) (K := K) (mg := mg) (base := base) (N := ["letters", "text", "sign"]) (qual := "need_text") (scope := defScope s_need_text) (f := T.a 3) (cd := cdv) (A := A) (outer := outer) (s := s) (H := H) (E := E)
    show DSs _ T.ca _ _ (m_need_text (fns k))
    exact (dss_one (ds_if (dt_w (dw_or (dt_not (dt_val (de_isi T.n_isinstance T.n_str B.str (by decide) (de_var 1)))) (dw_or (dt_cmp op_gt imp_gt (de_callB call_len imp_len rfl T.n_len PySem.boot_len (da_cons (de_var 1) da_nil)) (de_globD rfl T.k_MOST_SIGNS)) (dw_or1 (dt_not (dt_val (de_callB (cr_all rfl) imp_all rfl T.n_all boot_all (da_cons (de_lc rfl nd (t := (.one 2)) (own := [("sign", 2)]) (di_any (de_var 1)) (blkOk_by (N := ["letters", "text", "sign"]) (sc := defScope s_need_text) (by decide +kernel)) List.mem_cons_self (fun _ _ _ _ _ => tg_one 2 nd) (fun _ _ _ _ _ => dts_nil) (fun _ _ _ _ _ => (de_call O.o2 hr takes0N T.g2 T.F2.kp T.b2 (da_cons (de_var 0) (da_cons (de_var 2) da_nil))))) da_nil))))))))
  (dss_one (ds_raise (c := 4) T.x4 rfl tk))
  dss_nil)))
theorem ok_need_room {k : Nat} (T : Tx K mg) (O : Ok P w K mg base T k) : FnOk P w K mg base (L2N.CX P w) (k + 2) (T.a 4) (T.fd 4) ["machine", "room"] (spOf K T.ca 2 (fns (k + 1) 4)) := by
  show FnOk P w K mg base (L2N.CX P w) (k + 2) (T.a 4) (T.fd 4) ["machine", "room"] (spOf K T.ca 2 (b_need_room (fns k)))
  exact fn_ok (N := ["machine", "room"]) 2 2 (m_need_room (fns k)) rfl rfl T.F4 sc_need_room (fun X E ⟨cdv, A, outer, s, H, hX⟩ hr => by
    subst hX
    have nd := sc_need_room.nd
    have hu := hu200 hr
    have hW := wid_fn (E := E)
    have tk := tk_fn (P := P) (w := w) (K := K) (mg := mg) (base := base) (N := ["machine", "room"]) (qual := "need_room") (scope := defScope s_need_room) (f := T.a 4) (cd := cdv) (A := A) (outer := outer) (s := s) (H := H) (E := E)
    have hp := hp_fn (P := P) (w := w) (K := K) (mg := mg) (base := base) (N := ["machine", "room"]) (qual := "need_room") (scope := defScope s_need_room) (f := T.a 4) (cd := cdv) (A := A) (outer := outer) (s := s) (H := H) (E := E)
    show DSs _ T.ca _ _ (m_need_room (fns k))
    exact (dss_one (ds_if (dt_w (dw_or (dt_not (dt_val (de_isi T.n_isinstance T.n_int B.int (by decide) (de_var 1)))) (dw_or (dt_val (de_isi T.n_isinstance T.n_bool B.bool (by decide) (de_var 1))) (dw_or1 (dt_not (dt_chain op_le op_lt imp_le imp_lt de_int (de_var 1) (de_callB call_len imp_len rfl T.n_len PySem.boot_len (da_cons (de_ix (de_var 0) de_int) da_nil))))))))
  (dss_one (ds_raise (c := 5) T.x5 rfl tk))
  dss_nil)))
theorem ok_room_of {k : Nat} (T : Tx K mg) (O : Ok P w K mg base T k) : FnOk P w K mg base (L2N.CX P w) (k + 2) (T.a 5) (T.fd 5) ["letters", "machine", "room", "text"] (spOf K T.ca 4 (fns (k + 1) 5)) := by
  show FnOk P w K mg base (L2N.CX P w) (k + 2) (T.a 5) (T.fd 5) ["letters", "machine", "room", "text"] (spOf K T.ca 4 (b_room_of (fns k)))
  exact fn_ok (N := ["letters", "machine", "room", "text", "sign"]) 5 4 (m_room_of (fns k)) rfl rfl T.F5 sc_room_of (fun X E ⟨cdv, A, outer, s, H, hX⟩ hr => by
    subst hX
    have nd := sc_room_of.nd
    have hu := hu200 hr
    have hW := wid_fn (E := E)
    have tk := tk_fn (P := P) (w := w) (K := K) (mg := mg) (base := base) (N := ["letters", "machine", "room", "text", "sign"]) (qual := "room_of") (scope := defScope s_room_of) (f := T.a 5) (cd := cdv) (A := A) (outer := outer) (s := s) (H := H) (E := E)
    have hp := hp_fn (P := P) (w := w) (K := K) (mg := mg) (base := base) (N := ["letters", "machine", "room", "text", "sign"]) (qual := "room_of") (scope := defScope s_room_of) (f := T.a 5) (cd := cdv) (A := A) (outer := outer) (s := s) (H := H) (E := E)
    show DSs _ T.ca _ _ (m_room_of (fns k))
    exact (dss_cons hW (ds_expr (de_call O.o1 hr tk T.g1 T.F1.kp T.b1 (da_cons (de_var 0) da_nil)))
  (dss_cons hW (ds_expr (de_call O.o4 hr tk T.g4 T.F4.kp T.b4 (da_cons (de_var 1) (da_cons (de_var 2) da_nil))))
  (dss_cons hW (ds_expr (de_call O.o3 hr tk T.g3 T.F3.kp T.b3 (da_cons (de_var 0) (da_cons (de_var 3) da_nil))))
  (dss_cons hW (ds_for hW hp rfl (di_any (de_var 3)) (dg_name 4 nd)
  (dss_one (ds_set 2 nd (de_ix (de_ix (de_ix (de_var 1) de_int) (de_var 2)) (de_sindex (de_var 0) (de_var 4))))))
  (dss_one (ds_ret (de_var 2))))))))
theorem ok_parting {k : Nat} (T : Tx K mg) (O : Ok P w K mg base T k) : FnOk P w K mg base (L2N.CX P w) (k + 2) (T.a 6) (T.fd 6) ["letters", "machine", "room", "other"] (spOf K T.ca 4 (fns (k + 1) 6)) := by
  show FnOk P w K mg base (L2N.CX P w) (k + 2) (T.a 6) (T.fd 6) ["letters", "machine", "room", "other"] (spOf K T.ca 4 (pureRet (b_parting (fns k))))
  exact fn_pure (fn_ok (N := ["letters", "machine", "room", "other", "ways", "row", "at", "steps", "ends", "one", "two", "place", "sign", "pair"]) 14 4 (m_parting (fns k)) rfl rfl T.F6 sc_parting (fun X E ⟨cdv, A, outer, s, H, hX⟩ hr => by
    subst hX
    have nd := sc_parting.nd
    have hu := hu200 hr
    have hW := wid_fn (E := E)
    have tk := tk_fn (P := P) (w := w) (K := K) (mg := mg) (base := base) (N := ["letters", "machine", "room", "other", "ways", "row", "at", "steps", "ends", "one", "two", "place", "sign", "pair"]) (qual := "parting") (scope := defScope s_parting) (f := T.a 6) (cd := cdv) (A := A) (outer := outer) (s := s) (H := H) (E := E)
    have hp := hp_fn (P := P) (w := w) (K := K) (mg := mg) (base := base) (N := ["letters", "machine", "room", "other", "ways", "row", "at", "steps", "ends", "one", "two", "place", "sign", "pair"]) (qual := "parting") (scope := defScope s_parting) (f := T.a 6) (cd := cdv) (A := A) (outer := outer) (s := s) (H := H) (E := E)
    show DSs _ T.ca _ _ (m_parting (fns k))
    exact (dss_cons hW (ds_expr (de_call O.o1 hr tk T.g1 T.F1.kp T.b1 (da_cons (de_var 0) da_nil)))
  (dss_cons hW (ds_expr (de_call O.o4 hr tk T.g4 T.F4.kp T.b4 (da_cons (de_var 1) (da_cons (de_var 2) da_nil))))
  (dss_cons hW (ds_expr (de_call O.o4 hr tk T.g4 T.F4.kp T.b4 (da_cons (de_var 1) (da_cons (de_var 3) da_nil))))
  (dss_cons hW (ds_asg (de_var 1) (dg_tup (n := 2) rfl (dgs_cons hW (dg_name 7 nd) (dgs_cons hW (dg_name 8 nd) dgs_nil))))
  (dss_cons hW (ds_set 4 nd (de_disT (hu1 hr) (de_tup (da_cons (de_var 2) (da_cons (de_var 3) da_nil))) de_str))
  (dss_cons hW (ds_set 5 nd (de_new (da_cons (de_tup (da_cons (de_var 2) (da_cons (de_var 3) da_nil))) da_nil)))
  (dss_cons hW (ds_set 6 nd de_int)
  (dss_cons hW (ds_while hW hp (dt_cmp op_lt imp_lt (de_var 6) (de_callB call_len imp_len rfl T.n_len PySem.boot_len (da_cons (de_var 5) da_nil)))
  (dss_cons hW (ds_asg (de_ix (de_var 5) (de_var 6)) (dg_tup (n := 2) rfl (dgs_cons hW (dg_name 9 nd) (dgs_cons hW (dg_name 10 nd) dgs_nil))))
  (dss_cons hW (ds_if (dt_cmp (op_neP hu) (imp_eqP true) (de_ix (de_var 8) (de_var 9)) (de_ix (de_var 8) (de_var 10)))
  (dss_one (ds_ret (de_dgetT (hu1 hr) (de_var 4) (de_ix (de_var 5) (de_var 6)))))
  dss_nil)
  (dss_cons hW (ds_for hW hp rfl (di_enumS T.n_enumerate (da_cons (de_var 0) da_nil)) (dg_tup (n := 2) rfl (dgs_cons hW (dg_name 11 nd) (dgs_cons hW (dg_name 12 nd) dgs_nil)))
  (dss_cons hW (ds_set 13 nd (de_tup (da_cons (de_ix (de_ix (de_var 7) (de_var 9)) (de_var 11)) (da_cons (de_ix (de_ix (de_var 7) (de_var 10)) (de_var 11)) da_nil))))
  (dss_one (ds_if (dt_cmp (op_notInT (hu1 hr)) (imp_inT true) (de_var 13) (de_var 4))
  (dss_cons hW (ds_asg (de_bin op_addA imp_add (de_dgetT (hu1 hr) (de_var 4) (de_ix (de_var 5) (de_var 6))) (de_var 12)) (dg_putT (hu1 hr) (de_var 4) (de_var 13)))
  (dss_one (ds_expr (de_append (de_var 5) (de_var 13)))))
  dss_nil))))
  (dss_one (ds_set 6 nd (de_bin op_addA imp_add (de_var 6) de_int)))))))
  (dss_one (ds_ret de_non))))))))))))
theorem ok__law_cell_at {k : Nat} (T : Tx K mg) (O : Ok P w K mg base T k) : FnOk P w K mg base (L2N.CX P w) (k + 2) (T.a 7) (T.fd 7) ["_law_script", "_law_k"] (spOf K T.ca 2 (fns (k + 1) 7)) := by
  show FnOk P w K mg base (L2N.CX P w) (k + 2) (T.a 7) (T.fd 7) ["_law_script", "_law_k"] (spOf K T.ca 2 (b__law_cell_at (fns k)))
  exact fn_ok (N := ["_law_script", "_law_k"]) 2 2 (m__law_cell_at (fns k)) rfl rfl T.F7 sc__law_cell_at (fun X E ⟨cdv, A, outer, s, H, hX⟩ hr => by
    subst hX
    have nd := sc__law_cell_at.nd
    have hu := hu200 hr
    have hW := wid_fn (E := E)
    have tk := tk_fn (P := P) (w := w) (K := K) (mg := mg) (base := base) (N := ["_law_script", "_law_k"]) (qual := "_law_cell_at") (scope := defScope s__law_cell_at) (f := T.a 7) (cd := cdv) (A := A) (outer := outer) (s := s) (H := H) (E := E)
    have hp := hp_fn (P := P) (w := w) (K := K) (mg := mg) (base := base) (N := ["_law_script", "_law_k"]) (qual := "_law_cell_at") (scope := defScope s__law_cell_at) (f := T.a 7) (cd := cdv) (A := A) (outer := outer) (s := s) (H := H) (E := E)
    show DSs _ T.ca _ _ (m__law_cell_at (fns k))
    exact (dss_cons hW (ds_if (dt_cmp op_lt imp_lt (de_var 1) (de_callB call_len imp_len rfl T.n_len PySem.boot_len (da_cons (de_var 0) da_nil)))
  (dss_one (ds_ret (de_ix (de_var 0) (de_var 1))))
  dss_nil)
  (dss_one (ds_ret de_int))))
theorem ok__law_letters {k : Nat} (T : Tx K mg) (O : Ok P w K mg base T k) : FnOk P w K mg base (L2N.CX P w) (k + 2) (T.a 8) (T.fd 8) ["_law_cell"] (spOf K T.ca 1 (fns (k + 1) 8)) := by
  show FnOk P w K mg base (L2N.CX P w) (k + 2) (T.a 8) (T.fd 8) ["_law_cell"] (spOf K T.ca 1 (b__law_letters (fns k)))
  exact fn_ok (N := ["_law_cell", "_law_some", "_law_k"]) 3 1 (m__law_letters (fns k)) rfl rfl T.F8 sc__law_letters (fun X E ⟨cdv, A, outer, s, H, hX⟩ hr => by
    subst hX
    have nd := sc__law_letters.nd
    have hu := hu200 hr
    have hW := wid_fn (E := E)
    have tk := tk_fn (P := P) (w := w) (K := K) (mg := mg) (base := base) (N := ["_law_cell", "_law_some", "_law_k"]) (qual := "_law_letters") (scope := defScope s__law_letters) (f := T.a 8) (cd := cdv) (A := A) (outer := outer) (s := s) (H := H) (E := E)
    have hp := hp_fn (P := P) (w := w) (K := K) (mg := mg) (base := base) (N := ["_law_cell", "_law_some", "_law_k"]) (qual := "_law_letters") (scope := defScope s__law_letters) (f := T.a 8) (cd := cdv) (A := A) (outer := outer) (s := s) (H := H) (E := E)
    show DSs _ T.ca _ _ (m__law_letters (fns k))
    exact (dss_cons hW (ds_set 1 nd de_str)
  (dss_one (ds_ret (de_join de_str (de_lc rfl nd (t := (.one 2)) (own := [("_law_k", 2)]) (di_range1 T.n_range (da_cons (de_bin op_addA imp_add de_int (de_bin op_mod imp_mod (de_var 0) de_int)) da_nil)) (blkOk_by (N := ["_law_cell", "_law_some", "_law_k"]) (sc := defScope s__law_letters) (by decide +kernel)) List.mem_cons_self (fun _ _ _ _ _ => tg_one 2 nd) (fun _ _ _ _ _ => dts_nil) (fun _ _ _ _ _ => (de_ix (de_var 1) (de_bin op_mod imp_mod (de_bin op_addA imp_add (de_bin op_fdiv imp_fdiv (de_var 0) de_int) (de_bin op_mulA imp_mul (de_var 2) (de_bin op_addA imp_add de_int (de_bin op_mod imp_mod (de_bin op_fdiv imp_fdiv (de_var 0) de_int) de_int)))) de_int)))))))))
theorem ok__law_text {k : Nat} (T : Tx K mg) (O : Ok P w K mg base T k) : FnOk P w K mg base (L2N.CX P w) (k + 2) (T.a 9) (T.fd 9) ["_law_letters_here", "_law_cell", "_law_most"] (spOf K T.ca 3 (fns (k + 1) 9)) := by
  show FnOk P w K mg base (L2N.CX P w) (k + 2) (T.a 9) (T.fd 9) ["_law_letters_here", "_law_cell", "_law_most"] (spOf K T.ca 3 (b__law_text (fns k)))
  exact fn_ok (N := ["_law_letters_here", "_law_cell", "_law_most", "_law_found", "_law_k", "_law_number"]) 6 3 (m__law_text (fns k)) rfl rfl T.F9 sc__law_text (fun X E ⟨cdv, A, outer, s, H, hX⟩ hr => by
    subst hX
    have nd := sc__law_text.nd
    have hu := hu200 hr
    have hW := wid_fn (E := E)
    have tk := tk_fn (P := P) (w := w) (K := K) (mg := mg) (base := base) (N := ["_law_letters_here", "_law_cell", "_law_most", "_law_found", "_law_k", "_law_number"]) (qual := "_law_text") (scope := defScope s__law_text) (f := T.a 9) (cd := cdv) (A := A) (outer := outer) (s := s) (H := H) (E := E)
    have hp := hp_fn (P := P) (w := w) (K := K) (mg := mg) (base := base) (N := ["_law_letters_here", "_law_cell", "_law_most", "_law_found", "_law_k", "_law_number"]) (qual := "_law_text") (scope := defScope s__law_text) (f := T.a 9) (cd := cdv) (A := A) (outer := outer) (s := s) (H := H) (E := E)
    show DSs _ T.ca _ _ (m__law_text (fns k))
    exact (dss_cons hW (ds_set 3 nd de_str)
  (dss_cons hW (ds_for hW hp rfl (di_range1 T.n_range (da_cons (de_bin op_mod imp_mod (de_var 1) (de_bin op_addA imp_add (de_var 2) de_int)) da_nil)) (dg_name 4 nd)
  (dss_cons hW (ds_set 5 nd (de_bin op_mod imp_mod (de_bin op_addA imp_add (de_bin op_mulA imp_mul (de_var 1) de_int) (de_bin op_mulA imp_mul (de_bin op_mulA imp_mul de_int (de_var 4)) (de_var 4))) de_int))
  (dss_one (ds_set 3 nd (de_bin op_addA imp_add (de_var 3) (de_ix (de_var 0) (de_bin op_mod imp_mod (de_bin op_fdiv imp_fdiv (de_var 5) de_int) (de_callB call_len imp_len rfl T.n_len PySem.boot_len (da_cons (de_var 0) da_nil)))))))))
  (dss_one (ds_ret (de_var 3))))))
theorem ok__law_machine {k : Nat} (T : Tx K mg) (O : Ok P w K mg base T k) : FnOk P w K mg base (L2N.CX P w) (k + 2) (T.a 10) (T.fd 10) ["_law_letters_here", "_law_script"] (spOf K T.ca 2 (fns (k + 1) 10)) := by
  show FnOk P w K mg base (L2N.CX P w) (k + 2) (T.a 10) (T.fd 10) ["_law_letters_here", "_law_script"] (spOf K T.ca 2 (b__law_machine (fns k)))
  exact fn_ok (N := ["_law_letters_here", "_law_script", "_law_cell", "_law_many", "_law_steps", "_law_ends", "_law_room", "_law_own", "_law_k"]) 9 2 (m__law_machine (fns k)) rfl rfl T.F10 sc__law_machine (fun X E ⟨cdv, A, outer, s, H, hX⟩ hr => by
    subst hX
    have nd := sc__law_machine.nd
    have hu := hu200 hr
    have hW := wid_fn (E := E)
    have tk := tk_fn (P := P) (w := w) (K := K) (mg := mg) (base := base) (N := ["_law_letters_here", "_law_script", "_law_cell", "_law_many", "_law_steps", "_law_ends", "_law_room", "_law_own", "_law_k"]) (qual := "_law_machine") (scope := defScope s__law_machine) (f := T.a 10) (cd := cdv) (A := A) (outer := outer) (s := s) (H := H) (E := E)
    have hp := hp_fn (P := P) (w := w) (K := K) (mg := mg) (base := base) (N := ["_law_letters_here", "_law_script", "_law_cell", "_law_many", "_law_steps", "_law_ends", "_law_room", "_law_own", "_law_k"]) (qual := "_law_machine") (scope := defScope s__law_machine) (f := T.a 10) (cd := cdv) (A := A) (outer := outer) (s := s) (H := H) (E := E)
    show DSs _ T.ca _ _ (m__law_machine (fns k))
    exact (dss_cons hW (ds_set 2 nd (de_call O.o7 hr tk T.g7 T.F7.kp T.b7 (da_cons (de_var 1) (da_cons de_int da_nil))))
  (dss_cons hW (ds_set 3 nd (de_bin op_addA imp_add de_int (de_bin op_mod imp_mod (de_var 2) de_int)))
  (dss_cons hW (ds_if (dt_cmp (op_eqP hu) (imp_eqP false) (de_bin op_mod imp_mod (de_bin op_fdiv imp_fdiv (de_var 2) de_int) de_int) de_int)
  (dss_one (ds_set 3 nd (de_bin op_addA imp_add de_int (de_bin op_mod imp_mod (de_bin op_fdiv imp_fdiv (de_var 2) de_int) de_int))))
  dss_nil)
  (dss_cons hW (ds_set 4 nd (de_new da_nil))
  (dss_cons hW (ds_set 5 nd (de_new da_nil))
  (dss_cons hW (ds_for hW hp rfl (di_range1 T.n_range (da_cons (de_var 3) da_nil)) (dg_name 6 nd)
  (dss_cons hW (ds_set 7 nd (de_bin op_addA imp_add (de_bin op_addA imp_add (de_bin op_mulA imp_mul (de_call O.o7 hr tk T.g7 T.F7.kp T.b7 (da_cons (de_var 1) (da_cons (de_bin op_addA imp_add de_int (de_var 6)) da_nil))) de_int) (de_bin op_mulA imp_mul de_int (de_var 6))) (de_var 2)))
  (dss_cons hW (ds_expr (de_append (de_var 4) (de_lcN rfl nd (t := (.one 8)) (own := [("_law_k", 8)]) (di_range1 T.n_range (da_cons (de_callB call_len imp_len rfl T.n_len PySem.boot_len (da_cons (de_var 0) da_nil)) da_nil)) (blkOk_by (N := ["_law_letters_here", "_law_script", "_law_cell", "_law_many", "_law_steps", "_law_ends", "_law_room", "_law_own", "_law_k"]) (sc := defScope s__law_machine) (by decide +kernel)) List.mem_cons_self (fun _ _ _ _ _ => tg_one 8 nd) (fun _ _ _ _ _ => dts_nil) (fun _ _ _ _ _ => (de_bin op_mod imp_mod (de_bin op_fdiv imp_fdiv (de_var 7) (de_ix (de_lst (da_cons de_int (da_cons de_int (da_cons de_int (da_cons de_int da_nil))))) (de_var 8))) (de_var 3))))))
  (dss_cons hW (ds_if (dt_cmp (op_eqP hu) (imp_eqP false) (de_bin op_mod imp_mod (de_var 7) de_int) de_int)
  (dss_one (ds_asg (de_bin op_mod imp_mod (de_bin op_addA imp_add (de_var 6) de_int) (de_var 3)) (dg_setL (de_ix (de_var 4) (de_neg de_int)) (de_bin op_mod imp_mod (de_bin op_fdiv imp_fdiv (de_var 7) de_int) (de_callB call_len imp_len rfl T.n_len PySem.boot_len (da_cons (de_var 0) da_nil))))))
  dss_nil)
  (dss_one (ds_expr (de_append (de_var 5) (de_cmp (op_eqP hu) (imp_eqP false) (de_bin op_mod imp_mod (de_bin op_fdiv imp_fdiv (de_var 7) de_int) de_int) de_int))))))))
  (dss_one (ds_ret (de_tup (da_cons (de_var 4) (da_cons (de_var 5) da_nil))))))))))))
theorem ok__law_far {k : Nat} (T : Tx K mg) (O : Ok P w K mg base T k) : FnOk P w K mg base (L2N.CX P w) (k + 2) (T.a 11) (T.fd 11) ["_law_steps", "_law_ends"] (spOf K T.ca 2 (fns (k + 1) 11)) := by
  show FnOk P w K mg base (L2N.CX P w) (k + 2) (T.a 11) (T.fd 11) ["_law_steps", "_law_ends"] (spOf K T.ca 2 (b__law_far (fns k)))
  exact fn_ok (N := ["_law_steps", "_law_ends", "_law_many", "_law_far_here", "_law_one", "_law_size", "_law_turn", "_law_two", "_law_goals", "_law_a", "_law_b"]) 11 2 (m__law_far (fns k)) rfl rfl T.F11 sc__law_far (fun X E ⟨cdv, A, outer, s, H, hX⟩ hr => by
    subst hX
    have nd := sc__law_far.nd
    have hu := hu200 hr
    have hW := wid_fn (E := E)
    have tk := tk_fn (P := P) (w := w) (K := K) (mg := mg) (base := base) (N := ["_law_steps", "_law_ends", "_law_many", "_law_far_here", "_law_one", "_law_size", "_law_turn", "_law_two", "_law_goals", "_law_a", "_law_b"]) (qual := "_law_far") (scope := defScope s__law_far) (f := T.a 11) (cd := cdv) (A := A) (outer := outer) (s := s) (H := H) (E := E)
    have hp := hp_fn (P := P) (w := w) (K := K) (mg := mg) (base := base) (N := ["_law_steps", "_law_ends", "_law_many", "_law_far_here", "_law_one", "_law_size", "_law_turn", "_law_two", "_law_goals", "_law_a", "_law_b"]) (qual := "_law_far") (scope := defScope s__law_far) (f := T.a 11) (cd := cdv) (A := A) (outer := outer) (s := s) (H := H) (E := E)
    show DSs _ T.ca _ _ (m__law_far (fns k))
    exact (dss_cons hW (ds_set 2 nd (de_callB call_len imp_len rfl T.n_len PySem.boot_len (da_cons (de_var 1) da_nil)))
  (dss_cons hW (ds_set 3 nd de_newDT)
  (dss_cons hW (ds_for hW hp rfl (di_range1 T.n_range (da_cons (de_var 2) da_nil)) (dg_name 4 nd)
  (dss_one (ds_for hW hp rfl (di_range1 T.n_range (da_cons (de_var 2) da_nil)) (dg_name 7 nd)
  (dss_one (ds_if (dt_cmp (op_neP hu) (imp_eqP true) (de_ix (de_var 1) (de_var 4)) (de_ix (de_var 1) (de_var 7)))
  (dss_one (ds_asg de_int (dg_putT (hu1 hr) (de_var 3) (de_tup (da_cons (de_var 4) (da_cons (de_var 7) da_nil))))))
  dss_nil)))))
  (dss_cons hW (ds_set 5 nd (de_neg de_int))
  (dss_cons hW (ds_set 6 nd de_int)
  (dss_cons hW (ds_while hW hp (dt_cmp op_lt imp_lt (de_var 5) (de_callB call_len_dT imp_lenT rfl T.n_len PySem.boot_len (da_cons (de_var 3) da_nil)))
  (dss_cons hW (ds_set 5 nd (de_callB call_len_dT imp_lenT rfl T.n_len PySem.boot_len (da_cons (de_var 3) da_nil)))
  (dss_cons hW (ds_set 6 nd (de_bin op_addA imp_add (de_var 6) de_int))
  (dss_one (ds_for hW hp rfl (di_range1 T.n_range (da_cons (de_var 2) da_nil)) (dg_name 4 nd)
  (dss_one (ds_for hW hp rfl (di_range1 T.n_range (da_cons (de_var 2) da_nil)) (dg_name 7 nd)
  (dss_cons hW (ds_setLc 8 rfl nd (t := (.two 9 10)) (own := [("_law_a", 9), ("_law_b", 10)]) (di_zipT T.n_zip (da_cons (de_ix (de_var 0) (de_var 4)) (da_cons (de_ix (de_var 0) (de_var 7)) da_nil))) (blkOk_by (N := ["_law_steps", "_law_ends", "_law_many", "_law_far_here", "_law_one", "_law_size", "_law_turn", "_law_two", "_law_goals", "_law_a", "_law_b"]) (sc := defScope s__law_far) (by decide +kernel)) ⟨List.mem_cons_self, List.mem_cons_of_mem _ List.mem_cons_self⟩ (fun _ _ _ _ _ => tg_two 9 10 rfl nd) (fun _ _ _ _ _ => dts_nil) (fun _ _ _ _ _ => (de_get2 (hu1 hr) (de_var 3) (de_tup (da_cons (de_var 9) (da_cons (de_var 10) da_nil))) (de_var 6))))
  (dss_one (ds_if (dt_w (dw_and (dt_cmp (op_notInT (hu1 hr)) (imp_inT true) (de_tup (da_cons (de_var 4) (da_cons (de_var 7) da_nil))) (de_var 3)) (dw_and1 (dt_cmp (op_inA hu) (imp_in false) (de_bin op_sub imp_sub (de_var 6) de_int) (de_var 8)))))
  (dss_one (ds_asg (de_var 6) (dg_putT (hu1 hr) (de_var 3) (de_tup (da_cons (de_var 4) (da_cons (de_var 7) da_nil))))))
  dss_nil))))))))))
  (dss_one (ds_ret (de_var 3))))))))))
theorem ok__law_due {k : Nat} (T : Tx K mg) (O : Ok P w K mg base T k) : FnOk P w K mg base (L2N.CX P w) (k + 2) (T.a 12) (T.fd 12) ["_law_letters_here", "_law_machine_here", "_law_one", "_law_two"] (spOf K T.ca 4 (fns (k + 1) 12)) := by
  show FnOk P w K mg base (L2N.CX P w) (k + 2) (T.a 12) (T.fd 12) ["_law_letters_here", "_law_machine_here", "_law_one", "_law_two"] (spOf K T.ca 4 (pureRet (b__law_due (fns k))))
  exact fn_pure (fn_ok (N := ["_law_letters_here", "_law_machine_here", "_law_one", "_law_two", "_law_far_here", "_law_text_here", "_law_steps", "_law_ends", "_law_goals", "_law_at", "_law_pair"]) 11 4 (m__law_due (fns k)) rfl rfl T.F12 sc__law_due (fun X E ⟨cdv, A, outer, s, H, hX⟩ hr => by
    subst hX
    have nd := sc__law_due.nd
    have hu := hu200 hr
    have hW := wid_fn (E := E)
    have tk := tk_fn (P := P) (w := w) (K := K) (mg := mg) (base := base) (N := ["_law_letters_here", "_law_machine_here", "_law_one", "_law_two", "_law_far_here", "_law_text_here", "_law_steps", "_law_ends", "_law_goals", "_law_at", "_law_pair"]) (qual := "_law_due") (scope := defScope s__law_due) (f := T.a 12) (cd := cdv) (A := A) (outer := outer) (s := s) (H := H) (E := E)
    have hp := hp_fn (P := P) (w := w) (K := K) (mg := mg) (base := base) (N := ["_law_letters_here", "_law_machine_here", "_law_one", "_law_two", "_law_far_here", "_law_text_here", "_law_steps", "_law_ends", "_law_goals", "_law_at", "_law_pair"]) (qual := "_law_due") (scope := defScope s__law_due) (f := T.a 12) (cd := cdv) (A := A) (outer := outer) (s := s) (H := H) (E := E)
    show DSs _ T.ca _ _ (m__law_due (fns k))
    exact (dss_cons hW (ds_asg (de_var 1) (dg_tup (n := 2) rfl (dgs_cons hW (dg_name 6 nd) (dgs_cons hW (dg_name 7 nd) dgs_nil))))
  (dss_cons hW (ds_set 4 nd (de_call O.o11 hr tk T.g11 T.F11.kp T.b11 (da_cons (de_var 6) (da_cons (de_var 7) da_nil))))
  (dss_cons hW (ds_if (dt_cmp (op_notInT (hu1 hr)) (imp_inT true) (de_tup (da_cons (de_var 2) (da_cons (de_var 3) da_nil))) (de_var 4))
  (dss_one (ds_ret de_non))
  dss_nil)
  (dss_cons hW (ds_set 5 nd de_str)
  (dss_cons hW (ds_while hW hp (dt_cmp op_gt imp_gt (de_dgetT (hu1 hr) (de_var 4) (de_tup (da_cons (de_var 2) (da_cons (de_var 3) da_nil)))) de_int)
  (dss_cons hW (ds_setLc 8 rfl nd (t := (.one 10)) (own := [("_law_pair", 10)]) (di_zipN T.n_zip (da_cons (de_ix (de_var 6) (de_var 2)) (da_cons (de_ix (de_var 6) (de_var 3)) da_nil))) (blkOk_by (N := ["_law_letters_here", "_law_machine_here", "_law_one", "_law_two", "_law_far_here", "_law_text_here", "_law_steps", "_law_ends", "_law_goals", "_law_at", "_law_pair"]) (sc := defScope s__law_due) (by decide +kernel)) List.mem_cons_self (fun _ _ _ _ _ => tg_one 10 nd) (fun _ _ _ _ _ => dts_nil) (fun _ _ _ _ _ => (de_get2 (hu1 hr) (de_var 4) (de_var 10) (de_callB call_len_dT imp_lenT rfl T.n_len PySem.boot_len (da_cons (de_var 4) da_nil)))))
  (dss_cons hW (ds_set 9 nd (de_lindex (de_var 8) (de_bin op_sub imp_sub (de_dgetT (hu1 hr) (de_var 4) (de_tup (da_cons (de_var 2) (da_cons (de_var 3) da_nil)))) de_int)))
  (dss_cons hW (ds_set 5 nd (de_bin op_addA imp_add (de_var 5) (de_ix (de_var 0) (de_var 9))))
  (dss_one (ds_par 2 3 rfl nd (da_cons (de_ix (de_ix (de_var 6) (de_var 2)) (de_var 9)) (da_cons (de_ix (de_ix (de_var 6) (de_var 3)) (de_var 9)) da_nil))))))))
  (dss_one (ds_ret (de_var 5))))))))))
theorem ok__law_told {k : Nat} (T : Tx K mg) (O : Ok P w K mg base T k) : FnOk P w K mg base (L2N.CX P w) (k + 2) (T.a 13) (T.fd 13) ["_law_way", "_law_letters_here", "_law_machine_here", "_law_room", "_law_thing"] (spOf K T.ca 5 (fns (k + 1) 13)) := by
  show FnOk P w K mg base (L2N.CX P w) (k + 2) (T.a 13) (T.fd 13) ["_law_way", "_law_letters_here", "_law_machine_here", "_law_room", "_law_thing"] (spOf K T.ca 5 (b__law_told (fns k)))
  exact fn_ok (N := ["_law_way", "_law_letters_here", "_law_machine_here", "_law_room", "_law_thing", "_law_error"]) 6 5 (m__law_told (fns k)) rfl rfl T.F13 sc__law_told (fun X E ⟨cdv, A, outer, s, H, hX⟩ hr => by
    subst hX
    have nd := sc__law_told.nd
    have hu := hu200 hr
    have hW := wid_fn (E := E)
    have tk := tk_fn (P := P) (w := w) (K := K) (mg := mg) (base := base) (N := ["_law_way", "_law_letters_here", "_law_machine_here", "_law_room", "_law_thing", "_law_error"]) (qual := "_law_told") (scope := defScope s__law_told) (f := T.a 13) (cd := cdv) (A := A) (outer := outer) (s := s) (H := H) (E := E)
    have hp := hp_fn (P := P) (w := w) (K := K) (mg := mg) (base := base) (N := ["_law_way", "_law_letters_here", "_law_machine_here", "_law_room", "_law_thing", "_law_error"]) (qual := "_law_told") (scope := defScope s__law_told) (f := T.a 13) (cd := cdv) (A := A) (outer := outer) (s := s) (H := H) (E := E)
    show DSs _ T.ca _ _ (m__law_told (fns k))
    exact (dss_one (ds_try 5 nd rfl rfl T.x0.g hW tk T.xk (fun a oe c pn hz hv => suite_kind O.kd hr T.g_kind T.F_kind.kp T.b_kind hz hv) (fun W' pn xe hW tk hp => (dss_cons hW (ds_if (dt_cmp (op_eqP hu) (imp_eqP false) (de_var 0) de_int)
  (dss_one (ds_ret (de_tup (da_cons de_str (da_cons (de_call O.o5 hr tk T.g5 T.F5.kp T.b5 (da_cons (de_var 1) (da_cons (de_var 2) (da_cons (de_var 3) (da_cons (de_var 4) da_nil))))) da_nil)))))
  dss_nil)
  (dss_one (ds_ret (de_tup (da_cons de_str (da_cons (de_call O.o6 hr tk T.g6 T.F6.kp T.b6 (da_cons (de_var 1) (da_cons (de_var 2) (da_cons (de_var 3) (da_cons (de_var 4) da_nil))))) da_nil))))))))))
theorem ok__law_no_text {k : Nat} (T : Tx K mg) (O : Ok P w K mg base T k) : FnOk P w K mg base (L2N.CX P w) (k + 2) (T.a 14) (T.fd 14) ["_law_letters_here", "_law_cell"] (spOf K T.ca 2 (fns (k + 1) 14)) := by
  show FnOk P w K mg base (L2N.CX P w) (k + 2) (T.a 14) (T.fd 14) ["_law_letters_here", "_law_cell"] (spOf K T.ca 2 (b__law_no_text (fns k)))
  exact fn_ok (N := ["_law_letters_here", "_law_cell", "_law_others", "_law_other", "_law_some", "_law_sign"]) 6 2 (m__law_no_text (fns k)) rfl rfl T.F14 sc__law_no_text (fun X E ⟨cdv, A, outer, s, H, hX⟩ hr => by
    subst hX
    have nd := sc__law_no_text.nd
    have hu := hu200 hr
    have hW := wid_fn (E := E)
    have tk := tk_fn (P := P) (w := w) (K := K) (mg := mg) (base := base) (N := ["_law_letters_here", "_law_cell", "_law_others", "_law_other", "_law_some", "_law_sign"]) (qual := "_law_no_text") (scope := defScope s__law_no_text) (f := T.a 14) (cd := cdv) (A := A) (outer := outer) (s := s) (H := H) (E := E)
    have hp := hp_fn (P := P) (w := w) (K := K) (mg := mg) (base := base) (N := ["_law_letters_here", "_law_cell", "_law_others", "_law_other", "_law_some", "_law_sign"]) (qual := "_law_no_text") (scope := defScope s__law_no_text) (f := T.a 14) (cd := cdv) (A := A) (outer := outer) (s := s) (H := H) (E := E)
    show DSs _ T.ca _ _ (m__law_no_text (fns k))
    exact (dss_cons hW (ds_setLc 2 rfl nd (t := (.one 5)) (own := [("_law_sign", 5)]) (di_any de_str) (blkOk_by (N := ["_law_letters_here", "_law_cell", "_law_others", "_law_other", "_law_some", "_law_sign"]) (sc := defScope s__law_no_text) (by decide +kernel)) List.mem_cons_self (fun _ _ _ _ _ => tg_one 5 nd) (fun _ _ _ _ _ => dts_one (dt_cmp (op_notInA hu) (imp_in true) (de_var 5) (de_var 0))) (fun _ _ _ _ _ => (de_var 5)))
  (dss_cons hW (ds_set 3 nd (de_ix (de_var 2) (de_bin op_mod imp_mod (de_bin op_fdiv imp_fdiv (de_var 1) de_int) (de_callB call_len imp_len rfl T.n_len PySem.boot_len (da_cons (de_var 2) da_nil)))))
  (dss_cons hW (ds_set 4 nd (de_lst (da_cons de_non (da_cons de_int (da_cons (de_lst (da_cons (de_var 0) da_nil)) (da_cons (de_tup (da_cons (de_ix (de_var 0) de_int) da_nil)) (da_cons (de_bin op_addA imp_add (de_var 0) de_str) (da_cons (de_var 3) (da_cons (de_bin op_addA imp_add (de_var 0) (de_var 3)) (da_cons (de_bin op_addA imp_add (de_var 3) (de_var 0)) (da_cons de_str da_nil)))))))))))
  (dss_one (ds_ret (de_ix (de_bin op_addA imp_add (de_var 4) (de_lst (da_cons (de_bin op_mulA imp_mul (de_ix (de_var 0) de_int) de_int) (da_cons de_bl da_nil)))) (de_bin op_mod imp_mod (de_var 1) de_int))))))))
theorem ok__law_longest {k : Nat} (T : Tx K mg) (O : Ok P w K mg base T k) : FnOk P w K mg base (L2N.CX P w) (k + 2) (T.a 15) (T.fd 15) ["_law_letters_here", "_law_machine_here", "_law_room"] (spOf K T.ca 3 (fns (k + 1) 15)) := by
  show FnOk P w K mg base (L2N.CX P w) (k + 2) (T.a 15) (T.fd 15) ["_law_letters_here", "_law_machine_here", "_law_room"] (spOf K T.ca 3 (b__law_longest (fns k)))
  exact fn_ok (N := ["_law_letters_here", "_law_machine_here", "_law_room", "_law_here", "_law_turn"]) 5 3 (m__law_longest (fns k)) rfl rfl T.F15 sc__law_longest (fun X E ⟨cdv, A, outer, s, H, hX⟩ hr => by
    subst hX
    have nd := sc__law_longest.nd
    have hu := hu200 hr
    have hW := wid_fn (E := E)
    have tk := tk_fn (P := P) (w := w) (K := K) (mg := mg) (base := base) (N := ["_law_letters_here", "_law_machine_here", "_law_room", "_law_here", "_law_turn"]) (qual := "_law_longest") (scope := defScope s__law_longest) (f := T.a 15) (cd := cdv) (A := A) (outer := outer) (s := s) (H := H) (E := E)
    have hp := hp_fn (P := P) (w := w) (K := K) (mg := mg) (base := base) (N := ["_law_letters_here", "_law_machine_here", "_law_room", "_law_here", "_law_turn"]) (qual := "_law_longest") (scope := defScope s__law_longest) (f := T.a 15) (cd := cdv) (A := A) (outer := outer) (s := s) (H := H) (E := E)
    show DSs _ T.ca _ _ (m__law_longest (fns k))
    exact (dss_cons hW (ds_set 3 nd (de_var 2))
  (dss_cons hW (ds_for hW hp rfl (di_range1 T.n_range (da_cons de_int da_nil)) (dg_name 4 nd)
  (dss_one (ds_set 3 nd (de_ix (de_ix (de_ix (de_var 1) de_int) (de_var 3)) (de_bin op_sub imp_sub (de_callB call_len imp_len rfl T.n_len PySem.boot_len (da_cons (de_var 0) da_nil)) de_int)))))
  (dss_one (ds_ret (de_cmp (op_eqP hu) (imp_eqP false) (de_call O.o13 hr tk T.g13 T.F13.kp T.b13 (da_cons de_int (da_cons (de_var 0) (da_cons (de_var 1) (da_cons (de_var 2) (da_cons (de_bin op_mulA imp_mul (de_ix (de_var 0) (de_neg de_int)) de_int) da_nil)))))) (de_tup (da_cons de_str (da_cons (de_var 3) da_nil)))))))))
theorem ok__law_refused {k : Nat} (T : Tx K mg) (O : Ok P w K mg base T k) : FnOk P w K mg base (L2N.CX P w) (k + 2) (T.a 16) (T.fd 16) ["_law_letters_here", "_law_machine_here", "_law_room", "_law_cell"] (spOf K T.ca 4 (fns (k + 1) 16)) := by
  show FnOk P w K mg base (L2N.CX P w) (k + 2) (T.a 16) (T.fd 16) ["_law_letters_here", "_law_machine_here", "_law_room", "_law_cell"] (spOf K T.ca 4 (b__law_refused (fns k)))
  exact fn_ok (N := ["_law_letters_here", "_law_machine_here", "_law_room", "_law_cell", "_law_many", "_law_wrong", "_law_told_here", "_law_none"]) 8 4 (m__law_refused (fns k)) rfl rfl T.F16 sc__law_refused (fun X E ⟨cdv, A, outer, s, H, hX⟩ hr => by
    subst hX
    have nd := sc__law_refused.nd
    have hu := hu200 hr
    have hW := wid_fn (E := E)
    have tk := tk_fn (P := P) (w := w) (K := K) (mg := mg) (base := base) (N := ["_law_letters_here", "_law_machine_here", "_law_room", "_law_cell", "_law_many", "_law_wrong", "_law_told_here", "_law_none"]) (qual := "_law_refused") (scope := defScope s__law_refused) (f := T.a 16) (cd := cdv) (A := A) (outer := outer) (s := s) (H := H) (E := E)
    have hp := hp_fn (P := P) (w := w) (K := K) (mg := mg) (base := base) (N := ["_law_letters_here", "_law_machine_here", "_law_room", "_law_cell", "_law_many", "_law_wrong", "_law_told_here", "_law_none"]) (qual := "_law_refused") (scope := defScope s__law_refused) (f := T.a 16) (cd := cdv) (A := A) (outer := outer) (s := s) (H := H) (E := E)
    show DSs _ T.ca _ _ (m__law_refused (fns k))
    exact (dss_cons hW (ds_set 4 nd (de_callB call_len imp_len rfl T.n_len PySem.boot_len (da_cons (de_ix (de_var 1) de_int) da_nil)))
  (dss_cons hW (ds_set 5 nd (de_ix (de_lst (da_cons (de_neg de_int) (da_cons (de_var 4) (da_cons de_bl (da_cons de_non (da_cons de_str (da_cons (de_lst (da_cons de_int da_nil)) (da_cons (de_bin op_addA imp_add (de_var 4) (de_bin op_pow imp_pow de_int de_int)) (da_cons de_bl (da_cons (de_tup (da_cons de_int da_nil)) da_nil)))))))))) (de_bin op_mod imp_mod (de_var 3) de_int)))
  (dss_cons hW (ds_set 6 nd (de_new (da_cons (de_call O.o13 hr tk T.g13 T.F13.kp T.b13 (da_cons de_int (da_cons (de_var 0) (da_cons (de_var 1) (da_cons (de_var 5) (da_cons de_non da_nil)))))) da_nil)))
  (dss_cons hW (ds_expr (de_append (de_var 6) (de_call O.o13 hr tk T.g13 T.F13.kp T.b13 (da_cons de_int (da_cons (de_var 0) (da_cons (de_var 1) (da_cons (de_var 2) (da_cons (de_call O.o14 hr tk T.g14 T.F14.kp T.b14 (da_cons (de_var 0) (da_cons (de_bin op_fdiv imp_fdiv (de_var 3) de_int) da_nil))) da_nil))))))))
  (dss_cons hW (ds_set 6 nd (de_bin op_cat imp_addN (de_var 6) (de_lst (da_cons (de_call O.o13 hr tk T.g13 T.F13.kp T.b13 (da_cons de_int (da_cons (de_var 0) (da_cons (de_var 1) (da_cons (de_var 5) (da_cons (de_var 2) da_nil)))))) (da_cons (de_call O.o13 hr tk T.g13 T.F13.kp T.b13 (da_cons de_int (da_cons (de_var 0) (da_cons (de_var 1) (da_cons (de_var 2) (da_cons (de_var 5) da_nil)))))) da_nil)))))
  (dss_cons hW (ds_set 7 nd (de_ix (de_lst (da_cons de_str (da_cons de_str (da_cons de_non (da_cons de_str (da_cons de_str da_nil)))))) (de_bin op_mod imp_mod (de_bin op_fdiv imp_fdiv (de_var 3) de_int) de_int)))
  (dss_cons hW (ds_set 6 nd (de_bin op_cat imp_addN (de_var 6) (de_lst (da_cons (de_call O.o13 hr tk T.g13 T.F13.kp T.b13 (da_cons de_int (da_cons (de_var 7) (da_cons (de_var 1) (da_cons (de_var 5) (da_cons de_non da_nil)))))) (da_cons (de_call O.o13 hr tk T.g13 T.F13.kp T.b13 (da_cons de_int (da_cons (de_var 7) (da_cons (de_var 1) (da_cons (de_var 5) (da_cons (de_var 5) da_nil)))))) da_nil)))))
  (dss_one (ds_ret (de_cmp (op_eqP hu) (imp_eqP false) (de_var 6) (de_lst (da_cons (de_lst (da_cons de_str da_nil)) (da_cons (de_lst (da_cons de_str da_nil)) (da_cons (de_lst (da_cons de_str da_nil)) (da_cons (de_lst (da_cons de_str da_nil)) (da_cons (de_lst (da_cons de_str da_nil)) (da_cons (de_lst (da_cons de_str da_nil)) da_nil))))))))))))))))))
theorem ok__law_good {k : Nat} (T : Tx K mg) (O : Ok P w K mg base T k) : FnOk P w K mg base (L2N.CX P w) (k + 2) (T.a 17) (T.fd 17) ["_law_letters_here", "_law_machine_here", "_law_one", "_law_two", "_law_text_here"] (spOf K T.ca 5 (fns (k + 1) 17)) := by
  show FnOk P w K mg base (L2N.CX P w) (k + 2) (T.a 17) (T.fd 17) ["_law_letters_here", "_law_machine_here", "_law_one", "_law_two", "_law_text_here"] (spOf K T.ca 5 (b__law_good (fns k)))
  exact fn_ok (N := ["_law_letters_here", "_law_machine_here", "_law_one", "_law_two", "_law_text_here", "_law_here", "_law_sign", "_law_kept", "_law_found", "_law_due_here", "_law_pair", "_law_row"]) 12 5 (m__law_good (fns k)) rfl rfl T.F17 sc__law_good (fun X E ⟨cdv, A, outer, s, H, hX⟩ hr => by
    subst hX
    have nd := sc__law_good.nd
    have hu := hu200 hr
    have hW := wid_fn (E := E)
    have tk := tk_fn (P := P) (w := w) (K := K) (mg := mg) (base := base) (N := ["_law_letters_here", "_law_machine_here", "_law_one", "_law_two", "_law_text_here", "_law_here", "_law_sign", "_law_kept", "_law_found", "_law_due_here", "_law_pair", "_law_row"]) (qual := "_law_good") (scope := defScope s__law_good) (f := T.a 17) (cd := cdv) (A := A) (outer := outer) (s := s) (H := H) (E := E)
    have hp := hp_fn (P := P) (w := w) (K := K) (mg := mg) (base := base) (N := ["_law_letters_here", "_law_machine_here", "_law_one", "_law_two", "_law_text_here", "_law_here", "_law_sign", "_law_kept", "_law_found", "_law_due_here", "_law_pair", "_law_row"]) (qual := "_law_good") (scope := defScope s__law_good) (f := T.a 17) (cd := cdv) (A := A) (outer := outer) (s := s) (H := H) (E := E)
    show DSs _ T.ca _ _ (m__law_good (fns k))
    exact (dss_cons hW (ds_set 5 nd (de_var 2))
  (dss_cons hW (ds_for hW hp rfl (di_any (de_var 4)) (dg_name 6 nd)
  (dss_one (ds_set 5 nd (de_ix (de_ix (de_ix (de_var 1) de_int) (de_var 5)) (de_sindex (de_var 0) (de_var 6))))))
  (dss_cons hW (ds_set 7 nd (de_tup (da_cons (de_lc rfl nd (t := (.one 11)) (own := [("_law_row", 11)]) (di_any (de_ix (de_var 1) de_int)) (blkOk_by (N := ["_law_letters_here", "_law_machine_here", "_law_one", "_law_two", "_law_text_here", "_law_here", "_law_sign", "_law_kept", "_law_found", "_law_due_here", "_law_pair", "_law_row"]) (sc := defScope s__law_good) (by decide +kernel)) List.mem_cons_self (fun _ _ _ _ _ => tg_one 11 nd) (fun _ _ _ _ _ => dts_nil) (fun _ _ _ _ _ => (de_callTy call_list_of imp_list rfl T.n_list B.list (da_cons (de_var 11) da_nil)))) (da_cons (de_callTy call_list_of imp_list rfl T.n_list B.list (da_cons (de_ix (de_var 1) de_int) da_nil)) da_nil))))
  (dss_cons hW (ds_set 8 nd (de_call O.o13 hr tk T.g13 T.F13.kp T.b13 (da_cons de_int (da_cons (de_var 0) (da_cons (de_var 1) (da_cons (de_var 2) (da_cons (de_var 4) da_nil)))))))
  (dss_cons hW (ds_if (dt_w (dw_or (dt_cmp (op_neP hu) (imp_eqP true) (de_var 8) (de_tup (da_cons de_str (da_cons (de_var 5) da_nil)))) (dw_or1 (dt_val (de_isi T.n_isinstance T.n_bool B.bool (by decide) (de_ix (de_var 8) de_int))))))
  (dss_one (ds_ret de_bl))
  dss_nil)
  (dss_cons hW (ds_set 9 nd (de_tup (da_cons de_str (da_cons (de_call O.o12 hr tk T.g12 T.F12.kp T.b12 (da_cons (de_var 0) (da_cons (de_var 1) (da_cons (de_var 2) (da_cons (de_var 3) da_nil))))) da_nil))))
  (dss_cons hW (ds_for hW hp rfl (di_any (de_tup (da_cons (de_tup (da_cons (de_var 2) (da_cons (de_var 3) da_nil))) (da_cons (de_tup (da_cons (de_var 3) (da_cons (de_var 2) da_nil))) (da_cons (de_tup (da_cons (de_var 2) (da_cons (de_var 3) da_nil))) da_nil))))) (dg_name 10 nd)
  (dss_cons hW (ds_set 8 nd (de_call O.o13 hr tk T.g13 T.F13.kp T.b13 (da_cons de_int (da_cons (de_var 0) (da_cons (de_var 1) (da_cons (de_ix (de_var 10) de_int) (da_cons (de_ix (de_var 10) de_int) da_nil)))))))
  (dss_one (ds_if (dt_w (dw_or (dt_cmp (op_neP hu) (imp_eqP true) (de_var 8) (de_var 9)) (dw_or1 (dt_cmp (op_neP hu) (imp_eqP true) (de_var 1) (de_var 7)))))
  (dss_one (ds_ret de_bl))
  dss_nil))))
  (dss_one (ds_ret de_bl))))))))))
theorem ok_law {k : Nat} (T : Tx K mg) (O : Ok P w K mg base T k) : FnOk P w K mg base (L2N.CX P w) (k + 2) (T.a 18) (T.fd 18) ["_law_script"] (spOf K T.ca 1 (fns (k + 1) 18)) := by
  show FnOk P w K mg base (L2N.CX P w) (k + 2) (T.a 18) (T.fd 18) ["_law_script"] (spOf K T.ca 1 (b_law (fns k)))
  exact fn_ok (N := ["_law_script", "_law_letters_here", "_law_machine_here", "_law_many", "_law_one", "_law_two", "_law_text_here"]) 7 1 (m_law (fns k)) rfl rfl T.F18 sc_law (fun X E ⟨cdv, A, outer, s, H, hX⟩ hr => by
    subst hX
    have nd := sc_law.nd
    have hu := hu200 hr
    have hW := wid_fn (E := E)
    have tk := tk_fn (P := P) (w := w) (K := K) (mg := mg) (base := base) (N := ["_law_script", "_law_letters_here", "_law_machine_here", "_law_many", "_law_one", "_law_two", "_law_text_here"]) (qual := "law") (scope := defScope s_law) (f := T.a 18) (cd := cdv) (A := A) (outer := outer) (s := s) (H := H) (E := E)
    have hp := hp_fn (P := P) (w := w) (K := K) (mg := mg) (base := base) (N := ["_law_script", "_law_letters_here", "_law_machine_here", "_law_many", "_law_one", "_law_two", "_law_text_here"]) (qual := "law") (scope := defScope s_law) (f := T.a 18) (cd := cdv) (A := A) (outer := outer) (s := s) (H := H) (E := E)
    show DSs _ T.ca _ _ (m_law (fns k))
    exact (dss_cons hW (ds_set 1 nd (de_call O.o8 hr tk T.g8 T.F8.kp T.b8 (da_cons (de_call O.o7 hr tk T.g7 T.F7.kp T.b7 (da_cons (de_var 0) (da_cons de_int da_nil))) da_nil)))
  (dss_cons hW (ds_set 2 nd (de_call O.o10 hr tk T.g10 T.F10.kp T.b10 (da_cons (de_var 1) (da_cons (de_var 0) da_nil))))
  (dss_cons hW (ds_set 3 nd (de_callB call_len imp_len rfl T.n_len PySem.boot_len (da_cons (de_ix (de_var 2) de_int) da_nil)))
  (dss_cons hW (ds_set 4 nd (de_bin op_mod imp_mod (de_call O.o7 hr tk T.g7 T.F7.kp T.b7 (da_cons (de_var 0) (da_cons de_int da_nil))) (de_var 3)))
  (dss_cons hW (ds_set 5 nd (de_bin op_mod imp_mod (de_call O.o7 hr tk T.g7 T.F7.kp T.b7 (da_cons (de_var 0) (da_cons de_int da_nil))) (de_var 3)))
  (dss_cons hW (ds_if (dt_cmp (op_eqP hu) (imp_eqP false) (de_bin op_mod imp_mod (de_call O.o7 hr tk T.g7 T.F7.kp T.b7 (da_cons (de_var 0) (da_cons de_int da_nil))) de_int) de_int)
  (dss_one (ds_set 5 nd (de_var 4)))
  dss_nil)
  (dss_cons hW (ds_set 6 nd (de_call O.o9 hr tk T.g9 T.F9.kp T.b9 (da_cons (de_var 1) (da_cons (de_call O.o7 hr tk T.g7 T.F7.kp T.b7 (da_cons (de_var 0) (da_cons de_int da_nil))) (da_cons de_int da_nil)))))
  (dss_cons hW (ds_if (dt_not (dt_val (de_call O.o17 hr tk T.g17 T.F17.kp T.b17 (da_cons (de_var 1) (da_cons (de_var 2) (da_cons (de_var 4) (da_cons (de_var 5) (da_cons (de_var 6) da_nil))))))))
  (dss_one (ds_ret de_bl))
  dss_nil)
  (dss_cons hW (ds_asg (de_not (de_ix (de_ix (de_var 2) de_int) (de_var 5))) (dg_setL (de_ix (de_var 2) de_int) (de_var 5)))
  (dss_cons hW (ds_asg (de_bin op_mod imp_mod (de_bin op_fdiv imp_fdiv (de_call O.o7 hr tk T.g7 T.F7.kp T.b7 (da_cons (de_var 0) (da_cons de_int da_nil))) de_int) (de_var 3)) (dg_setL (de_ix (de_ix (de_var 2) de_int) (de_var 4)) de_int))
  (dss_cons hW (ds_if (dt_w (dw_or (dt_not (dt_val (de_call O.o17 hr tk T.g17 T.F17.kp T.b17 (da_cons (de_var 1) (da_cons (de_var 2) (da_cons (de_var 4) (da_cons (de_var 5) (da_cons (de_var 6) da_nil)))))))) (dw_or1 (dt_not (dt_val (de_call O.o15 hr tk T.g15 T.F15.kp T.b15 (da_cons (de_var 1) (da_cons (de_var 2) (da_cons (de_var 5) da_nil)))))))))
  (dss_one (ds_ret de_bl))
  dss_nil)
  (dss_one (ds_ret (de_call O.o16 hr tk T.g16 T.F16.kp T.b16 (da_cons (de_var 1) (da_cons (de_var 2) (da_cons (de_var 4) (da_cons (de_bin op_mod imp_mod (de_bin op_mulA imp_mul (de_callB call_abs imp_abs rfl T.n_abs B.abs (da_cons (de_call O.o7 hr tk T.g7 T.F7.kp T.b7 (da_cons (de_var 0) (da_cons de_int da_nil))) da_nil)) de_int) de_int) da_nil)))))))))))))))))))
theorem ok_all (T : Tx K mg) : ∀ k, Ok P w K mg base T k
  | 0 => ⟨fn_zero, fn_zero, fn_zero, fn_zero, fn_zero, fn_zero, fn_zero, fn_zero, fn_zero, fn_zero, fn_zero, fn_zero, fn_zero, fn_zero, fn_zero, fn_zero, fn_zero, fn_zero, fn_zero, ok_kind T⟩
  | k + 1 => by
    have O := ok_all T k
    exact ⟨ok_are_letters T O, ok_need_letters T O, ok_is_sign T O, ok_need_text T O, ok_need_room T O, ok_room_of T O, ok_parting T O, ok__law_cell_at T O, ok__law_letters T O, ok__law_text T O, ok__law_machine T O, ok__law_far T O, ok__law_due T O, ok__law_told T O, ok__law_no_text T O, ok__law_longest T O, ok__law_refused T O, ok__law_good T O, ok_law T O, ok_kind T⟩
end
end G
/-! EVA: plain values, letters, patterns as a type of their own -/
namespace G
open PySem PySem.Spec PyProof.Rows L2 DE
mutual
/-- a plain value; its texts are texts -/
def pl : D → Bool
  | .tup xs => decide (xs.length ≤ 1000) && pls xs
  | .lst xs => decide (xs.length ≤ 1000) && pls xs
  | .dct _ _ => true
  | .ref _ => false
  | .scr _ => false
  | .exc _ _ => false
  | .obj _ _ => false
  | .non => true
  | .bl _ => true
  | .int _ => true
  | .str x => strOk' x && decide (x.length ≤ 1000)
def pls : List D → Bool
  | [] => true
  | x :: xs => pl x && pls xs
end
theorem pls_mem : ∀ {xs : List D}, pls xs = true → ∀ x ∈ xs, pl x = true
  | x :: xs, h, y, hy => by
    simp only [pls, Bool.and_eq_true] at h
    rcases List.mem_cons.mp hy with rfl | hy
    · exact h.1
    · exact pls_mem h.2 y hy
theorem depDs_mem : ∀ {xs : List D}, ∀ x ∈ xs, depD x ≤ depDs xs
  | x :: xs, y, hy => by
    simp only [depDs]
    rcases List.mem_cons.mp hy with rfl | hy
    · exact Nat.le_max_left _ _
    · exact Nat.le_trans (depDs_mem y hy) (Nat.le_max_right _ _)
/-! ### patterns as a type of their own -/
inductive W3 where
  | row | or | and
  deriving DecidableEq
inductive U2 where
  | many | not
  deriving DecidableEq
def W3.s : W3 → String
  | .row => "row"
  | .or => "or"
  | .and => "and"
def U2.s : U2 → String
  | .many => "many"
  | .not => "not"
inductive Pt where
  | non | emp | sg (c : Nat) | nary (w : W3) (ps : List Pt) | un (u : U2) (p : Pt)
mutual
def toD : Pt → D
  | .non => .tup [.str "none"]
  | .emp => .tup [.str "empty"]
  | .sg c => .tup [.str "sign", .str ⟨#[c]⟩]
  | .nary w ps => .tup [.str (Str.ofString w.s), .tup (toDs ps)]
  | .un u p => .tup [.str (Str.ofString u.s), toD p]
def toDs : List Pt → List D
  | [] => []
  | p :: ps => toD p :: toDs ps
end
theorem toDs_map : ∀ ps : List Pt, toDs ps = ps.map toD
  | [] => rfl
  | p :: ps => by rw [toDs, toDs_map ps]; rfl
mutual
def okP (l : Str) : Pt → Bool
  | .non => true
  | .emp => true
  | .sg c => decide (c ∈ l.cps.toList)
  | .nary _ ps => decide (2 ≤ ps.length) && decide (ps.length ≤ 1000) && okPs l ps
  | .un _ p => okP l p
def okPs (l : Str) : List Pt → Bool
  | [] => true
  | p :: ps => okP l p && okPs l ps
end
mutual
def siz : Pt → Nat
  | .nary _ ps => 1 + sizs ps
  | .un _ p => 1 + siz p
  | .non => 1
  | .emp => 1
  | .sg _ => 1
def sizs : List Pt → Nat
  | [] => 0
  | p :: ps => siz p + sizs ps
end
theorem sizs_map : ∀ ps : List Pt, sizs ps = (ps.map siz).sum
  | [] => rfl
  | p :: ps => by rw [sizs, sizs_map ps]; rfl
theorem sizs_int : ∀ ps : List Pt, (ps.map fun p => ((siz p : Nat) : Int)).sum = ((sizs ps : Nat) : Int)
  | [] => rfl
  | p :: ps => by
    rw [List.map_cons, List.sum_cons, sizs_int ps]
    simp only [sizs]
    omega
theorem okPs_mem {l : Str} : ∀ {ps : List Pt}, okPs l ps = true ↔ ∀ p ∈ ps, okP l p = true
  | [] => by simp [okPs]
  | p :: ps => by simp [okPs, okPs_mem (ps := ps)]
theorem siz_pos : ∀ p : Pt, 1 ≤ siz p
  | .non => by simp [siz]
  | .emp => by simp [siz]
  | .sg _ => by simp [siz]
  | .nary _ _ => by simp [siz]
  | .un _ _ => by simp [siz]
theorem siz_mem : ∀ {ps : List Pt}, ∀ p ∈ ps, siz p ≤ sizs ps
  | q :: ps, p, h => by
    simp only [sizs]
    rcases List.mem_cons.mp h with rfl | h
    · omega
    · have := siz_mem p h; omega
theorem siz_len : ∀ ps : List Pt, ps.length ≤ sizs ps
  | [] => by simp [sizs]
  | p :: ps => by
    have := siz_pos p
    have := siz_len ps
    simp only [sizs, List.length_cons]
    omega
mutual
/-- how deep its value is -/
theorem dep_siz {l : Str} : ∀ p : Pt, okP l p = true → depD (toD p) ≤ siz p + 1
  | .non, _ => by simp [toD, depD, depDs, siz]
  | .emp, _ => by simp [toD, depD, depDs, siz]
  | .sg c, _ => by simp [toD, depD, depDs, siz]
  | .un u p, h => by
    have := dep_siz p (by simpa [okP] using h)
    simp only [toD, depD, depDs, siz]
    omega
  | .nary w ps, h => by
    simp only [okP, Bool.and_eq_true, decide_eq_true_eq] at h
    have h1 := dep_sizs ps h.2 h.1.1
    simp only [toD, depD, depDs, siz]
    omega
theorem dep_sizs {l : Str} : ∀ ps : List Pt, okPs l ps = true → 2 ≤ ps.length → depDs (toDs ps) + 1 ≤ sizs ps + 1
  | [], _, h => by simp at h
  | [_], _, h => by simp at h
  | [p, q], h, _ => by
    simp only [okPs, Bool.and_eq_true] at h
    have h1 := dep_siz p h.1
    have h2 := dep_siz q h.2.1
    have := siz_pos p
    have := siz_pos q
    simp only [toDs, depDs, sizs]
    omega
  | p :: q :: r :: ps, h, _ => by
    simp only [okPs, Bool.and_eq_true] at h
    have h1 := dep_siz p h.1
    have h2 := dep_sizs (q :: r :: ps) (by simp only [okPs, Bool.and_eq_true]; exact h.2) (by simp)
    have := siz_pos p
    have e : depDs (toDs (p :: q :: r :: ps)) = max (depD (toD p)) (depDs (toDs (q :: r :: ps))) := by simp only [toDs, depDs]
    have f : sizs (p :: q :: r :: ps) = siz p + sizs (q :: r :: ps) := by simp only [sizs]
    have g : 1 ≤ sizs (q :: r :: ps) := by have := siz_pos q; simp only [sizs]; omega
    omega
end
theorem W3.cases (w : W3) : w.s = "row" ∨ w.s = "or" ∨ w.s = "and" := by cases w <;> simp [W3.s]
mutual
theorem pl_toD {l : Str} (hl : strOk' l = true) : ∀ p : Pt, okP l p = true → pl (toD p) = true
  | .non, _ => by simp only [toD, pl, pls]; decide +kernel
  | .emp, _ => by simp only [toD, pl, pls]; decide +kernel
  | .sg c, h => by
    have hc : c < 0x110000 := by
      simp only [okP, decide_eq_true_eq] at h
      unfold strOk' at hl
      rw [← Array.all_toList, List.all_eq_true] at hl
      simpa using hl c h
    have e : (pl (.str "sign")) = true := by simp only [pl]; decide +kernel
    have f : pl (.str ⟨#[c]⟩) = true := by
      simp only [pl, sg_len]
      simp [strOk', hc]
    simp [toD, pl.eq_1, pls, e, f]
  | .un u p, h => by
    have h1 := pl_toD hl p (by simpa [okP] using h)
    have e : (pl (.str (Str.ofString u.s))) = true := by cases u <;> simp only [pl, U2.s] <;> decide +kernel
    simp [toD, pl.eq_1, pls, e, h1]
  | .nary w ps, h => by
    simp only [okP, Bool.and_eq_true, decide_eq_true_eq] at h
    have h1 := pl_toDs hl ps h.2
    have e : (pl (.str (Str.ofString w.s))) = true := by cases w <;> simp only [pl, W3.s] <;> decide +kernel
    have e2 : (toDs ps).length ≤ 1000 := by rw [toDs_map, List.length_map]; exact h.1.2
    simp [toD, pl.eq_1, pls, e, h1, e2]
theorem pl_toDs {l : Str} (hl : strOk' l = true) : ∀ ps : List Pt, okPs l ps = true → pls (toDs ps) = true
  | [], _ => by simp [toDs, pls]
  | p :: ps, h => by
    simp only [okPs, Bool.and_eq_true] at h
    simp only [toDs, pls, Bool.and_eq_true]
    exact ⟨pl_toD hl p h.1, pl_toDs hl ps h.2⟩
end
def kids : Pt → List Pt
  | .nary _ ps => ps
  | .un _ p => [p]
  | _ => []
theorem siz_kids (p : Pt) : siz p = 1 + sizs (kids p) := by cases p <;> simp [siz, kids, sizs]
theorem kids_ok {l : Str} {p : Pt} (h : okP l p = true) : (kids p).length ≤ 1000 ∧ ∀ q ∈ kids p, okP l q = true ∧ depD (toD q) < depD (toD p) := by
  cases p with
  | nary w ps =>
    simp only [okP, Bool.and_eq_true, decide_eq_true_eq] at h
    refine ⟨h.1.2, fun q hq => ⟨okPs_mem.mp h.2 q hq, ?_⟩⟩
    have := depDs_mem (toD q) (by rw [toDs_map]; exact List.mem_map_of_mem hq : toD q ∈ toDs ps)
    simp only [toD, depD, depDs]
    omega
  | un u p =>
    simp only [okP] at h
    refine ⟨by simp [kids], fun q hq => ?_⟩
    have e : q = p := by simpa [kids] using hq
    subst e
    refine ⟨h, ?_⟩
    simp only [toD, depD, depDs]
    omega
  | _ => exact ⟨by simp [kids], fun q hq => by simp [kids] at hq⟩
theorem dep_pos (p : Pt) : 1 ≤ depD (toD p) := by cases p <;> simp [toD, depD]
theorem ev_need_letters (k : Nat) (d : D) (s : Store) (b : Bool) (h : fns (k + 1) i_are_letters [d] s = .ok (.bl b) s) : fns (k + 2) i_need_letters [d] s = if b then .ok .non s else .exc 1 s := by
  rw [e_need_letters]
  cases b <;> simp [m_need_letters, bodyF, env0, sSeq, sSet, sIf, sRet, sRetN, sExpr, sPass, sRaise, sBad, eVar, eC, eTup, eLst, aCons, aNil, eCall, ar, DE.e2, eAnd, eOr, eNot, eIf, eNeg, tVal, tAndM, tOrM, tNotM, tYesM, eChain, isiD, tyOf, isTy, eM1, oNone, oSome, eCut, R.bind_ok, R.bind_exc, R.bindS_ok, R.bindS_exc, RS.bind_next, RS.bind_ret, RS.bind_exc, LINE, ofS_inj, ofS_ok, eqD_int, eqD_ss, inD3_ss, inD2_ss, h]
/-- letters as the program has them -/
def letOk : D → Bool
  | .str z => decide (1 ≤ z.length ∧ z.length ≤ 4) && z.cps.toList.all fun c => decide (c ∈ (Str.ofString "abcdefghijklmnopqrstuvwxyz").cps.toList) && decide (Txt.count z ⟨#[c]⟩ = 1)
  | _ => false
def SMALLS : Str := "abcdefghijklmnopqrstuvwxyz"
theorem ev_are_letters (k : Nat) (d : D) (s : Store) (hd : pl d = true) : fns (k + 1) i_are_letters [d] s = .ok (.bl (letOk d)) s := by
  rw [e_are_letters]
  cases d with
  | str z =>
    simp only [pl, Bool.and_eq_true, decide_eq_true_eq] at hd
    have hl : z.cps.toList.length ≤ 1000 := hd.2
    have e := eLc_all (t := .one 1) (vs := [1]) (em := eAnd (DE.e2 (inD false) (eVar 1) (eC (.str "abcdefghijklmnopqrstuvwxyz"))) (DE.e2 (eqD false) (eM1 countD (eVar 0) (eVar 1)) (eC (.int 1)))) (im := itV' (eVar 0)) (env := [some (.str z), none]) (s := s)
      (fun c => .str ⟨#[c]⟩) (fun c => .bl (decide (c ∈ (Str.ofString "abcdefghijklmnopqrstuvwxyz").cps.toList) && decide (Txt.count z ⟨#[c]⟩ = 1))) z.cps.toList (by simp [itV', bodyF, env0, sSeq, sSet, sIf, sRet, sRetN, sExpr, sPass, sRaise, sBad, eVar, eC, eTup, eLst, aCons, aNil, eCall, ar, DE.e2, eAnd, eOr, eNot, eIf, eNeg, tVal, tAndM, tOrM, tNotM, tYesM, eChain, isiD, tyOf, isTy, eM1, oNone, oSome, eCut, R.bind_ok, R.bind_exc, R.bindS_ok, R.bindS_exc, RS.bind_next, RS.bind_ret, RS.bind_exc, LINE, ofS_inj, ofS_ok, eqD_int, eqD_ss, inD3_ss, inD2_ss, DE.signs]) hl (fun c hc => by
        refine ⟨_, rfl, ?_⟩
        generalize (Str.ofString "abcdefghijklmnopqrstuvwxyz") = S
        by_cases h : c ∈ S.cps
        · simp [bodyF, env0, sSeq, sSet, sIf, sRet, sRetN, sExpr, sPass, sRaise, sBad, eVar, eC, eTup, eLst, aCons, aNil, eCall, ar, DE.e2, eAnd, eOr, eNot, eIf, eNeg, tVal, tAndM, tOrM, tNotM, tYesM, eChain, isiD, tyOf, isTy, eM1, oNone, oSome, eCut, R.bind_ok, R.bind_exc, R.bindS_ok, R.bindS_exc, RS.bind_next, RS.bind_ret, RS.bind_exc, LINE, ofS_inj, ofS_ok, eqD_int, eqD_ss, inD3_ss, inD2_ss, inD, h, countD, wipeE]
        · simp [bodyF, env0, sSeq, sSet, sIf, sRet, sRetN, sExpr, sPass, sRaise, sBad, eVar, eC, eTup, eLst, aCons, aNil, eCall, ar, DE.e2, eAnd, eOr, eNot, eIf, eNeg, tVal, tAndM, tOrM, tNotM, tYesM, eChain, isiD, tyOf, isTy, eM1, oNone, oSome, eCut, R.bind_ok, R.bind_exc, R.bindS_ok, R.bindS_exc, RS.bind_next, RS.bind_ret, RS.bind_exc, LINE, ofS_inj, ofS_ok, eqD_int, eqD_ss, inD3_ss, inD2_ss, inD, h, wipeE])
    have hlen : lenD [.str z] s = .ok (.int z.length) s := lenD_str hd.2
    simp only [letOk]
    by_cases h1 : 1 ≤ z.length
    · have h1' : (1 : Int) ≤ z.length := by omega
      by_cases h4 : z.length ≤ 4
      · have h4' : (z.length : Int) ≤ 4 := by omega
        simp only [decide_eq_true_eq, h1, h4]
        simp [m_are_letters, bodyF, env0, sSeq, sSet, sIf, sRet, sRetN, sExpr, sPass, sRaise, sBad, eVar, eC, eTup, eLst, aCons, aNil, eCall, ar, DE.e2, eAnd, eOr, eNot, eIf, eNeg, tVal, tAndM, tOrM, tNotM, tYesM, eChain, isiD, tyOf, isTy, eM1, oNone, oSome, eCut, R.bind_ok, R.bind_exc, R.bindS_ok, R.bindS_exc, RS.bind_next, RS.bind_ret, RS.bind_exc, LINE, ofS_inj, ofS_ok, eqD_int, eqD_ss, inD3_ss, inD2_ss, hlen, leD, cmpI, h1', h4', e, allD_map]
      · have h4' : ¬ (z.length : Int) ≤ 4 := by omega
        simp [m_are_letters, bodyF, env0, sSeq, sSet, sIf, sRet, sRetN, sExpr, sPass, sRaise, sBad, eVar, eC, eTup, eLst, aCons, aNil, eCall, ar, DE.e2, eAnd, eOr, eNot, eIf, eNeg, tVal, tAndM, tOrM, tNotM, tYesM, eChain, isiD, tyOf, isTy, eM1, oNone, oSome, eCut, R.bind_ok, R.bind_exc, R.bindS_ok, R.bindS_exc, RS.bind_next, RS.bind_ret, RS.bind_exc, LINE, ofS_inj, ofS_ok, eqD_int, eqD_ss, inD3_ss, inD2_ss, hlen, leD, cmpI, h4, h1', h4']
    · have h1' : ¬ (1 : Int) ≤ z.length := by omega
      simp [m_are_letters, bodyF, env0, sSeq, sSet, sIf, sRet, sRetN, sExpr, sPass, sRaise, sBad, eVar, eC, eTup, eLst, aCons, aNil, eCall, ar, DE.e2, eAnd, eOr, eNot, eIf, eNeg, tVal, tAndM, tOrM, tNotM, tYesM, eChain, isiD, tyOf, isTy, eM1, oNone, oSome, eCut, R.bind_ok, R.bind_exc, R.bindS_ok, R.bindS_exc, RS.bind_next, RS.bind_ret, RS.bind_exc, LINE, ofS_inj, ofS_ok, eqD_int, eqD_ss, inD3_ss, inD2_ss, hlen, leD, cmpI, h1, h1']
  | ref l => simp [pl] at hd
  | scr l => simp [pl] at hd
  | exc c l => simp [pl] at hd
  | obj c l => simp [pl] at hd
  | _ => simp [m_are_letters, bodyF, env0, sSeq, sSet, sIf, sRet, sRetN, sExpr, sPass, sRaise, sBad, eVar, eC, eTup, eLst, aCons, aNil, eCall, ar, DE.e2, eAnd, eOr, eNot, eIf, eNeg, tVal, tAndM, tOrM, tNotM, tYesM, eChain, isiD, tyOf, isTy, eM1, oNone, oSome, eCut, R.bind_ok, R.bind_exc, R.bindS_ok, R.bindS_exc, RS.bind_next, RS.bind_ret, RS.bind_exc, LINE, ofS_inj, ofS_ok, eqD_int, eqD_ss, inD3_ss, inD2_ss, letOk]
theorem ev_need_l (k : Nat) (d : D) (s : Store) (hd : pl d = true) : fns (k + 2) i_need_letters [d] s = if letOk d then .ok .non s else .exc 1 s := ev_need_letters k d s _ (ev_are_letters k d s hd)
theorem letOk_str {d : D} (h : letOk d = true) : ∃ z, d = .str z := by
  cases d <;> simp [letOk] at h
  exact ⟨_, rfl⟩
end G
/-! EVL0: the law's letters, all of them -/
namespace G
open PySem PySem.Spec PyProof.Rows L2 DE PySem.StrLaws
/-! ### the law's letters -/
def SM : Str := "abcdefghijklmnopqrstuvwxyz"
def smAt (i : Int) : Nat := (atI SM.cps.toList i).getD 0
theorem SM_len : SM.length = 26 := by decide +kernel
theorem sm_ix {i : Int} {s : Store} (h0 : 0 ≤ i) (h : i < 26) : ixD (.str SM) (.int i) s = .ok (.str ⟨#[smAt i]⟩) s := by
  have hl : SM.cps.toList.length = 26 := SM_len
  obtain ⟨c, hc, e⟩ := atI_int SM.cps.toList i h0 (by rw [hl]; exact h)
  show (if SM.length ≤ LINE then (match atI SM.cps.toList i with | some c => (R.ok (D.str ⟨#[c]⟩) s : R D) | none => .bad) else .bad) = _
  rw [if_pos (by rw [SM_len]; decide)]
  simp only [smAt, e]
  rfl
/-- one to four letters: from the a-th on, each st behind the one ahead -/
def letsF (a n st : Nat) : Str := Str.join ⟨#[]⟩ ((List.range n).map fun k => ⟨#[smAt (((a + k * st) % 26 : Nat) : Int)]⟩)
def smK (c : Int) (k : Nat) : Nat := smAt ((((c / 4 % 26).toNat + k * (1 + c / 104 % 12).toNat) % 26 : Nat) : Int)
def lets (c : Int) : Str := letsF (c / 4 % 26).toNat (1 + c % 4).toNat (1 + c / 104 % 12).toNat
theorem lets_all : ((List.range 26).all fun a => (List.range 12).all fun st => (List.range 4).all fun n => letOk (.str (letsF a (n + 1) (st + 1))) && pl (.str (letsF a (n + 1) (st + 1)))) = true := by decide +kernel
theorem lets_ok (c : Int) : letOk (.str (lets c)) = true ∧ pl (.str (lets c)) = true := by
  have h4 : 0 ≤ c % 4 ∧ c % 4 < 4 := ⟨Int.emod_nonneg _ (by decide), Int.emod_lt_of_pos _ (by decide)⟩
  have h12 : 0 ≤ c / 104 % 12 ∧ c / 104 % 12 < 12 := ⟨Int.emod_nonneg _ (by decide), Int.emod_lt_of_pos _ (by decide)⟩
  have h26 : 0 ≤ c / 4 % 26 ∧ c / 4 % 26 < 26 := ⟨Int.emod_nonneg _ (by decide), Int.emod_lt_of_pos _ (by decide)⟩
  have h := lets_all
  rw [List.all_eq_true] at h
  have h := h (c / 4 % 26).toNat (List.mem_range.mpr (by omega))
  rw [List.all_eq_true] at h
  have h := h (c / 104 % 12).toNat (List.mem_range.mpr (by omega))
  rw [List.all_eq_true] at h
  have h := h (c % 4).toNat (List.mem_range.mpr (by omega))
  rw [Bool.and_eq_true] at h
  have e1 : (c % 4).toNat + 1 = (1 + c % 4).toNat := by omega
  have e2 : (c / 104 % 12).toNat + 1 = (1 + c / 104 % 12).toNat := by omega
  rw [e1, e2] at h
  exact h
end G
/-! EVL: what the law's defs answer: letters, patterns drawn, sizes -/
namespace G
open PySem PySem.Spec PyProof.Rows L2 DE PySem.StrLaws
theorem lets_step {c : Int} {Z : Str} {s : Store} (hZ : ∀ i : Int, 0 ≤ i → i < 26 → ixD (.str Z) (.int i) s = .ok (.str ⟨#[smAt i]⟩) s) (j : Nat) (hj : j < 4) :
    (DE.e2 ixD (eVar 1) (DE.e2 modD (DE.e2 addD (DE.e2 fdivD (eVar 0) (eC (.int 4))) (DE.e2 mulD (eVar 2) (DE.e2 addD (eC (.int 1)) (DE.e2 modD (DE.e2 fdivD (eVar 0) (eC (.int 104))) (eC (.int 12)))))) (eC (.int 26)))) [some (.int c), some (.str Z), some (.int (0 + (j : Nat)))] s = .ok (.str ⟨#[smK c j]⟩) s := by
  have h12 : 0 ≤ c / 104 % 12 ∧ c / 104 % 12 < 12 := ⟨Int.emod_nonneg _ (by decide), Int.emod_lt_of_pos _ (by decide)⟩
  have hb : ∀ x : Int, mulD (.int (j : Nat)) (.int x) s = .ok (.int ((j : Nat) * x)) s := fun x => mulD_int (by omega)
  have he : (c / 4 + (j : Int) * (1 + c / 104 % 12)) % 26 = ((((c / 4 % 26).toNat + j * (1 + c / 104 % 12).toNat) % 26 : Nat) : Int) := by
    have a1 : ((c / 4 % 26).toNat : Int) = c / 4 % 26 := Int.toNat_of_nonneg (Int.emod_nonneg _ (by decide))
    have a2 : ((1 + c / 104 % 12).toNat : Int) = 1 + c / 104 % 12 := Int.toNat_of_nonneg (by omega)
    rw [Int.natCast_emod, Int.natCast_add, Int.natCast_mul, a1, a2]
    generalize (j : Int) * (1 + c / 104 % 12) = x
    show _ = (c / 4 % 26 + x) % 26
    omega
  have hx := hZ ((((c / 4 % 26).toNat + j * (1 + c / 104 % 12).toNat) % 26 : Nat) : Int) (by omega) (by omega)
  have hy : ixD (.str Z) (.int ((c / 4 + (j : Int) * (1 + c / 104 % 12)) % 26)) s = .ok (.str ⟨#[smK c j]⟩) s := by rw [he]; exact hx
  simp [bodyF, env0, sSeq, sSet, sIf, sRet, sRetN, sExpr, sPass, sRaise, sBad, eVar, eC, eTup, eLst, aCons, aNil, eCall, ar, DE.e2, eAnd, eOr, eNot, eIf, eNeg, tVal, tAndM, tOrM, tNotM, tYesM, eChain, isiD, tyOf, isTy, eM1, oNone, oSome, eCut, R.bind_ok, R.bind_exc, R.bindS_ok, R.bindS_exc, RS.bind_next, RS.bind_ret, RS.bind_exc, LINE, ofS_inj, ofS_ok, eqD_int, eqD_ss, inD3_ss, inD2_ss, fdivD_int, modD_int, addD_int, hb, hy]
theorem ev_letters0 {c : Int} {Z : Str} {s : Store} (hZ : ∀ i : Int, 0 ≤ i → i < 26 → ixD (.str Z) (.int i) s = .ok (.str ⟨#[smAt i]⟩) s) :
    eLc (itR1 (aCons (DE.e2 addD (eC (.int 1)) (DE.e2 modD (eVar 0) (eC (.int 4)))) aNil)) (.one 2) [2] tYesM (DE.e2 ixD (eVar 1) (DE.e2 modD (DE.e2 addD (DE.e2 fdivD (eVar 0) (eC (.int 4))) (DE.e2 mulD (eVar 2) (DE.e2 addD (eC (.int 1)) (DE.e2 modD (DE.e2 fdivD (eVar 0) (eC (.int 104))) (eC (.int 12)))))) (eC (.int 26)))) [some (.int c), some (.str Z), none] s =
      .ok (.lst (((List.range (1 + c % 4).toNat).map fun k => (⟨#[smK c k]⟩ : Str)).map D.str)) s := by
  have h4 : 0 ≤ c % 4 ∧ c % 4 < 4 := ⟨Int.emod_nonneg _ (by decide), Int.emod_lt_of_pos _ (by decide)⟩
  rw [List.map_map]
  refine eLc_all (t := .one 2) (vs := [2]) (fun k : Nat => .int (0 + (k : Nat))) _ (List.range (1 + c % 4).toNat) ?_ (by rw [List.length_range]; omega) (fun j hj => ?_)
  · have : -P62 ≤ 1 + c % 4 ∧ 1 + c % 4 < P62 := by unfold P62; omega
    simp [itR1, bodyF, env0, sSeq, sSet, sIf, sRet, sRetN, sExpr, sPass, sRaise, sBad, eVar, eC, eTup, eLst, aCons, aNil, eCall, ar, DE.e2, eAnd, eOr, eNot, eIf, eNeg, tVal, tAndM, tOrM, tNotM, tYesM, eChain, isiD, tyOf, isTy, eM1, oNone, oSome, eCut, R.bind_ok, R.bind_exc, R.bindS_ok, R.bindS_exc, RS.bind_next, RS.bind_ret, RS.bind_exc, LINE, ofS_inj, ofS_ok, eqD_int, eqD_ss, inD3_ss, inD2_ss, addD_int, modD_int, this, rangeL]
  · have hj : j < (1 + c % 4).toNat := List.mem_range.mp hj
    exact ⟨_, rfl, lets_step hZ j (by omega)⟩
theorem one_sum (f : Nat → Nat) : ∀ xs : List Nat, (((xs.map fun k => (⟨#[f k]⟩ : Str)).map (·.length))).sum = xs.length
  | [] => rfl
  | x :: xs => by rw [List.map_cons, List.map_cons, List.sum_cons, one_sum f xs]; show 1 + _ = _; rw [List.length_cons]; omega
theorem empty_str : Str.ofString "" = ⟨#[]⟩ := by decide +kernel
theorem lets_join {c : Int} {s : Store} : joinD (Str.ofString "") (.lst (((List.range (1 + c % 4).toNat).map fun k => (⟨#[smK c k]⟩ : Str)).map D.str)) s = .ok (.str (lets c)) s := by
  have h4 : 0 ≤ c % 4 ∧ c % 4 < 4 := ⟨Int.emod_nonneg _ (by decide), Int.emod_lt_of_pos _ (by decide)⟩
  rw [empty_str, joinD_all (by
    rw [one_sum, List.length_range, List.length_map, List.length_range]
    show _ + _ * 0 ≤ _
    omega)]
  rw [show ∀ zs, Txt.join ⟨#[]⟩ zs = Str.join ⟨#[]⟩ zs from fun zs => glued_eq_join ⟨#[]⟩ zs]
  rfl
theorem ev_letters (k : Nat) (c : Int) (s : Store) : fns (k + 1) i__law_letters [.int c] s = .ok (.str (lets c)) s := by
  rw [e__law_letters]
  have e := ev_letters0 (c := c) (Z := SM) (s := s) fun i h0 h => sm_ix h0 h
  have es : SM = Str.ofString "abcdefghijklmnopqrstuvwxyz" := rfl
  have ej := lets_join (c := c) (s := s)
  simp only [m__law_letters, ← es]
  rw [List.map_map] at e ej
  generalize SM = Z at e ⊢
  generalize Str.ofString "" = Y at ej ⊢
  simp [bodyF, env0, sSeq, sSet, sIf, sRet, sRetN, sExpr, sPass, sRaise, sBad, eVar, eC, eTup, eLst, aCons, aNil, eCall, ar, DE.e2, eAnd, eOr, eNot, eIf, eNeg, tVal, tAndM, tOrM, tNotM, tYesM, eChain, isiD, tyOf, isTy, eM1, oNone, oSome, eCut, R.bind_ok, R.bind_exc, R.bindS_ok, R.bindS_exc, RS.bind_next, RS.bind_ret, RS.bind_exc, LINE, ofS_inj, ofS_ok, eqD_int, eqD_ss, inD3_ss, inD2_ss, e, ej]
end G
/-! K6M: words over letters 0 to m - 1, their order by a number, what parts two rooms; the search, room by room (no program) -/
namespace M6
/-- the room a word leads to -/
def go (t : Nat → Nat → Nat) : Nat → List Nat → Nat
  | a, [] => a
  | a, k :: w => go t (t a k) w
theorem go_app (t : Nat → Nat → Nat) : ∀ (w v : List Nat) (a : Nat), go t a (w ++ v) = go t (go t a w) v
  | [], _, _ => rfl
  | k :: w, v, a => go_app t w v (t a k)
theorem go_snoc (t : Nat → Nat → Nat) (a : Nat) (w : List Nat) (k : Nat) : go t a (w ++ [k]) = t (go t a w) k := go_app t w [k] a
/-- a word's number: shorter ones first -/
def cdA (c : Nat) (w : List Nat) : Nat := w.foldl (fun c k => 4 * c + k + 1) c
def cd (w : List Nat) : Nat := cdA 0 w
theorem cd_snoc (w : List Nat) (k : Nat) : cd (w ++ [k]) = 4 * cd w + k + 1 := by simp [cd, cdA, List.foldl_append]
def lo : Nat → Nat
  | 0 => 0
  | n + 1 => 4 * lo n + 1
theorem cdA_eq : ∀ (w : List Nat) (c : Nat), cdA c w = c * (3 * lo w.length + 1) + cd w
  | [], c => by simp [cdA, cd, lo]
  | k :: w, c => by
    have h1 : cdA c (k :: w) = cdA (4 * c + k + 1) w := rfl
    have h2 : cd (k :: w) = cdA (k + 1) w := by show cdA (4 * 0 + k + 1) w = _; rw [show 4 * 0 + k + 1 = k + 1 by omega]
    rw [h1, h2, cdA_eq w, cdA_eq w (k + 1)]
    simp only [List.length_cons, lo]
    generalize lo w.length = L
    rw [show 4 * c + k + 1 = 4 * c + (k + 1) by omega, Nat.add_mul, show 3 * (4 * L + 1) + 1 = 4 * (3 * L + 1) by omega, ← Nat.mul_assoc, Nat.mul_comm c 4]
    omega
theorem cd_cons (k : Nat) (w : List Nat) : cd (k :: w) = (k + 1) * (3 * lo w.length + 1) + cd w := by
  have h2 : cd (k :: w) = cdA (k + 1) w := by show cdA (4 * 0 + k + 1) w = _; rw [show 4 * 0 + k + 1 = k + 1 by omega]
  rw [h2, cdA_eq]
/-- its letters are letters -/
def Dg (m : Nat) (w : List Nat) : Prop := ∀ k ∈ w, k < m
theorem Dg.mono {m : Nat} {w : List Nat} (h : Dg m w) (hm : m ≤ 4) : Dg 4 w := fun k hk => Nat.lt_of_lt_of_le (h k hk) hm
theorem Dg.tail {m k : Nat} {w : List Nat} (h : Dg m (k :: w)) : Dg m w := fun j hj => h j (List.mem_cons_of_mem _ hj)
theorem Dg.head {m k : Nat} {w : List Nat} (h : Dg m (k :: w)) : k < m := h k List.mem_cons_self
theorem Dg.cons {m k : Nat} {w : List Nat} (hk : k < m) (h : Dg m w) : Dg m (k :: w) := fun j hj => by
  rcases List.mem_cons.mp hj with rfl | hj
  · exact hk
  · exact h j hj
theorem Dg.app {m : Nat} {w v : List Nat} (h : Dg m w) (hv : Dg m v) : Dg m (w ++ v) := fun j hj => by
  rcases List.mem_append.mp hj with hj | hj
  · exact h j hj
  · exact hv j hj
theorem Dg.one {m k : Nat} (h : k < m) : Dg m [k] := Dg.cons h (fun _ hj => by cases hj)
theorem Dg.nil {m : Nat} : Dg m [] := fun _ hj => by cases hj
theorem Dg.left {m : Nat} {w v : List Nat} (h : Dg m (w ++ v)) : Dg m w := fun j hj => h j (List.mem_append_left _ hj)
theorem Dg.right {m : Nat} {w v : List Nat} (h : Dg m (w ++ v)) : Dg m v := fun j hj => h j (List.mem_append_right _ hj)
theorem mul_le4 {k L : Nat} (h : k < 4) : (k + 1) * (3 * L + 1) ≤ 4 * (3 * L + 1) := Nat.mul_le_mul_right _ (by omega)
theorem mul_ge1 {k L : Nat} : 3 * L + 1 ≤ (k + 1) * (3 * L + 1) := by
  have := Nat.mul_le_mul_right (3 * L + 1) (show 1 ≤ k + 1 by omega)
  omega
theorem cd_bd : ∀ {w : List Nat}, Dg 4 w → lo w.length ≤ cd w ∧ cd w ≤ 4 * lo w.length
  | [], _ => by simp [cd, cdA, lo]
  | k :: w, h => by
    have ih := cd_bd h.tail
    have h1 := @mul_le4 k (lo w.length) h.head
    have h2 := @mul_ge1 k (lo w.length)
    rw [cd_cons]
    simp only [List.length_cons, lo]
    omega
theorem lo_mono {a b : Nat} (h : a ≤ b) : lo a ≤ lo b := by
  induction h with
  | refl => exact Nat.le_refl _
  | step _ ih => simp only [lo]; omega
theorem cd_len {u v : List Nat} (hu : Dg 4 u) (hv : Dg 4 v) (h : u.length < v.length) : cd u < cd v := by
  have h1 := (cd_bd hu).2
  have h2 := (cd_bd hv).1
  have h3 : lo (u.length + 1) ≤ lo v.length := lo_mono h
  simp only [lo] at h3
  omega
theorem cd_lt {k k' : Nat} {x y : List Nat} (hx : Dg 4 x) (hy : Dg 4 y) (hl : x.length = y.length) (h : k < k') : cd (k :: x) < cd (k' :: y) := by
  have h1 := cd_bd hx
  have h2 := cd_bd hy
  rw [cd_cons, cd_cons, hl]
  rw [hl] at h1
  have := Nat.mul_le_mul_right (3 * lo y.length + 1) (show k + 1 + 1 ≤ k' + 1 by omega)
  rw [Nat.add_mul (k + 1) 1] at this
  omega
theorem cd_le {k : Nat} {x y : List Nat} (hl : x.length = y.length) (h : cd x ≤ cd y) : cd (k :: x) ≤ cd (k :: y) := by
  rw [cd_cons, cd_cons, hl]
  omega
theorem cd_inj : ∀ {u v : List Nat}, Dg 4 u → Dg 4 v → cd u = cd v → u = v := by
  intro u
  induction u with
  | nil =>
    intro v hu hv e
    cases v with
    | nil => rfl
    | cons k v => have := cd_len hu hv (by simp); omega
  | cons k u ih =>
    intro v hu hv e
    have hl : (k :: u).length = v.length := by
      rcases Nat.lt_trichotomy (k :: u).length v.length with q | q | q
      · have := cd_len hu hv q; omega
      · exact q
      · have := cd_len hv hu q; omega
    cases v with
    | nil => cases hl
    | cons j v =>
      have hl' : u.length = v.length := by simpa using hl
      have hk : k = j := by
        rcases Nat.lt_trichotomy k j with q | q | q
        · have := cd_lt hu.tail hv.tail hl' q; omega
        · exact q
        · have := cd_lt hv.tail hu.tail hl'.symm q; omega
      subst hk
      rw [cd_cons, cd_cons, hl'] at e
      rw [ih hu.tail hv.tail (by omega)]
section
variable {t : Nat → Nat → Nat} {e : Nat → Bool} {m : Nat}
/-- the word leads from just one of both to an end -/
def Ds (t : Nat → Nat → Nat) (e : Nat → Bool) (a b : Nat) (w : List Nat) : Prop := e (go t a w) ≠ e (go t b w)
theorem Ds.symm {a b : Nat} {w : List Nat} (h : Ds t e a b w) : Ds t e b a w := fun q => h q.symm
/-- .. the first of the shortest that do -/
structure Least (t : Nat → Nat → Nat) (e : Nat → Bool) (m a b : Nat) (w : List Nat) : Prop where
  dg : Dg m w
  ds : Ds t e a b w
  min : ∀ v, Dg m v → Ds t e a b v → cd w ≤ cd v
theorem Least.symm {a b : Nat} {w : List Nat} (h : Least t e m a b w) : Least t e m b a w := ⟨h.dg, h.ds.symm, fun v hv hd => h.min v hv hd.symm⟩
theorem Least.uniq {a b : Nat} {u v : List Nat} (hm : m ≤ 4) (h : Least t e m a b u) (h' : Least t e m a b v) : u = v :=
  cd_inj (h.dg.mono hm) (h'.dg.mono hm) (Nat.le_antisymm (h.min v h'.dg h'.ds) (h'.min u h.dg h.ds))
/-- no word parts them -/
def Same (t : Nat → Nat → Nat) (e : Nat → Bool) (m a b : Nat) : Prop := ∀ w, Dg m w → ¬ Ds t e a b w
/-! ### in how few signs -/
def df (t : Nat → Nat → Nat) (e : Nat → Bool) (m : Nat) : Nat → Nat → Nat → Prop
  | 0, a, b => e a ≠ e b
  | L + 1, a, b => ∃ k, k < m ∧ df t e m L (t a k) (t b k)
theorem df_iff : ∀ {L a b : Nat}, df t e m L a b ↔ ∃ w, w.length = L ∧ Dg m w ∧ Ds t e a b w
  | 0, a, b => by
    constructor
    · exact fun h => ⟨[], rfl, .nil, h⟩
    · rintro ⟨w, hl, _, h⟩
      obtain rfl : w = [] := List.length_eq_zero_iff.mp hl
      exact h
  | L + 1, a, b => by
    constructor
    · rintro ⟨k, hk, h⟩
      obtain ⟨w, hl, hd, hs⟩ := df_iff.mp h
      exact ⟨k :: w, by simp [hl], hd.cons hk, hs⟩
    · rintro ⟨w, hl, hd, hs⟩
      cases w with
      | nil => cases hl
      | cons k w => exact ⟨k, hd.head, df_iff.mpr ⟨w, by simpa using hl, hd.tail, hs⟩⟩
structure IsD (t : Nat → Nat → Nat) (e : Nat → Bool) (m L a b : Nat) : Prop where
  df : df t e m L a b
  no : ∀ L', L' < L → ¬ M6.df t e m L' a b
theorem IsD.uniq {L L' a b : Nat} (h : IsD t e m L a b) (h' : IsD t e m L' a b) : L = L' := by
  rcases Nat.lt_trichotomy L L' with q | q | q
  · exact absurd h.df (h'.no L q)
  · exact q
  · exact absurd h'.df (h.no L' q)
theorem IsD.of : ∀ {L a b : Nat}, M6.df t e m L a b → ∃ L', L' ≤ L ∧ IsD t e m L' a b := by
  intro L
  induction L using Nat.strongRecOn with
  | ind L ih =>
    intro a b h
    by_cases q : ∃ L', L' < L ∧ M6.df t e m L' a b
    · obtain ⟨L', hl, h'⟩ := q
      obtain ⟨L2, h2, hd⟩ := ih L' hl h'
      exact ⟨L2, by omega, hd⟩
    · exact ⟨L, Nat.le_refl _, h, fun L' hl h' => q ⟨L', hl, h'⟩⟩
theorem IsD.zero {a b : Nat} : IsD t e m 0 a b ↔ e a ≠ e b := ⟨fun h => h.df, fun h => ⟨h, fun L' hl => absurd hl (Nat.not_lt_zero _)⟩⟩
theorem IsD.succ {T a b : Nat} : IsD t e m (T + 1) a b ↔ (∀ L, L ≤ T → ¬ IsD t e m L a b) ∧ ∃ k, k < m ∧ IsD t e m T (t a k) (t b k) := by
  constructor
  · intro h
    refine ⟨fun L hL hd => h.no L (by omega) hd.df, ?_⟩
    obtain ⟨k, hk, hd⟩ := h.df
    exact ⟨k, hk, hd, fun L' hl h' => h.no (L' + 1) (by omega) ⟨k, hk, h'⟩⟩
  · rintro ⟨h1, k, hk, h2⟩
    refine ⟨⟨k, hk, h2.df⟩, fun L' hl h' => ?_⟩
    obtain ⟨L2, hl2, hd⟩ := IsD.of h'
    exact h1 L2 (by omega) hd
/-- where no pair wants T signs, none wants more -/
theorem IsD.stop {n T : Nat} (ht : ∀ a k, a < n → k < m → t a k < n) (h : ∀ a b, a < n → b < n → ¬ IsD t e m T a b) : ∀ d a b, a < n → b < n → ¬ IsD t e m (T + d) a b
  | 0, a, b, ha, hb => h a b ha hb
  | d + 1, a, b, ha, hb => fun q => by
    obtain ⟨_, k, hk, hd⟩ := IsD.succ.mp (show IsD t e m (T + d + 1) a b from q)
    exact IsD.stop ht h d _ _ (ht a k ha hk) (ht b k hb hk) hd
theorem same_of {a b : Nat} (h : ∀ L, ¬ IsD t e m L a b) : Same t e m a b := fun w hw hd => by
  obtain ⟨L, _, hL⟩ := IsD.of (df_iff.mpr ⟨w, rfl, hw, hd⟩)
  exact h L hL
/-- the first of the shortest, of length L -/
def LeastL (t : Nat → Nat → Nat) (e : Nat → Bool) (m L a b : Nat) (w : List Nat) : Prop := Least t e m a b w ∧ w.length = L
theorem least_zero {a b : Nat} (h : e a ≠ e b) : LeastL t e m 0 a b [] := ⟨⟨.nil, h, fun v _ _ => Nat.zero_le _⟩, rfl⟩
theorem least_step {L a b j : Nat} {w : List Nat} (hm : m ≤ 4) (h : IsD t e m (L + 1) a b) (hj : j < m) (hno : ∀ k, k < j → ¬ IsD t e m L (t a k) (t b k)) (hw : LeastL t e m L (t a j) (t b j) w) : LeastL t e m (L + 1) a b (j :: w) := by
  obtain ⟨hl, hlen⟩ := hw
  refine ⟨⟨hl.dg.cons hj, hl.ds, fun v hv hd => ?_⟩, by simp [hlen]⟩
  have hdj := (hl.dg.cons hj).mono hm
  have hge : L + 1 ≤ v.length := by
    rcases Nat.lt_or_ge v.length (L + 1) with q | q
    · exact absurd (df_iff.mpr ⟨v, rfl, hv, hd⟩) (h.no _ q)
    · exact q
  rcases Nat.lt_or_ge (L + 1) v.length with q | q
  · exact Nat.le_of_lt (cd_len hdj (hv.mono hm) (by simp [hlen]; exact q))
  · have hvl : v.length = L + 1 := by omega
    cases v with
    | nil => cases hvl
    | cons k v =>
      have hvl' : v.length = L := by simpa using hvl
      have hdk : df t e m L (t a k) (t b k) := df_iff.mpr ⟨v, hvl', hv.tail, hd⟩
      have hik : IsD t e m L (t a k) (t b k) := ⟨hdk, fun L' hl' h' => h.no (L' + 1) (by omega) ⟨k, hv.head, h'⟩⟩
      rcases Nat.lt_trichotomy j k with q | q | q
      · exact Nat.le_of_lt (cd_lt (hl.dg.mono hm) (hv.tail.mono hm) (by omega) q)
      · subst q
        exact cd_le (by omega) (hl.min v hv.tail hd)
      · exact absurd hik (hno k q)
/-! ### the search -/
def pr (t : Nat → Nat → Nat) (a b : Nat) (w : List Nat) : Nat × Nat := (go t a w, go t b w)
theorem pr_snoc {a b : Nat} {u v : List Nat} (k : Nat) (h : pr t a b u = pr t a b v) : pr t a b (u ++ [k]) = pr t a b (v ++ [k]) := by
  have h1 : go t a u = go t a v := congrArg Prod.fst h
  have h2 : go t b u = go t b v := congrArg Prod.snd h
  simp only [pr, go_snoc, h1, h2]
theorem pr_ds {a b : Nat} {u v : List Nat} (h : pr t a b u = pr t a b v) : Ds t e a b u ↔ Ds t e a b v := by
  have h1 : go t a u = go t a v := congrArg Prod.fst h
  have h2 : go t b u = go t b v := congrArg Prod.snd h
  simp only [Ds, h1, h2]
def Bef (at_ p i k : Nat) : Prop := i < at_ ∨ (i = at_ ∧ k < p)
/-- the row of words: of those ahead of place at_ all next ones are in it, of the one there those by letters less than p -/
structure BI (t : Nat → Nat → Nat) (e : Nat → Bool) (m a b : Nat) (row : List (List Nat)) (at_ p c : Nat) : Prop where
  z : row[0]? = some []
  dg : ∀ v ∈ row, Dg m v
  nd : (row.map (pr t a b)).Nodup
  len : ∀ (i : Nat) v, row[i]? = some v → v.length ≤ i
  chk : ∀ (i : Nat) v, i < c → row[i]? = some v → ¬ Ds t e a b v
  cl : ∀ (i k : Nat) u, row[i]? = some u → k < m → Bef at_ p i k → ∃ (j : Nat) (v : List Nat), row[j]? = some v ∧ pr t a b v = pr t a b (u ++ [k]) ∧ cd v ≤ cd (u ++ [k])
  so : ∀ (i j : Nat) u v, i < j → row[i]? = some u → row[j]? = some v → cd u < cd v
  og : ∀ v ∈ row, v = [] ∨ ∃ (j k : Nat) (u : List Nat), Bef at_ p j k ∧ row[j]? = some u ∧ k < m ∧ v = u ++ [k]
theorem BI.start {a b : Nat} : BI t e m a b [[]] 0 0 0 where
  z := rfl
  dg := fun v hv => by obtain rfl : v = [] := by simpa using hv
                       exact .nil
  nd := by simp
  len := fun i v h => by
    cases i with
    | zero => cases h; exact Nat.le_refl _
    | succ i => cases h
  chk := fun i v h => absurd h (Nat.not_lt_zero _)
  cl := fun i k u _ _ h => by rcases h with h | ⟨_, h⟩ <;> exact absurd h (Nat.not_lt_zero _)
  so := fun i j u v h _ e2 => by
    cases j with
    | zero => exact absurd h (Nat.not_lt_zero _)
    | succ j => cases e2
  og := fun v hv => .inl (by simpa using hv)
variable {a b : Nat} {row : List (List Nat)} {at_ p c : Nat}
/-- all that is in the row is less than the word that is looked at -/
theorem BI.all_lt (hm : m ≤ 4) (B : BI t e m a b row at_ p c) {u : List Nat} (hu : row[at_]? = some u) : ∀ v ∈ row, cd v < cd (u ++ [p]) := fun v hv => by
  rw [cd_snoc]
  rcases B.og v hv with rfl | ⟨j, k, x, hb, hx, hk, rfl⟩
  · show 0 < _; omega
  · rw [cd_snoc]
    rcases hb with hb | ⟨rfl, hb⟩
    · have := B.so j at_ x u hb hx hu
      omega
    · rw [hu] at hx; cases hx; omega
theorem BI.seen (hm : m ≤ 4) (B : BI t e m a b row at_ p c) {u : List Nat} (hu : row[at_]? = some u) (hin : pr t a b (u ++ [p]) ∈ row.map (pr t a b)) : BI t e m a b row at_ (p + 1) c where
  z := B.z
  dg := B.dg
  nd := B.nd
  len := B.len
  chk := B.chk
  so := B.so
  og := fun v hv => by
    rcases B.og v hv with h | ⟨j, k, x, hb, hx, hk, q⟩
    · exact .inl h
    · exact .inr ⟨j, k, x, by rcases hb with hb | ⟨h1, h2⟩
                              · exact .inl hb
                              · exact .inr ⟨h1, by omega⟩, hx, hk, q⟩
  cl := fun i k x hx hk hb => by
    by_cases q : i = at_ ∧ k = p
    · obtain ⟨rfl, rfl⟩ := q
      rw [hu] at hx; cases hx
      obtain ⟨v, hv, e1⟩ := List.mem_map.mp hin
      obtain ⟨j, hj⟩ := List.getElem?_of_mem hv
      exact ⟨j, v, hj, e1, Nat.le_of_lt (B.all_lt hm hu v hv)⟩
    · refine B.cl i k x hx hk ?_
      rcases hb with hb | ⟨h1, h2⟩
      · exact .inl hb
      · exact .inr ⟨h1, by omega⟩
theorem get_app {α : Type} {l : List α} {x : α} {i : Nat} {y : α} (h : (l ++ [x])[i]? = some y) : (l[i]? = some y) ∨ (i = l.length ∧ y = x) := by
  rcases Nat.lt_trichotomy i l.length with q | q | q
  · rw [List.getElem?_append_left q] at h; exact .inl h
  · subst q; rw [List.getElem?_append_right (Nat.le_refl _), Nat.sub_self] at h; cases h; exact .inr ⟨rfl, rfl⟩
  · rw [List.getElem?_eq_none (by simp; omega)] at h; cases h
theorem get_app_l {α : Type} {l : List α} {x : α} {i : Nat} {y : α} (h : l[i]? = some y) : (l ++ [x])[i]? = some y := by
  rw [List.getElem?_append_left (List.getElem?_eq_some_iff.mp h).1]; exact h
theorem BI.more (hm : m ≤ 4) (hp : p < m) (hc : c ≤ row.length) (B : BI t e m a b row at_ p c) {u : List Nat} (hu : row[at_]? = some u) (hin : pr t a b (u ++ [p]) ∉ row.map (pr t a b)) : BI t e m a b (row ++ [u ++ [p]]) at_ (p + 1) c where
  z := get_app_l B.z
  dg := fun v hv => by
    rcases List.mem_append.mp hv with hv | hv
    · exact B.dg v hv
    · obtain rfl : v = u ++ [p] := by simpa using hv
      exact (B.dg u (List.mem_of_getElem? hu)).app (.one hp)
  nd := by
    rw [List.map_append, List.nodup_append]
    refine ⟨B.nd, by simp, fun x hx y hy => ?_⟩
    obtain rfl : y = pr t a b (u ++ [p]) := by simpa using hy
    rintro rfl
    exact hin hx
  len := fun i v h => by
    rcases get_app h with h | ⟨rfl, rfl⟩
    · exact B.len i v h
    · have h1 := B.len at_ u hu
      have h2 := (List.getElem?_eq_some_iff.mp hu).1
      simp only [List.length_append, List.length_cons, List.length_nil]
      omega
  chk := fun i v hi h => by
    rcases get_app h with h | ⟨rfl, rfl⟩
    · exact B.chk i v hi h
    · omega
  so := fun i j x y hij hx hy => by
    rcases get_app hy with hy | ⟨rfl, rfl⟩
    · rcases get_app hx with hx | ⟨rfl, rfl⟩
      · exact B.so i j x y hij hx hy
      · have := (List.getElem?_eq_some_iff.mp hy).1; omega
    · rcases get_app hx with hx | ⟨rfl, rfl⟩
      · exact B.all_lt hm hu x (List.mem_of_getElem? hx)
      · omega
  og := fun v hv => by
    rcases List.mem_append.mp hv with hv | hv
    · rcases B.og v hv with h | ⟨j, k, x, hb, hx, hk, q⟩
      · exact .inl h
      · exact .inr ⟨j, k, x, by rcases hb with hb | ⟨h1, h2⟩
                                · exact .inl hb
                                · exact .inr ⟨h1, by omega⟩, get_app_l hx, hk, q⟩
    · exact .inr ⟨at_, p, u, .inr ⟨rfl, by omega⟩, get_app_l hu, hp, by simpa using hv⟩
  cl := fun i k x hx hk hb => by
    by_cases q : i = at_ ∧ k = p
    · obtain ⟨rfl, rfl⟩ := q
      have := get_app_l (x := u ++ [k]) hu
      rw [this] at hx; cases hx
      exact ⟨row.length, u ++ [k], by rw [List.getElem?_append_right (Nat.le_refl _), Nat.sub_self]; rfl, rfl, Nat.le_refl _⟩
    · have hb' : Bef at_ p i k := by
        rcases hb with hb | ⟨h1, h2⟩
        · exact .inl hb
        · exact .inr ⟨h1, by omega⟩
      have hi : i < row.length := by
        have := (List.getElem?_eq_some_iff.mp hu).1
        rcases hb' with hb' | ⟨rfl, _⟩ <;> omega
      rw [List.getElem?_append_left hi] at hx
      obtain ⟨j, v, h1, h2, h3⟩ := B.cl i k x hx hk hb'
      exact ⟨j, v, get_app_l h1, h2, h3⟩
theorem BI.next (B : BI t e m a b row at_ m (at_ + 1)) : BI t e m a b row (at_ + 1) 0 (at_ + 1) where
  z := B.z
  dg := B.dg
  nd := B.nd
  len := B.len
  chk := B.chk
  so := B.so
  og := fun v hv => by
    rcases B.og v hv with h | ⟨j, k, x, hb, hx, hk, q⟩
    · exact .inl h
    · exact .inr ⟨j, k, x, .inl (by rcases hb with hb | ⟨h1, h2⟩ <;> omega), hx, hk, q⟩
  cl := fun i k x hx hk hb => B.cl i k x hx hk (by
    rcases hb with hb | ⟨_, hb⟩
    · rcases Nat.lt_or_ge i at_ with q | q
      · exact .inl q
      · exact .inr ⟨by omega, hk⟩
    · exact absurd hb (Nat.not_lt_zero _))
theorem BI.look (B : BI t e m a b row at_ 0 c) (hx : ∀ i, i < at_ → i < c) {u : List Nat} (hu : row[at_]? = some u) (hs : ¬ Ds t e a b u) : BI t e m a b row at_ 0 (at_ + 1) where
  z := B.z
  dg := B.dg
  nd := B.nd
  len := B.len
  so := B.so
  og := B.og
  cl := B.cl
  chk := fun i v hi h => by
    by_cases q : i = at_
    · subst q; rw [hu] at h; cases h; exact hs
    · exact B.chk i v (hx i (by omega)) h
theorem snoc_ind {P : List Nat → Prop} (h0 : P []) (h1 : ∀ w k, P w → P (w ++ [k])) (w : List Nat) : P w := by
  rw [← List.reverse_reverse w]
  induction w.reverse with
  | nil => exact h0
  | cons k v ih => rw [List.reverse_cons]; exact h1 _ k ih
theorem BI.core (B : BI t e m a b row at_ 0 c) : ∀ w, Dg m w → (∃ (j : Nat) (v : List Nat), j < at_ ∧ row[j]? = some v ∧ pr t a b v = pr t a b w ∧ cd v ≤ cd w) ∨ (at_ < row.length ∧ ∀ u, row[at_]? = some u → cd u ≤ cd w) := by
  intro w
  induction w using snoc_ind with
  | h0 =>
    intro _
    rcases Nat.eq_zero_or_pos at_ with q | q
    · subst q
      exact .inr ⟨(List.getElem?_eq_some_iff.mp B.z).1, fun u hu => by rw [B.z] at hu; cases hu; exact Nat.le_refl _⟩
    · exact .inl ⟨0, [], q, B.z, rfl, Nat.le_refl _⟩
  | h1 x k ih =>
    intro hw
    have hk : k < m := hw k (by simp)
    rcases ih hw.left with ⟨j, v, hj, hv, hp, hc⟩ | ⟨hlt, hc⟩
    · obtain ⟨i, v', hv', hp', hc'⟩ := B.cl j k v hv hk (.inl hj)
      have hc2 : cd v' ≤ cd (x ++ [k]) := by
        rw [cd_snoc] at hc' ⊢
        omega
      have hp2 := hp'.trans (pr_snoc k hp)
      rcases Nat.lt_or_ge i at_ with q | q
      · exact .inl ⟨i, v', q, hv', hp2, hc2⟩
      · have hi := (List.getElem?_eq_some_iff.mp hv').1
        refine .inr ⟨by omega, fun u hu => ?_⟩
        rcases Nat.lt_or_ge at_ i with q2 | q2
        · have := B.so at_ i u v' q2 hu hv'
          omega
        · have : i = at_ := by omega
          subst this
          rw [hu] at hv'; cases hv'
          exact hc2
    · refine .inr ⟨hlt, fun u hu => ?_⟩
      have := hc u hu
      rw [cd_snoc]
      omega
theorem BI.found (B : BI t e m a b row at_ 0 at_) {u : List Nat} (hu : row[at_]? = some u) (hs : Ds t e a b u) : Least t e m a b u := by
  refine ⟨B.dg u (List.mem_of_getElem? hu), hs, fun v hv hd => ?_⟩
  rcases B.core v hv with ⟨j, x, hj, hx, hp, _⟩ | ⟨_, hc⟩
  · exact absurd ((pr_ds hp).mpr hd) (B.chk j x hj hx)
  · exact hc u hu
theorem BI.none (B : BI t e m a b row at_ 0 at_) (h : row.length ≤ at_) : Same t e m a b := fun w hw hd => by
  rcases B.core w hw with ⟨j, x, hj, hx, hp, _⟩ | ⟨hlt, _⟩
  · exact absurd ((pr_ds hp).mpr hd) (B.chk j x hj hx)
  · omega
/-- all pairs of numbers less than n -/
def allPr (n : Nat) : List (Nat × Nat) := (List.range n).flatMap fun i => (List.range n).map fun j => (i, j)
theorem allPr_len (n : Nat) : (allPr n).length = n * n := by
  unfold allPr
  rw [List.length_flatMap]
  have : ∀ k, ((List.range k).map fun i => ((List.range n).map fun j => (i, j)).length).sum = k * n := by
    intro k
    induction k with
    | zero => simp
    | succ k ih => rw [List.range_succ, List.map_append, List.sum_append, ih]; simp [Nat.succ_mul]
  exact this n
theorem mem_allPr {n : Nat} {x : Nat × Nat} : x ∈ allPr n ↔ x.1 < n ∧ x.2 < n := by
  unfold allPr
  obtain ⟨i, j⟩ := x
  simp
theorem go_lt {n : Nat} (ht : ∀ a k, a < n → k < m → t a k < n) : ∀ (w : List Nat) (x : Nat), x < n → Dg m w → go t x w < n
  | [], _, ha, _ => ha
  | k :: w, x, ha, hw => go_lt ht w (t x k) (ht x k ha hw.head) hw.tail
theorem BI.row_len {n : Nat} (ht : ∀ a k, a < n → k < m → t a k < n) (ha : a < n) (hb : b < n) (B : BI t e m a b row at_ p c) : row.length ≤ n * n := by
  have h := B.nd.length_le_of_subset (l₂ := allPr n) fun x hx => by
    obtain ⟨w, hw, rfl⟩ := List.mem_map.mp hx
    exact mem_allPr.mpr ⟨go_lt ht w a ha (B.dg w hw), go_lt ht w b hb (B.dg w hw)⟩
  rw [List.length_map, allPr_len] at h
  exact h
end
end M6
/-! EVC: k06's ground: cells, letters, texts of letters, loops that change the store, the machine as it lies in the store -/
namespace G
open PySem PySem.Spec PyProof.Rows L2 DE
theorem seq_to {A B : DE.SM} {env env1 : DE.Env} {s s1 : Store} (h : A env s = .next env1 s1) : sSeq A B env s = B env1 s1 := by unfold sSeq; rw [h]; rfl
theorem seq_stop {A B : DE.SM} {env : DE.Env} {s s1 : Store} {d : D} (h : A env s = .ret d s1) : sSeq A B env s = .ret d s1 := by unfold sSeq; rw [h]; rfl
theorem seq_exc {A B : DE.SM} {env : DE.Env} {s s1 : Store} {c : Nat} (h : A env s = .exc c s1) : sSeq A B env s = .exc c s1 := by unfold sSeq; rw [h]; rfl
theorem body_next {n : Nat} {m : DE.SM} {ds : List D} {env : DE.Env} {s s2 : Store} (h : m (env0 n ds) s = .next env s2) : bodyF n m ds s = .ok .non s2 := by unfold bodyF; rw [h]
theorem body_exc {n : Nat} {m : DE.SM} {ds : List D} {s s2 : Store} {c : Nat} (h : m (env0 n ds) s = .exc c s2) : bodyF n m ds s = .exc c s2 := by unfold bodyF; rw [h]
/-- a cell of the script, 0 behind its end -/
def cellAt (ns : List Int) (k : Nat) : Int := (ns[k]?).getD 0
theorem ev_cell (n : Nat) (ns : List Int) (k : Nat) (s : Store) : fns (n + 1) i__law_cell_at [.scr ns, .int (k : Nat)] s = .ok (.int (cellAt ns k)) s := by
  rw [e__law_cell_at]
  have hl : lenD [.scr ns] s = .ok (.int ns.length) s := by
    show (match rdS s (.scr ns) with | some xs => (R.ok (D.int xs.length) s : R D) | none => .bad) = _
    simp [rdS]
  by_cases h : k < ns.length
  · have h' : (k : Int) < ns.length := by omega
    have hx : ixD (.scr ns) (.int (k : Nat)) s = .ok (.int (cellAt ns k)) s := by
      have e : atI (ns.map D.int) (k : Int) = some (.int (cellAt ns k)) := by
        rw [atI_nat _ _ (by rw [List.length_map]; exact h), List.getElem?_map]
        simp [cellAt, h]
      simp [ixD, rdS, e]
    simp [m__law_cell_at, bodyF, env0, sSeq, sSet, sIf, sRet, sRetN, sExpr, sPass, sRaise, sBad, eVar, eC, eTup, eLst, aCons, aNil, eCall, ar, DE.e2, eAnd, eOr, eNot, eIf, eNeg, tVal, tAndM, tOrM, tNotM, tYesM, eChain, isiD, tyOf, isTy, eM1, oNone, oSome, eCut, R.bind_ok, R.bind_exc, R.bindS_ok, R.bindS_exc, RS.bind_next, RS.bind_ret, RS.bind_exc, LINE, ofS_inj, ofS_ok, eqD_int, eqD_ss, inD3_ss, inD2_ss, hl, ltD, cmpI, h', hx]
  · have h' : ¬ (k : Int) < ns.length := by omega
    have hc : cellAt ns k = 0 := by simp [cellAt, List.getElem?_eq_none (Nat.le_of_not_lt h)]
    simp [m__law_cell_at, bodyF, env0, sSeq, sSet, sIf, sRet, sRetN, sExpr, sPass, sRaise, sBad, eVar, eC, eTup, eLst, aCons, aNil, eCall, ar, DE.e2, eAnd, eOr, eNot, eIf, eNeg, tVal, tAndM, tOrM, tNotM, tYesM, eChain, isiD, tyOf, isTy, eM1, oNone, oSome, eCut, R.bind_ok, R.bind_exc, R.bindS_ok, R.bindS_exc, RS.bind_next, RS.bind_ret, RS.bind_exc, LINE, ofS_inj, ofS_ok, eqD_int, eqD_ss, inD3_ss, inD2_ss, hl, ltD, cmpI, h', hc]
/-! ### letters -/
def lc (l : Str) (k : Nat) : Nat := l.cps.getD k 0
def ixAll (l : Str) : Bool := (List.range l.length).all fun k => (Builtin.Str.occurrences l ⟨#[lc l k]⟩ 0 l.length 1).head? == some k
structure LetF (l : Str) : Prop where
  ok : letOk (.str l) = true
  pl : pl (.str l) = true
  ix : ixAll l = true
theorem ix_all : ((List.range 26).all fun a => (List.range 12).all fun st => (List.range 4).all fun n => ixAll (letsF a (n + 1) (st + 1))) = true := by decide +kernel
theorem lets_F (c : Int) : LetF (lets c) := by
  refine ⟨(lets_ok c).1, (lets_ok c).2, ?_⟩
  have h4 : 0 ≤ c % 4 ∧ c % 4 < 4 := ⟨Int.emod_nonneg _ (by decide), Int.emod_lt_of_pos _ (by decide)⟩
  have h12 : 0 ≤ c / 104 % 12 ∧ c / 104 % 12 < 12 := ⟨Int.emod_nonneg _ (by decide), Int.emod_lt_of_pos _ (by decide)⟩
  have h26 : 0 ≤ c / 4 % 26 ∧ c / 4 % 26 < 26 := ⟨Int.emod_nonneg _ (by decide), Int.emod_lt_of_pos _ (by decide)⟩
  have h := ix_all
  rw [List.all_eq_true] at h
  have h := h (c / 4 % 26).toNat (List.mem_range.mpr (by omega))
  rw [List.all_eq_true] at h
  have h := h (c / 104 % 12).toNat (List.mem_range.mpr (by omega))
  rw [List.all_eq_true] at h
  have h := h (c % 4).toNat (List.mem_range.mpr (by omega))
  have e1 : (c % 4).toNat + 1 = (1 + c % 4).toNat := by omega
  have e2 : (c / 104 % 12).toNat + 1 = (1 + c / 104 % 12).toNat := by omega
  rw [e1, e2] at h
  exact h
theorem LetF.sok {l : Str} (h : LetF l) : strOk' l = true := by
  have := h.pl
  simp only [G.pl, Bool.and_eq_true] at this
  exact this.1
theorem LetF.len {l : Str} (h : LetF l) : 1 ≤ l.length ∧ l.length ≤ 4 := by
  have := h.ok
  simp only [letOk, Bool.and_eq_true, decide_eq_true_eq] at this
  exact this.1
theorem lc_mem {l : Str} {k : Nat} (h : k < l.length) : lc l k ∈ l.cps.toList := by
  have h' : k < l.cps.size := h
  simp [lc, Array.getD, h']
theorem let_ixN {l : Str} (h : LetF l) {k : Nat} (s : Store) (hk : k < l.length) : ixD (.str l) (.int (k : Nat)) s = .ok (.str ⟨#[lc l k]⟩) s := by
  have hk' : k < l.cps.size := hk
  show (if l.length ≤ LINE then (match atI l.cps.toList (k : Int) with | some c => (R.ok (D.str ⟨#[c]⟩) s : R D) | none => .bad) else .bad) = _
  rw [if_pos (by have := h.len.2; unfold LINE; omega), atI_nat _ _ (by simpa using hk')]
  simp [lc, Array.getD, hk']
theorem let_index {l : Str} (h : LetF l) {k : Nat} (s : Store) (hk : k < l.length) : sindexD l (.str ⟨#[lc l k]⟩) s = .ok (.int (k : Nat)) s := by
  have hx := h.ix
  unfold ixAll at hx
  rw [List.all_eq_true] at hx
  have hx := hx k (List.mem_range.mpr hk)
  unfold sindexD
  simp only
  cases q : Builtin.Str.occurrences l ⟨#[lc l k]⟩ 0 l.length 1 with
  | nil => rw [q] at hx; simp at hx
  | cons i r => rw [q] at hx; simp at hx; subst hx; rfl
/-- the text of a word -/
def txt (l : Str) (w : List Nat) : Str := ⟨(w.map (lc l)).toArray⟩
theorem txt_len (l : Str) (w : List Nat) : (txt l w).length = w.length := by simp [txt, Str.length]
theorem txt_signs (l : Str) (w : List Nat) : DE.signs (txt l w) = w.map fun k => .str ⟨#[lc l k]⟩ := by simp [DE.signs, txt]
theorem txt_snoc (l : Str) (w : List Nat) (k : Nat) : txt l w ++ ⟨#[lc l k]⟩ = txt l (w ++ [k]) := by
  show (⟨(w.map (lc l)).toArray ++ #[lc l k]⟩ : Str) = ⟨((w ++ [k]).map (lc l)).toArray⟩
  simp
theorem addD_str {a b : Str} {s : Store} (h : a.length + b.length ≤ 16777216) : addD (.str a) (.str b) s = .ok (.str (a ++ b)) s := by
  show (if a.length + b.length ≤ sizeLine then (R.ok (D.str (a ++ b)) s : R D) else .bad) = _
  rw [if_pos (Nat.le_trans h (by decide))]
/-! ### loops that change the store -/
theorem for_st {g : GM} {body : DE.SM} {a : List D × Option (Store → Prop)} (I : Nat → DE.Env → Store → Prop) (ok : ∀ i env s, I i env s → okG a s) : ∀ (xs : List D) (i : Nat) (env : DE.Env) (s : Store), I i env s →
    (∀ j x, xs[j]? = some x → ∀ env s, I (i + j) env s → ∃ env1 s1 env2 s2, g x env s = .ok env1 s1 ∧ body env1 s1 = .next env2 s2 ∧ I (i + j + 1) env2 s2) → ∃ env2 s2, forD g body a xs env s = .next env2 s2 ∧ I (i + xs.length) env2 s2
  | [], i, env, s, h, _ => ⟨env, s, by unfold forD; rw [if_pos (ok i env s h)], h⟩
  | x :: xs, i, env, s, h, hh => by
    obtain ⟨env1, s1, env2, s2, e1, e2, h2⟩ := hh 0 x rfl env s h
    obtain ⟨env3, s3, e3, h3⟩ := for_st I ok xs (i + 1) env2 s2 h2 fun j y hy env s hi => by
      have e : i + 1 + j = i + (j + 1) := by omega
      rw [e] at hi ⊢
      exact hh (j + 1) y hy env s hi
    refine ⟨env3, s3, ?_, by have e : i + (x :: xs).length = i + 1 + xs.length := by simp only [List.length_cons]; omega
                             rw [e]; exact h3⟩
    unfold forD
    rw [if_pos (ok i env s h), e1]
    simp only [R.bindS_ok, e2, loopB_next]
    exact e3
/-- range(n) by its numbers -/
theorem rangeL_get {n j : Nat} {x : D} (h : (rangeL 0 (n : Nat))[j]? = some x) : j < n ∧ x = .int (j : Nat) := by
  unfold rangeL at h
  rw [List.getElem?_map] at h
  have hn : ((n : Int) - 0).toNat = n := by omega
  rw [hn] at h
  by_cases hj : j < n
  · rw [List.getElem?_range hj] at h
    refine ⟨hj, ?_⟩
    have : D.int (0 + (j : Nat)) = x := by simpa using h
    rw [← this, Int.zero_add]
  · rw [List.getElem?_eq_none (by simpa using hj)] at h; cases h
theorem rangeL_len (n : Nat) : (rangeL 0 (n : Nat)).length = n := by simp [rangeL]
theorem itR1_ok {ms : AM} {env : DE.Env} {s : Store} {n : Nat} (h : ms env s = .ok [.int (n : Nat)] s) (hn : n < 1000000) : itR1 ms env s = .ok (rangeL 0 (n : Nat), none) s := by
  unfold itR1
  rw [h]
  simp only [R.bind_ok]
  rw [if_pos (by unfold P62; omega)]
/-- a loop over range(n) -/
theorem for_rng {g : GM} {body : DE.SM} {ms : AM} {n : Nat} (I : Nat → DE.Env → Store → Prop) {env : DE.Env} {s : Store} (hn : n < 1000000) (hm : ms env s = .ok [.int (n : Nat)] s) (h0 : I 0 env s)
    (hh : ∀ j, j < n → ∀ env s, I j env s → ∃ env1 s1 env2 s2, g (.int (j : Nat)) env s = .ok env1 s1 ∧ body env1 s1 = .next env2 s2 ∧ I (j + 1) env2 s2) : ∃ env2 s2, sFor (itR1 ms) g body env s = .next env2 s2 ∧ I n env2 s2 := by
  obtain ⟨env2, s2, e2, h2⟩ := for_st (g := g) (body := body) (a := (rangeL 0 (n : Nat), none)) I (fun _ _ _ _ => by simp) (rangeL 0 (n : Nat)) 0 env s h0 fun j x hx env s hi => by
    obtain ⟨hj, rfl⟩ := rangeL_get hx
    rw [Nat.zero_add] at hi ⊢
    exact hh j hj env s hi
  refine ⟨env2, s2, ?_, by rw [rangeL_len, Nat.zero_add] at h2; exact h2⟩
  unfold sFor
  rw [itR1_ok hm hn]
  exact e2
/-! ### the machine as it lies in the store -/
structure Mach (n m : Nat) (t : Nat → Nat → Nat) (e : Nat → Bool) (s : Store) : Prop where
  n0 : 0 < n
  n14 : n ≤ 14
  m0 : 0 < m
  m4 : m ≤ 4
  ht : ∀ a k, a < n → k < m → t a k < n
  st : s[0]? = some (.lst ((List.range n).map fun r => .ref (r + 2)))
  en : s[1]? = some (.lst ((List.range n).map fun r => .bl (e r)))
  row : ∀ r, r < n → s[r + 2]? = some (.lst ((List.range m).map fun k => .int ((t r k : Nat) : Int)))
def MD : D := .tup [.ref 0, .ref 1]
section
variable {n m : Nat} {t : Nat → Nat → Nat} {e : Nat → Bool} {s s' : Store}
theorem Mach.mono (M : Mach n m t e s) (h : ∀ i, i < n + 2 → s'[i]? = s[i]?) : Mach n m t e s' :=
  ⟨M.n0, M.n14, M.m0, M.m4, M.ht, (h 0 (by omega)).trans M.st, (h 1 (by omega)).trans M.en, fun r hr => (h (r + 2) (by omega)).trans (M.row r hr)⟩
theorem Mach.big (M : Mach n m t e s) : n + 2 ≤ s.length := by
  have h := M.row (n - 1) (by have := M.n0; omega)
  have := (List.getElem?_eq_some_iff.mp h).1
  have := M.n0
  omega
theorem Mach.push (M : Mach n m t e s) (c : Cell) : Mach n m t e (s ++ [c]) := M.mono fun i hi => List.getElem?_append_left (by have := M.big; omega)
theorem Mach.set (M : Mach n m t e s) {l : Nat} (hl : n + 2 ≤ l) (c : Cell) : Mach n m t e (s.set l c) := M.mono fun i hi => List.getElem?_set_ne (by omega)
theorem ix_ref {l i : Nat} {xs : List D} {d : D} (h : s[l]? = some (.lst xs)) (hx : xs[i]? = some d) : ixD (.ref l) (.int (i : Nat)) s = .ok d s := by
  have hl := (List.getElem?_eq_some_iff.mp hx).1
  show (match rdS s (.ref l) with | some xs => (match atI xs (i : Int) with | some d => (R.ok d s : R D) | none => .bad) | none => .bad) = _
  simp only [rdS, h]
  rw [atI_nat _ _ hl, hx]
theorem len_ref {l : Nat} {xs : List D} (h : s[l]? = some (.lst xs)) : lenD [.ref l] s = .ok (.int xs.length) s := by
  show (match rdS s (.ref l) with | some xs => (R.ok (D.int xs.length) s : R D) | none => .bad) = _
  simp only [rdS, h]
theorem rng_get {α : Type} {n i : Nat} (f : Nat → α) (h : i < n) : ((List.range n).map f)[i]? = some (f i) := by
  rw [List.getElem?_map, List.getElem?_range h]; rfl
theorem Mach.ix_st (M : Mach n m t e s) {r : Nat} (h : r < n) : ixD (.ref 0) (.int (r : Nat)) s = .ok (.ref (r + 2)) s := ix_ref M.st (rng_get _ h)
theorem Mach.ix_en (M : Mach n m t e s) {r : Nat} (h : r < n) : ixD (.ref 1) (.int (r : Nat)) s = .ok (.bl (e r)) s := ix_ref M.en (rng_get _ h)
theorem Mach.ix_row (M : Mach n m t e s) {r k : Nat} (h : r < n) (hk : k < m) : ixD (.ref (r + 2)) (.int (k : Nat)) s = .ok (.int ((t r k : Nat) : Int)) s := ix_ref (M.row r h) (rng_get _ hk)
theorem Mach.len_st (M : Mach n m t e s) : lenD [.ref 0] s = .ok (.int n) s := by rw [len_ref M.st, List.length_map, List.length_range]
theorem Mach.len_en (M : Mach n m t e s) : lenD [.ref 1] s = .ok (.int n) s := by rw [len_ref M.en, List.length_map, List.length_range]
end
theorem MD0 (s : Store) : ixD MD (.int 0) s = .ok (.ref 0) s := ixD_t0
theorem MD1 (s : Store) : ixD MD (.int 1) s = .ok (.ref 1) s := ixD_t1
theorem eqD_bl (neg : Bool) (a b : Bool) (s : Store) : eqD neg (.bl a) (.bl b) s = .ok (.bl (if neg then !decide (a = b) else decide (a = b))) s := by
  unfold eqD
  rw [res_bl, res_bl]
  simp only [layD, depD, eqv, pyOf, PyData.eqv]
  cases a <;> cases b <;> simp
end G
/-! K6A: what a room is, what a text is; room_of -/
namespace G
open PySem PySem.Spec PyProof.Rows L2 DE M6
/-- a room of a machine of n -/
def roomOk (n : Nat) : D → Prop
  | .int i => 0 ≤ i ∧ i < n
  | _ => False
theorem ev_need_room {n m : Nat} {t : Nat → Nat → Nat} {e : Nat → Bool} {s : Store} (M : Mach n m t e s) (k : Nat) (d : D) (hd : pl d = true) :
    (roomOk n d → fns (k + 1) i_need_room [MD, d] s = .ok .non s) ∧ (¬ roomOk n d → fns (k + 1) i_need_room [MD, d] s = .exc 5 s) := by
  rw [e_need_room]
  have h0 := MD0 s
  have h1 := M.len_st
  have no : ∀ d : D, (∀ i, d ≠ .int i) → roomOk n d → False := fun d h => by
    cases d <;> first | exact fun q => q | exact absurd rfl (h _)
  generalize MD = Z at h0 ⊢
  cases d with
  | int i =>
    simp only [roomOk]
    by_cases a : 0 ≤ i
    · by_cases b : i < n
      · simp [m_need_room, bodyF, env0, sSeq, sSet, sIf, sRet, sRetN, sExpr, sPass, sRaise, sBad, eVar, eC, eTup, eLst, aCons, aNil, eCall, ar, DE.e2, eAnd, eOr, eNot, eIf, eNeg, tVal, tAndM, tOrM, tNotM, tYesM, eChain, isiD, tyOf, isTy, eM1, oNone, oSome, eCut, R.bind_ok, R.bind_exc, R.bindS_ok, R.bindS_exc, RS.bind_next, RS.bind_ret, RS.bind_exc, LINE, ofS_inj, ofS_ok, eqD_int, eqD_ss, inD3_ss, inD2_ss, h0, h1, ltD, leD, cmpI, a, b]
      · simp [m_need_room, bodyF, env0, sSeq, sSet, sIf, sRet, sRetN, sExpr, sPass, sRaise, sBad, eVar, eC, eTup, eLst, aCons, aNil, eCall, ar, DE.e2, eAnd, eOr, eNot, eIf, eNeg, tVal, tAndM, tOrM, tNotM, tYesM, eChain, isiD, tyOf, isTy, eM1, oNone, oSome, eCut, R.bind_ok, R.bind_exc, R.bindS_ok, R.bindS_exc, RS.bind_next, RS.bind_ret, RS.bind_exc, LINE, ofS_inj, ofS_ok, eqD_int, eqD_ss, inD3_ss, inD2_ss, h0, h1, ltD, leD, cmpI, a, b]
    · simp [m_need_room, bodyF, env0, sSeq, sSet, sIf, sRet, sRetN, sExpr, sPass, sRaise, sBad, eVar, eC, eTup, eLst, aCons, aNil, eCall, ar, DE.e2, eAnd, eOr, eNot, eIf, eNeg, tVal, tAndM, tOrM, tNotM, tYesM, eChain, isiD, tyOf, isTy, eM1, oNone, oSome, eCut, R.bind_ok, R.bind_exc, R.bindS_ok, R.bindS_exc, RS.bind_next, RS.bind_ret, RS.bind_exc, LINE, ofS_inj, ofS_ok, eqD_int, eqD_ss, inD3_ss, inD2_ss, h0, h1, ltD, leD, cmpI, a]
  | ref l => simp [pl] at hd
  | scr l => simp [pl] at hd
  | exc c l => simp [pl] at hd
  | obj c l => simp [pl] at hd
  | _ => simp [m_need_room, bodyF, env0, sSeq, sSet, sIf, sRet, sRetN, sExpr, sPass, sRaise, sBad, eVar, eC, eTup, eLst, aCons, aNil, eCall, ar, DE.e2, eAnd, eOr, eNot, eIf, eNeg, tVal, tAndM, tOrM, tNotM, tYesM, eChain, isiD, tyOf, isTy, eM1, oNone, oSome, eCut, R.bind_ok, R.bind_exc, R.bindS_ok, R.bindS_exc, RS.bind_next, RS.bind_ret, RS.bind_exc, LINE, ofS_inj, ofS_ok, eqD_int, eqD_ss, inD3_ss, inD2_ss, roomOk]
def isSg (l : Str) : D → Bool
  | .str z => decide (z.length = 1) && decide (∃ c ∈ z.cps.toList, c ∈ l.cps.toList)
  | _ => false
theorem ev_is_sign {l : Str} (k : Nat) (c : Nat) (s : Store) : fns (k + 1) i_is_sign [.str l, .str ⟨#[c]⟩] s = .ok (.bl (decide (c ∈ l.cps.toList))) s := by
  rw [e_is_sign]
  have h : lenD [.str ⟨#[c]⟩] s = .ok (.int 1) s := lenD_str (z := ⟨#[c]⟩) (by rw [sg_len]; decide)
  by_cases q : c ∈ l.cps
  · simp [m_is_sign, bodyF, env0, sSeq, sSet, sIf, sRet, sRetN, sExpr, sPass, sRaise, sBad, eVar, eC, eTup, eLst, aCons, aNil, eCall, ar, DE.e2, eAnd, eOr, eNot, eIf, eNeg, tVal, tAndM, tOrM, tNotM, tYesM, eChain, isiD, tyOf, isTy, eM1, oNone, oSome, eCut, R.bind_ok, R.bind_exc, R.bindS_ok, R.bindS_exc, RS.bind_next, RS.bind_ret, RS.bind_exc, LINE, ofS_inj, ofS_ok, eqD_int, eqD_ss, inD3_ss, inD2_ss, h, inD, q]
  · simp [m_is_sign, bodyF, env0, sSeq, sSet, sIf, sRet, sRetN, sExpr, sPass, sRaise, sBad, eVar, eC, eTup, eLst, aCons, aNil, eCall, ar, DE.e2, eAnd, eOr, eNot, eIf, eNeg, tVal, tAndM, tOrM, tNotM, tYesM, eChain, isiD, tyOf, isTy, eM1, oNone, oSome, eCut, R.bind_ok, R.bind_exc, R.bindS_ok, R.bindS_exc, RS.bind_next, RS.bind_ret, RS.bind_exc, LINE, ofS_inj, ofS_ok, eqD_int, eqD_ss, inD3_ss, inD2_ss, h, inD, q]
/-- a text over the letters, not too long -/
def textOk (l : Str) : D → Prop
  | .str z => z.length ≤ 200 ∧ ∀ c ∈ z.cps.toList, c ∈ l.cps.toList
  | _ => False
theorem ev_need_text (l : Str) (k : Nat) (d : D) (s : Store) (hd : pl d = true) :
    (textOk l d → fns (k + 2) i_need_text [.str l, d] s = .ok .non s) ∧ (¬ textOk l d → fns (k + 2) i_need_text [.str l, d] s = .exc 4 s) := by
  rw [e_need_text]
  cases d with
  | str z =>
    simp only [pl, Bool.and_eq_true, decide_eq_true_eq] at hd
    have hlen : lenD [.str z] s = .ok (.int z.length) s := lenD_str hd.2
    by_cases hz : z.length ≤ 200
    · have hl : z.cps.toList.length ≤ 1000 := hd.2
      have e := eLc_all (t := .one 2) (vs := [2]) (em := eCall (ar 2 (fns (k + 1) i_is_sign)) (aCons (eVar 0) (aCons (eVar 2) aNil))) (im := itV' (eVar 1)) (env := [some (.str l), some (.str z), none]) (s := s)
        (fun c => .str ⟨#[c]⟩) (fun c => .bl (decide (c ∈ l.cps.toList))) z.cps.toList (by simp [itV', bodyF, env0, sSeq, sSet, sIf, sRet, sRetN, sExpr, sPass, sRaise, sBad, eVar, eC, eTup, eLst, aCons, aNil, eCall, ar, DE.e2, eAnd, eOr, eNot, eIf, eNeg, tVal, tAndM, tOrM, tNotM, tYesM, eChain, isiD, tyOf, isTy, eM1, oNone, oSome, eCut, R.bind_ok, R.bind_exc, R.bindS_ok, R.bindS_exc, RS.bind_next, RS.bind_ret, RS.bind_exc, LINE, ofS_inj, ofS_ok, eqD_int, eqD_ss, inD3_ss, inD2_ss, DE.signs]) hl (fun c hc => by
          refine ⟨_, rfl, ?_⟩
          have := ev_is_sign (l := l) k c s
          simp [bodyF, env0, sSeq, sSet, sIf, sRet, sRetN, sExpr, sPass, sRaise, sBad, eVar, eC, eTup, eLst, aCons, aNil, eCall, ar, DE.e2, eAnd, eOr, eNot, eIf, eNeg, tVal, tAndM, tOrM, tNotM, tYesM, eChain, isiD, tyOf, isTy, eM1, oNone, oSome, eCut, R.bind_ok, R.bind_exc, R.bindS_ok, R.bindS_exc, RS.bind_next, RS.bind_ret, RS.bind_exc, LINE, ofS_inj, ofS_ok, eqD_int, eqD_ss, inD3_ss, inD2_ss, wipeE, this])
      have hz' : ¬ (200 : Int) < z.length := by omega
      have ha := allD_map (fun c => decide (c ∈ l.cps.toList)) z.cps.toList s
      by_cases q : ∀ c ∈ z.cps.toList, c ∈ l.cps.toList
      · have q2 : z.cps.toList.all (fun c => decide (c ∈ l.cps.toList)) = true := by rw [List.all_eq_true]; simpa using q
        rw [q2] at ha
        refine ⟨fun _ => ?_, fun h => absurd ⟨hz, q⟩ h⟩
        generalize List.map (fun c => D.bl (decide (c ∈ l.cps.toList))) z.cps.toList = ys at e ha
        simp [m_need_text, bodyF, env0, sSeq, sSet, sIf, sRet, sRetN, sExpr, sPass, sRaise, sBad, eVar, eC, eTup, eLst, aCons, aNil, eCall, ar, DE.e2, eAnd, eOr, eNot, eIf, eNeg, tVal, tAndM, tOrM, tNotM, tYesM, eChain, isiD, tyOf, isTy, eM1, oNone, oSome, eCut, R.bind_ok, R.bind_exc, R.bindS_ok, R.bindS_exc, RS.bind_next, RS.bind_ret, RS.bind_exc, LINE, ofS_inj, ofS_ok, eqD_int, eqD_ss, inD3_ss, inD2_ss, hlen, gtD, cmpI, hz', e, ha]
      · have q2 : z.cps.toList.all (fun c => decide (c ∈ l.cps.toList)) = false := by
          rw [Bool.eq_false_iff]
          intro h
          rw [List.all_eq_true] at h
          exact q (by simpa using h)
        rw [q2] at ha
        refine ⟨fun h => absurd h.2 q, fun _ => ?_⟩
        generalize List.map (fun c => D.bl (decide (c ∈ l.cps.toList))) z.cps.toList = ys at e ha
        simp [m_need_text, bodyF, env0, sSeq, sSet, sIf, sRet, sRetN, sExpr, sPass, sRaise, sBad, eVar, eC, eTup, eLst, aCons, aNil, eCall, ar, DE.e2, eAnd, eOr, eNot, eIf, eNeg, tVal, tAndM, tOrM, tNotM, tYesM, eChain, isiD, tyOf, isTy, eM1, oNone, oSome, eCut, R.bind_ok, R.bind_exc, R.bindS_ok, R.bindS_exc, RS.bind_next, RS.bind_ret, RS.bind_exc, LINE, ofS_inj, ofS_ok, eqD_int, eqD_ss, inD3_ss, inD2_ss, hlen, gtD, cmpI, hz', e, ha]
    · have hz' : (200 : Int) < z.length := by omega
      refine ⟨fun h => absurd h.1 hz, fun _ => ?_⟩
      simp [m_need_text, bodyF, env0, sSeq, sSet, sIf, sRet, sRetN, sExpr, sPass, sRaise, sBad, eVar, eC, eTup, eLst, aCons, aNil, eCall, ar, DE.e2, eAnd, eOr, eNot, eIf, eNeg, tVal, tAndM, tOrM, tNotM, tYesM, eChain, isiD, tyOf, isTy, eM1, oNone, oSome, eCut, R.bind_ok, R.bind_exc, R.bindS_ok, R.bindS_exc, RS.bind_next, RS.bind_ret, RS.bind_exc, LINE, ofS_inj, ofS_ok, eqD_int, eqD_ss, inD3_ss, inD2_ss, hlen, gtD, cmpI, hz']
  | ref l => simp [pl] at hd
  | scr l => simp [pl] at hd
  | exc c l => simp [pl] at hd
  | obj c l => simp [pl] at hd
  | _ => simp [m_need_text, bodyF, env0, sSeq, sSet, sIf, sRet, sRetN, sExpr, sPass, sRaise, sBad, eVar, eC, eTup, eLst, aCons, aNil, eCall, ar, DE.e2, eAnd, eOr, eNot, eIf, eNeg, tVal, tAndM, tOrM, tNotM, tYesM, eChain, isiD, tyOf, isTy, eM1, oNone, oSome, eCut, R.bind_ok, R.bind_exc, R.bindS_ok, R.bindS_exc, RS.bind_next, RS.bind_ret, RS.bind_exc, LINE, ofS_inj, ofS_ok, eqD_int, eqD_ss, inD3_ss, inD2_ss, textOk]
theorem txt_ok {l : Str} {w : List Nat} (hw : Dg l.length w) (hl : w.length ≤ 200) : textOk l (.str (txt l w)) := by
  refine ⟨by rw [txt_len]; exact hl, fun c hc => ?_⟩
  simp only [txt] at hc
  obtain ⟨k, hk, rfl⟩ := List.mem_map.mp hc
  exact lc_mem (hw k hk)
theorem txt_sok {l : Str} (hL : LetF l) {w : List Nat} (hw : Dg l.length w) : strOk' (txt l w) = true := by
  have h := hL.sok
  unfold strOk' at h ⊢
  rw [← Array.all_toList, List.all_eq_true] at h ⊢
  intro c hc
  simp only [txt] at hc
  obtain ⟨k, hk, rfl⟩ := List.mem_map.mp hc
  exact h _ (lc_mem (hw k hk))
theorem txt_pl {l : Str} (hL : LetF l) {w : List Nat} (hw : Dg l.length w) (hl : w.length ≤ 1000) : pl (.str (txt l w)) = true := by
  simp only [pl, Bool.and_eq_true, decide_eq_true_eq]
  exact ⟨txt_sok hL hw, by rw [txt_len]; exact hl⟩
/-- the loop over a word's text -/
theorem run_word {n : Nat} {l : Str} {t : Nat → Nat → Nat} {e : Nat → Bool} {s : Store} {g : GM} {body : DE.SM} (I : Nat → DE.Env → Prop) (M : Mach n l.length t e s)
    (hh : ∀ a k env, a < n → k < l.length → I a env → ∃ env1 env2, g (.str ⟨#[lc l k]⟩) env s = .ok env1 s ∧ body env1 s = .next env2 s ∧ I (t a k) env2) : ∀ (w : List Nat) (a : Nat) (env : DE.Env), a < n → Dg l.length w → I a env →
    ∃ env2, forD g body (DE.signs (txt l w), none) (DE.signs (txt l w)) env s = .next env2 s ∧ I (go t a w) env2 := by
  have key : ∀ (z : List D × Option (Store → Prop)), z.2 = none → ∀ (w : List Nat) (a : Nat) (env : DE.Env), a < n → Dg l.length w → I a env → ∃ env2, forD g body z (w.map fun k => .str ⟨#[lc l k]⟩) env s = .next env2 s ∧ I (go t a w) env2 := by
    intro z hz
    have ok : okG z s := fun G h => by rw [hz] at h; cases h
    intro w
    induction w with
    | nil => intro a env _ _ hi; exact ⟨env, by show forD g body z [] env s = _; unfold forD; rw [if_pos ok], hi⟩
    | cons k w ih =>
      intro a env ha hw hi
      obtain ⟨env1, env2, e1, e2, h2⟩ := hh a k env ha hw.head hi
      obtain ⟨env3, e3, h3⟩ := ih (t a k) env2 (M.ht a k ha hw.head) hw.tail h2
      refine ⟨env3, ?_, h3⟩
      show forD g body z (.str ⟨#[lc l k]⟩ :: w.map fun k => .str ⟨#[lc l k]⟩) env s = _
      unfold forD
      rw [if_pos ok, e1]
      simp only [R.bindS_ok, e2, loopB_next]
      exact e3
  intro w a env ha hw hi
  obtain ⟨env2, e2, h2⟩ := key (DE.signs (txt l w), none) rfl w a env ha hw hi
  refine ⟨env2, ?_, h2⟩
  conv => lhs; arg 4; rw [txt_signs]
  exact e2
theorem room_int {n a : Nat} (h : a < n) : roomOk n (.int (a : Nat)) := ⟨by omega, by omega⟩
theorem pl_int (i : Int) : pl (.int i) = true := by simp [pl]
theorem ev_room_of {n : Nat} {l : Str} {t : Nat → Nat → Nat} {e : Nat → Bool} {s : Store} (M : Mach n l.length t e s) (hL : LetF l) (k : Nat) {a : Nat} {w : List Nat} (ha : a < n) (hw : Dg l.length w) (hl : w.length ≤ 200) :
    fns (k + 3) i_room_of [.str l, MD, .int (a : Nat), .str (txt l w)] s = .ok (.int (go t a w : Nat)) s := by
  rw [e_room_of]
  have q1 : fns (k + 2) i_need_letters [.str l] s = .ok .non s := by rw [ev_need_l k _ s hL.pl, hL.ok]; rfl
  have q2 : fns (k + 2) i_need_room [MD, .int (a : Nat)] s = .ok .non s := (ev_need_room M (k + 1) _ (pl_int _)).1 (room_int ha)
  have q3 : fns (k + 2) i_need_text [.str l, .str (txt l w)] s = .ok .non s := (ev_need_text l k _ s (txt_pl hL hw (by omega))).1 (txt_ok hw hl)
  have h0 := MD0 s
  obtain ⟨env2, e2, x, rfl⟩ := run_word (l := l) (g := gVar 4) (body := sSet 2 (DE.e2 ixD (DE.e2 ixD (DE.e2 ixD (eVar 1) (eC (.int 0))) (eVar 2)) (eM1 sindexD (eVar 0) (eVar 4))))
    (fun r env => ∃ x, env = [some (.str l), some MD, some (.int (r : Nat)), some (.str (txt l w)), x]) M (fun r k env hr hk ⟨x, he⟩ => by
      subst he
      have h1 := M.ix_st hr
      have h2 := M.ix_row hr hk
      have h3 := let_index hL s hk
      refine ⟨_, [some (.str l), some MD, some (.int (t r k : Nat)), some (.str (txt l w)), some (.str ⟨#[lc l k]⟩)], rfl, ?_, _, rfl⟩
      simp [bodyF, env0, sSeq, sSet, sIf, sRet, sRetN, sExpr, sPass, sRaise, sBad, eVar, eC, eTup, eLst, aCons, aNil, eCall, ar, DE.e2, eAnd, eOr, eNot, eIf, eNeg, tVal, tAndM, tOrM, tNotM, tYesM, eChain, isiD, tyOf, isTy, eM1, oNone, oSome, eCut, R.bind_ok, R.bind_exc, R.bindS_ok, R.bindS_exc, RS.bind_next, RS.bind_ret, RS.bind_exc, LINE, ofS_inj, ofS_ok, eqD_int, eqD_ss, inD3_ss, inD2_ss, h0, h1, h2, h3]) w a [some (.str l), some MD, some (.int (a : Nat)), some (.str (txt l w)), none] ha hw ⟨_, rfl⟩
  generalize hZ : sFor (itV' (eVar 3)) (gVar 4) (sSet 2 (DE.e2 ixD (DE.e2 ixD (DE.e2 ixD (eVar 1) (eC (.int 0))) (eVar 2)) (eM1 sindexD (eVar 0) (eVar 4)))) = Z
  have hz : Z [some (.str l), some MD, some (.int (a : Nat)), some (.str (txt l w)), none] s = .next [some (.str l), some MD, some (.int (go t a w : Nat)), some (.str (txt l w)), x] s := by
    rw [← hZ]
    unfold sFor
    have : itV' (eVar 3) [some (.str l), some MD, some (.int (a : Nat)), some (.str (txt l w)), none] s = .ok (DE.signs (txt l w), none) s := by simp [itV', bodyF, env0, sSeq, sSet, sIf, sRet, sRetN, sExpr, sPass, sRaise, sBad, eVar, eC, eTup, eLst, aCons, aNil, eCall, ar, DE.e2, eAnd, eOr, eNot, eIf, eNeg, tVal, tAndM, tOrM, tNotM, tYesM, eChain, isiD, tyOf, isTy, eM1, oNone, oSome, eCut, R.bind_ok, R.bind_exc, R.bindS_ok, R.bindS_exc, RS.bind_next, RS.bind_ret, RS.bind_exc, LINE, ofS_inj, ofS_ok, eqD_int, eqD_ss, inD3_ss, inD2_ss]
    rw [this]
    exact e2
  simp only [m_room_of, hZ]
  generalize fns (k + 2) = call at *
  generalize MD = MM at *
  generalize txt l w = T at *
  simp [bodyF, env0, sSeq, sSet, sIf, sRet, sRetN, sExpr, sPass, sRaise, sBad, eVar, eC, eTup, eLst, aCons, aNil, eCall, ar, DE.e2, eAnd, eOr, eNot, eIf, eNeg, tVal, tAndM, tOrM, tNotM, tYesM, eChain, isiD, tyOf, isTy, eM1, oNone, oSome, eCut, R.bind_ok, R.bind_exc, R.bindS_ok, R.bindS_exc, RS.bind_next, RS.bind_ret, RS.bind_exc, LINE, ofS_inj, ofS_ok, eqD_int, eqD_ss, inD3_ss, inD2_ss, q1, q2, q3, hz]
/-- letters that are none: ahead of all -/
theorem room_of_l {k : Nat} {lD md r x : D} {s : Store} (hl : pl lD = true) (hb : letOk lD = false) : fns (k + 3) i_room_of [lD, md, r, x] s = .exc 1 s := by
  rw [e_room_of]
  have q1 : fns (k + 2) i_need_letters [lD] s = .exc 1 s := by rw [ev_need_l k _ s hl, hb]; rfl
  generalize fns (k + 2) = call at *
  simp [m_room_of, bodyF, env0, sSeq, sSet, sIf, sRet, sRetN, sExpr, sPass, sRaise, sBad, eVar, eC, eTup, eLst, aCons, aNil, eCall, ar, DE.e2, eAnd, eOr, eNot, eIf, eNeg, tVal, tAndM, tOrM, tNotM, tYesM, eChain, isiD, tyOf, isTy, eM1, oNone, oSome, eCut, R.bind_ok, R.bind_exc, R.bindS_ok, R.bindS_exc, RS.bind_next, RS.bind_ret, RS.bind_exc, LINE, ofS_inj, ofS_ok, eqD_int, eqD_ss, inD3_ss, inD2_ss, q1]
theorem room_of_r {n m : Nat} {l : Str} {t : Nat → Nat → Nat} {e : Nat → Bool} {s : Store} (M : Mach n m t e s) (hL : LetF l) (k : Nat) {r x : D} (hr : pl r = true) (hn : ¬ roomOk n r) : fns (k + 3) i_room_of [.str l, MD, r, x] s = .exc 5 s := by
  rw [e_room_of]
  have q1 : fns (k + 2) i_need_letters [.str l] s = .ok .non s := by rw [ev_need_l k _ s hL.pl, hL.ok]; rfl
  have q2 : fns (k + 2) i_need_room [MD, r] s = .exc 5 s := (ev_need_room M (k + 1) _ hr).2 hn
  generalize fns (k + 2) = call at *
  generalize MD = MM at *
  simp [m_room_of, bodyF, env0, sSeq, sSet, sIf, sRet, sRetN, sExpr, sPass, sRaise, sBad, eVar, eC, eTup, eLst, aCons, aNil, eCall, ar, DE.e2, eAnd, eOr, eNot, eIf, eNeg, tVal, tAndM, tOrM, tNotM, tYesM, eChain, isiD, tyOf, isTy, eM1, oNone, oSome, eCut, R.bind_ok, R.bind_exc, R.bindS_ok, R.bindS_exc, RS.bind_next, RS.bind_ret, RS.bind_exc, LINE, ofS_inj, ofS_ok, eqD_int, eqD_ss, inD3_ss, inD2_ss, q1, q2]
theorem room_of_t {n m : Nat} {l : Str} {t : Nat → Nat → Nat} {e : Nat → Bool} {s : Store} (M : Mach n m t e s) (hL : LetF l) (k : Nat) {r x : D} (hr : pl r = true) (hn : roomOk n r) (hx : pl x = true) (ht : ¬ textOk l x) : fns (k + 3) i_room_of [.str l, MD, r, x] s = .exc 4 s := by
  rw [e_room_of]
  have q1 : fns (k + 2) i_need_letters [.str l] s = .ok .non s := by rw [ev_need_l k _ s hL.pl, hL.ok]; rfl
  have q2 : fns (k + 2) i_need_room [MD, r] s = .ok .non s := (ev_need_room M (k + 1) _ hr).1 hn
  have q3 : fns (k + 2) i_need_text [.str l, x] s = .exc 4 s := (ev_need_text l k _ s hx).2 ht
  generalize fns (k + 2) = call at *
  generalize MD = MM at *
  simp [m_room_of, bodyF, env0, sSeq, sSet, sIf, sRet, sRetN, sExpr, sPass, sRaise, sBad, eVar, eC, eTup, eLst, aCons, aNil, eCall, ar, DE.e2, eAnd, eOr, eNot, eIf, eNeg, tVal, tAndM, tOrM, tNotM, tYesM, eChain, isiD, tyOf, isTy, eM1, oNone, oSome, eCut, R.bind_ok, R.bind_exc, R.bindS_ok, R.bindS_exc, RS.bind_next, RS.bind_ret, RS.bind_exc, LINE, ofS_inj, ofS_ok, eqD_int, eqD_ss, inD3_ss, inD2_ss, q1, q2, q3]
end G
/-! K6B: dicts with pairs of rooms for keys; how far pairs of rooms are from being parted -/
namespace G
open PySem PySem.Spec PyProof.Rows L2 DE M6
def kk (a b : Nat) : List Key := [.inl (a : Int), .inl (b : Int)]
theorem kk_inj {a b c d : Nat} : kk a b = kk c d ↔ a = c ∧ b = d := by
  unfold kk
  simp
  omega
def pD (a b : Nat) : D := .tup [.int (a : Nat), .int (b : Nat)]
theorem pD_key (a b : Nat) : tupKey (pD a b) = some (kk a b) := rfl
theorem getT_no : ∀ {ks : List (List Key)} {xs : List D} {k : List Key}, k ∉ ks → getT ks xs k = none
  | [], xs, k, _ => by cases xs <;> rfl
  | g :: ks, [], k, _ => rfl
  | g :: ks, x :: xs, k, h => by
    unfold getT
    rw [if_neg (fun q => h (by rw [q]; exact List.mem_cons_self))]
    exact getT_no fun q => h (List.mem_cons_of_mem _ q)
theorem getT_yes : ∀ {ks : List (List Key)} {xs : List D} {k : List Key}, ks.length = xs.length → k ∈ ks → ∃ d, getT ks xs k = some d
  | [], _, _, _, h => by cases h
  | g :: ks, [], k, hl, _ => by cases hl
  | g :: ks, x :: xs, k, hl, h => by
    unfold getT
    by_cases q : g = k
    · exact ⟨x, by rw [if_pos q]⟩
    · rw [if_neg q]
      rcases List.mem_cons.mp h with h | h
      · exact absurd h.symm q
      · exact getT_yes (by simpa using hl) h
theorem putT_new : ∀ {ks : List (List Key)} {xs : List D} {k : List Key} {d : D}, ks.length = xs.length → k ∉ ks → putT ks xs k d = (ks ++ [k], xs ++ [d])
  | [], [], _, _, _, _ => rfl
  | [], _ :: _, _, _, hl, _ => by cases hl
  | _ :: _, [], _, _, hl, _ => by cases hl
  | g :: ks, x :: xs, k, d, hl, h => by
    unfold putT
    rw [if_neg (fun q => h (by rw [q]; exact List.mem_cons_self)), putT_new (by simpa using hl) fun q => h (List.mem_cons_of_mem _ q)]
    rfl
theorem getT_app : ∀ {ks : List (List Key)} {xs : List D} {k q : List Key} {d : D}, ks.length = xs.length → getT (ks ++ [k]) (xs ++ [d]) q = (getT ks xs q).or (if k = q then some d else none)
  | [], [], k, q, d, _ => by
    show (if k = q then some d else getT [] [] q) = _
    rfl
  | [], _ :: _, _, _, _, hl => by cases hl
  | _ :: _, [], _, _, _, hl => by cases hl
  | g :: ks, x :: xs, k, q, d, hl => by
    show (if g = q then some x else getT (ks ++ [k]) (xs ++ [d]) q) = Option.or (if g = q then some x else getT ks xs q) _
    by_cases e : g = q
    · rw [if_pos e, if_pos e]; rfl
    · rw [if_neg e, if_neg e]; exact getT_app (by simpa using hl)
/-! ### how they evaluate -/
theorem dT_at {s : Store} {l : Nat} {ks : List (List Key)} {xs : List D} (h : s[l]? = some (.dT ks xs)) : dT? s (.ref l) = some (l, ks, xs) := by
  show (match s[l]? with | some (.dT ks xs) => some (l, ks, xs) | _ => none) = _
  rw [h]
theorem inT_ev (neg : Bool) {s : Store} {l : Nat} {ks : List (List Key)} {xs : List D} {y : D} {k : List Key} (h : s[l]? = some (.dT ks xs)) (hk : tupKey y = some k) :
    inTD neg y (.ref l) s = .ok (.bl (if neg then !(getT ks xs k).isSome else (getT ks xs k).isSome)) s := by
  unfold inTD
  rw [dT_at h, hk]
theorem lenT_ev {s : Store} {l : Nat} {ks : List (List Key)} {xs : List D} (h : s[l]? = some (.dT ks xs)) : lenTD [.ref l] s = .ok (.int ks.length) s := by
  unfold lenTD
  simp only [dT_at h]
theorem dget_ev {s : Store} {l : Nat} {ks : List (List Key)} {xs : List D} {y d : D} {k : List Key} (h : s[l]? = some (.dT ks xs)) (hk : tupKey y = some k) (hd : getT ks xs k = some d) : dgetT (.ref l) y s = .ok d s := by
  unfold dgetT
  simp only [dT_at h, hk, hd]
theorem get2_ev {s : Store} {l : Nat} {ks : List (List Key)} {xs : List D} {y z : D} {k : List Key} {env : DE.Env} {mo mk mz : EM} (h : s[l]? = some (.dT ks xs)) (ho : mo env s = .ok (.ref l) s) (hy : mk env s = .ok y s) (hz : mz env s = .ok z s) (hk : tupKey y = some k) :
    eGet2 mo mk mz env s = .ok ((getT ks xs k).getD z) s := by
  unfold eGet2
  rw [ho]
  simp only [R.bind_ok, dT_at h, hy, hz, hk]
theorem put_ev {s : Store} {l : Nat} {ks : List (List Key)} {xs : List D} {y d : D} {k : List Key} {env : DE.Env} {mo mi : EM} (h : s[l]? = some (.dT ks xs)) (ho : mo env s = .ok (.ref l) s) (hy : mi env s = .ok y s) (hk : tupKey y = some k) (hn : ks.Nodup) (hl : ks.length < 1000000) (hx : ks.length = xs.length) (hq : k ∉ ks) :
    gPutT mo mi d env s = .ok env (s.set l (.dT (ks ++ [k]) (xs ++ [d]))) := by
  unfold gPutT
  rw [ho]
  simp only [R.bind_ok, hy, dT_at h, hk]
  rw [if_pos ⟨hn, hl⟩, putT_new hx hq]
theorem last_at {α : Type} (s : List α) (c : α) : (s ++ [c])[s.length]? = some c := by simp
theorem set_last {α : Type} (s : List α) (c d : α) : (s ++ [c]).set s.length d = s ++ [d] := by simp
theorem eLc_g {α : Type} {t : Tgt} {vs : List Nat} {em : EM} {im : IM} {env : DE.Env} {s : Store} (m : α → D) (f : α → D) (ys : List α) (G : Option (Store → Prop)) (hi : im env s = .ok (ys.map m, G) s) (hG : okG (ys.map m, G) s) (hl : ys.length ≤ 1000)
    (h : ∀ y ∈ ys, ∃ env1, setT t (m y) (wipeE env vs) = some env1 ∧ em env1 s = .ok (f y) s) : eLc im t vs tYesM em env s = .ok (.lst (ys.map f)) s := by
  unfold eLc
  rw [hi]
  simp only [R.bind_ok]
  rw [lcD_by (tt := tYesM) hG m (fun _ => true) f ys fun y hy => by
    obtain ⟨env1, e1, e2⟩ := h y hy
    exact ⟨env1, e1, rfl, fun _ => e2⟩, filter_yes, finL_ok (by rw [List.length_map]; exact hl)]
theorem ints_sub (f : Nat → Option D) : ∀ ws : List Int, subs f (ws.map D.int) = some (ws.map D.int)
  | [] => by simp [subs]
  | w :: ws => by simp only [List.map_cons, subs, sub]; rw [ints_sub f ws]
theorem ints_lay : ∀ ws : List Int, layDs (ws.map D.int) = true
  | [] => by simp [layDs]
  | w :: ws => by simp only [List.map_cons, layDs, layD, Bool.and_eq_true]; exact ⟨trivial, ints_lay ws⟩
theorem ints_any (a : Int) : ∀ ws : List Int, (ws.map D.int).any (fun y => eqv y (.int a)) = decide (a ∈ ws)
  | [] => by simp
  | w :: ws => by
    have ih := ints_any a ws
    rw [List.map_cons, List.any_cons, ih]
    simp only [eqv, pyOf, PyData.eqv, List.mem_cons]
    have e : (w == a) = decide (a = w) := by
      by_cases h : a = w
      · rw [h]; simp
      · have : ¬ w = a := fun q => h q.symm
        simp [h, this]
    rw [e]
    simp
theorem inD_ints (neg : Bool) (a : Int) (ws : List Int) (s : Store) : inD neg (.int a) (.lst (ws.map D.int)) s = .ok (.bl (if neg then !decide (a ∈ ws) else decide (a ∈ ws))) s := by
  have e2 : res s (.lst (ws.map D.int)) = some (.lst (ws.map D.int)) := by
    show sub _ _ = _
    simp only [sub]
    rw [ints_sub]
    rfl
  have e3 : inD neg (.int a) (.lst (ws.map D.int)) s = (match res s (.int a), res s (.lst (ws.map D.int)) with
    | some a, some (.tup ys) => if layD a = true ∧ layDs ys = true ∧ depD a ≤ 190 then .ok (.bl (if neg then !ys.any (fun y => eqv y a) else ys.any (fun y => eqv y a))) s else .bad
    | some a, some (.lst ys) => if layD a = true ∧ layDs ys = true ∧ depD a ≤ 190 then .ok (.bl (if neg then !ys.any (fun y => eqv y a) else ys.any (fun y => eqv y a))) s else .bad
    | _, _ => .bad) := rfl
  rw [e3, e2, res_int]
  simp only [layD, ints_lay ws, depD, ints_any]
  simp
/-- the zip of two rows of the machine -/
theorem zip_ev {n m : Nat} {t : Nat → Nat → Nat} {e : Nat → Bool} {s : Store} (M : Mach n m t e s) {a b : Nat} (ha : a < n) (hb : b < n) {ms : AM} {env : DE.Env} (h : ms env s = .ok [.ref (a + 2), .ref (b + 2)] s) :
    ∃ G, itZip ms env s = .ok ((List.range m).map (fun k => pD (t a k) (t b k)), G) s ∧ okG ((List.range m).map (fun k => pD (t a k) (t b k)), G) s := by
  refine ⟨some fun s => s[a + 2]? = some (.lst ((List.range m).map fun k => .int ((t a k : Nat) : Int))) ∧ s[b + 2]? = some (.lst ((List.range m).map fun k => .int ((t b k : Nat) : Int))), ?_, ?_⟩
  · unfold itZip
    rw [h]
    simp only [R.bind_ok, M.row a ha, M.row b hb]
    have : pairsD ((List.range m).map fun k => D.int ((t a k : Nat) : Int)) ((List.range m).map fun k => D.int ((t b k : Nat) : Int)) = (List.range m).map (fun k => pD (t a k) (t b k)) := by
      unfold pairsD pD
      rw [List.zipWith_map, List.zipWith_self]
    rw [this]
  · rw [okG_some]
    exact ⟨M.row a ha, M.row b hb⟩
/-! ### the dict of how far -/
structure FS (n : Nat) (t : Nat → Nat → Nat) (e : Nat → Bool) (m T N0 : Nat) (B : Nat → Nat → Prop) (ks : List (List Key)) (xs : List D) : Prop where
  nd : ks.Nodup
  len : ks.length = xs.length
  keys : ∀ k ∈ ks, ∃ a b, a < n ∧ b < n ∧ k = kk a b
  get : ∀ a b, a < n → b < n → (∃ L, IsD t e m L a b ∧ (L < T ∨ (L = T ∧ B a b)) ∧ getT ks xs (kk a b) = some (.int (L : Nat))) ∨ ((∀ L, IsD t e m L a b → ¬ (L < T ∨ (L = T ∧ B a b))) ∧ getT ks xs (kk a b) = none)
  ge : N0 ≤ ks.length
  no : ks.length = N0 → ∀ a b, a < n → b < n → B a b → ¬ IsD t e m T a b
section
variable {n m T N0 : Nat} {t : Nat → Nat → Nat} {e : Nat → Bool} {B : Nat → Nat → Prop} {ks : List (List Key)} {xs : List D}
theorem FS.small (F : FS n t e m T N0 B ks xs) : ks.length ≤ n * n := by
  have h := F.nd.length_le_of_subset (l₂ := (allPr n).map fun p => kk p.1 p.2) fun k hk => by
    obtain ⟨a, b, ha, hb, rfl⟩ := F.keys k hk
    exact List.mem_map.mpr ⟨(a, b), mem_allPr.mpr ⟨ha, hb⟩, rfl⟩
  rw [List.length_map, allPr_len] at h
  exact h
theorem FS.absent (F : FS n t e m T N0 B ks xs) {a b : Nat} (ha : a < n) (hb : b < n) (h : getT ks xs (kk a b) = none) : kk a b ∉ ks := fun q => by
  obtain ⟨d, hd⟩ := getT_yes F.len q
  rw [h] at hd; cases hd
theorem FS.put (F : FS n t e m T N0 B ks xs) {a b : Nat} (ha : a < n) (hb : b < n) (hB : ¬ B a b) (hd : IsD t e m T a b) {B' : Nat → Nat → Prop} (hB' : ∀ x y, B' x y ↔ B x y ∨ (x = a ∧ y = b)) :
    kk a b ∉ ks ∧ FS n t e m T N0 B' (ks ++ [kk a b]) (xs ++ [.int (T : Nat)]) := by
  have hnone : getT ks xs (kk a b) = none := by
    rcases F.get a b ha hb with ⟨L, h1, h2, _⟩ | ⟨_, h⟩
    · obtain rfl := h1.uniq hd
      rcases h2 with h2 | ⟨_, h2⟩
      · omega
      · exact absurd h2 hB
    · exact h
  have hni := F.absent ha hb hnone
  refine ⟨hni, ?_, ?_, ?_, ?_, ?_, ?_⟩
  · rw [List.nodup_append]
    exact ⟨F.nd, by simp, fun x hx y hy => by obtain rfl : y = kk a b := by simpa using hy
                                              rintro rfl; exact hni hx⟩
  · simp [F.len]
  · intro k hk
    rcases List.mem_append.mp hk with hk | hk
    · exact F.keys k hk
    · exact ⟨a, b, ha, hb, by simpa using hk⟩
  · intro x y hx hy
    rw [getT_app F.len]
    by_cases q : x = a ∧ y = b
    · obtain ⟨rfl, rfl⟩ := q
      rw [hnone, if_pos rfl]
      exact .inl ⟨T, hd, .inr ⟨rfl, (hB' _ _).mpr (.inr ⟨rfl, rfl⟩)⟩, rfl⟩
    · rw [if_neg (fun z => q ⟨(kk_inj.mp z).1.symm, (kk_inj.mp z).2.symm⟩), Option.or_none]
      have hb2 : B' x y ↔ B x y := (hB' x y).trans ⟨fun z => z.resolve_right q, .inl⟩
      rw [hb2]
      exact F.get x y hx hy
  · rw [List.length_append]; have := F.ge; omega
  · intro h
    rw [List.length_append] at h
    have := F.ge
    simp only [List.length_cons, List.length_nil] at h
    omega
theorem FS.skip (F : FS n t e m T N0 B ks xs) {a b : Nat} (hd : ¬ IsD t e m T a b) {B' : Nat → Nat → Prop} (hB' : ∀ x y, B' x y ↔ B x y ∨ (x = a ∧ y = b)) : FS n t e m T N0 B' ks xs := by
  refine ⟨F.nd, F.len, F.keys, fun x y hx hy => ?_, F.ge, fun h x y hx hy hb => ?_⟩
  · have hb2 : ∀ L, IsD t e m L x y → ((L < T ∨ (L = T ∧ B' x y)) ↔ (L < T ∨ (L = T ∧ B x y))) := fun L hL => by
      constructor
      · rintro (h | ⟨rfl, h⟩)
        · exact .inl h
        · rcases (hB' x y).mp h with h | ⟨rfl, rfl⟩
          · exact .inr ⟨rfl, h⟩
          · exact absurd hL hd
      · rintro (h | ⟨rfl, h⟩)
        · exact .inl h
        · exact .inr ⟨rfl, (hB' x y).mpr (.inl h)⟩
    rcases F.get x y hx hy with ⟨L, h1, h2, h3⟩ | ⟨h1, h2⟩
    · exact .inl ⟨L, h1, (hb2 L h1).mpr h2, h3⟩
    · exact .inr ⟨fun L hL z => h1 L hL ((hb2 L hL).mp z), h2⟩
  · rcases (hB' x y).mp hb with hb | ⟨rfl, rfl⟩
    · exact F.no h x y hx hy hb
    · exact hd
theorem FS.re (F : FS n t e m T N0 B ks xs) {B' : Nat → Nat → Prop} (h : ∀ x y, x < n → y < n → (B' x y ↔ B x y)) : FS n t e m T N0 B' ks xs := by
  refine ⟨F.nd, F.len, F.keys, fun x y hx hy => ?_, F.ge, fun h2 x y hx hy hb => F.no h2 x y hx hy ((h x y hx hy).mp hb)⟩
  rw [h x y hx hy]
  exact F.get x y hx hy
/-- the turn is over -/
theorem FS.turn (F : FS n t e m T N0 B ks xs) (h : ∀ x y, x < n → y < n → B x y) : FS n t e m (T + 1) ks.length (fun _ _ => False) ks xs := by
  refine ⟨F.nd, F.len, F.keys, fun x y hx hy => ?_, Nat.le_refl _, fun _ _ _ _ _ q => q.elim⟩
  rcases F.get x y hx hy with ⟨L, h1, h2, h3⟩ | ⟨h1, h2⟩
  · exact .inl ⟨L, h1, .inl (by rcases h2 with h2 | ⟨h2, _⟩ <;> omega), h3⟩
  · refine .inr ⟨fun L hL z => h1 L hL ?_, h2⟩
    rcases z with z | ⟨_, z⟩
    · rcases Nat.lt_or_ge L T with q | q
      · exact .inl q
      · exact .inr ⟨by omega, h x y hx hy⟩
    · exact z.elim
def gvD (o : Option D) (T : Nat) : Nat := match o with
  | some (.int L) => L.toNat
  | _ => T
theorem FS.gv (F : FS n t e m T N0 B ks xs) {a b : Nat} (ha : a < n) (hb : b < n) (Z : Nat) : (getT ks xs (kk a b)).getD (.int (Z : Nat)) = .int ((gvD (getT ks xs (kk a b)) Z : Nat) : Int) := by
  rcases F.get a b ha hb with ⟨L, _, _, h⟩ | ⟨_, h⟩ <;> rw [h] <;> rfl
/-- a pair's turn: it is put in at T just where it wants T signs -/
theorem FS.want {T : Nat} (F : FS n t e m (T + 1) N0 B ks xs) (ht : ∀ a k, a < n → k < m → t a k < n) {a b : Nat} (ha : a < n) (hb : b < n) (hB : ¬ B a b) :
    (getT ks xs (kk a b) = none ∧ ∃ k, k < m ∧ gvD (getT ks xs (kk (t a k) (t b k))) (T + 1) = T) ↔ IsD t e m (T + 1) a b := by
  rw [IsD.succ]
  constructor
  · rintro ⟨h1, k, hk, h2⟩
    refine ⟨fun L hL hd => ?_, k, hk, ?_⟩
    · rcases F.get a b ha hb with ⟨L', _, _, h⟩ | ⟨h, _⟩
      · rw [h1] at h; cases h
      · exact h L hd (.inl (by omega))
    · rcases F.get _ _ (ht a k ha hk) (ht b k hb hk) with ⟨L', h3, _, h⟩ | ⟨_, h⟩
      · rw [h] at h2
        have : L' = T := by simpa [gvD] using h2
        rw [← this]; exact h3
      · rw [h] at h2
        simp [gvD] at h2
  · rintro ⟨h1, k, hk, h2⟩
    refine ⟨?_, k, hk, ?_⟩
    · rcases F.get a b ha hb with ⟨L', h3, h4, _⟩ | ⟨_, h⟩
      · rcases h4 with h4 | ⟨_, h4⟩
        · exact absurd h3 (h1 L' (by omega))
        · exact absurd h4 hB
      · exact h
    · rcases F.get _ _ (ht a k ha hk) (ht b k hb hk) with ⟨L', h3, _, h⟩ | ⟨h3, _⟩
      · obtain rfl := h3.uniq h2
        rw [h]
        simp [gvD]
      · exact absurd (.inl (Nat.lt_succ_self T)) (h3 T h2)
end
end G
/-! K6C: the law's table of how far pairs of rooms are from being parted -/
namespace G
open PySem PySem.Spec PyProof.Rows L2 DE M6
def EF (l n : Nat) (v5 v6 x4 x7 x8 : Option D) : DE.Env := [some (.ref 0), some (.ref 1), some (.int (n : Nat)), some (.ref l), x4, v5, v6, x7, x8, none, none]
theorem bef_succ {i j x y : Nat} : Bef i (j + 1) x y ↔ Bef i j x y ∨ (x = i ∧ y = j) := by unfold Bef; omega
section
variable {n m T N0 : Nat} {t : Nat → Nat → Nat} {e : Nat → Bool} {s : Store}
theorem far_loops {body : DE.SM} {v5 v6 : Option D} (hn : n ≤ 14)
    (hstep : ∀ i j ks xs x8, i < n → j < n → FS n t e m T N0 (Bef i j) ks xs → ∃ ks' xs' x8', body (EF s.length n v5 v6 (some (.int (i : Nat))) (some (.int (j : Nat))) x8) (s ++ [.dT ks xs]) = .next (EF s.length n v5 v6 (some (.int (i : Nat))) (some (.int (j : Nat))) x8') (s ++ [.dT ks' xs']) ∧ FS n t e m T N0 (Bef i (j + 1)) ks' xs')
    {ks : List (List Key)} {xs : List D} {x4 x7 x8 : Option D} (F : FS n t e m T N0 (Bef 0 0) ks xs) :
    ∃ ks' xs' x4' x7' x8', sFor (itR1 (aCons (eVar 2) aNil)) (gVar 4) (sFor (itR1 (aCons (eVar 2) aNil)) (gVar 7) body) (EF s.length n v5 v6 x4 x7 x8) (s ++ [.dT ks xs]) = .next (EF s.length n v5 v6 x4' x7' x8') (s ++ [.dT ks' xs']) ∧ FS n t e m T N0 (Bef n 0) ks' xs' := by
  obtain ⟨env2, s2, e2, ks', xs', x4', x7', x8', rfl, rfl, F'⟩ := for_rng (g := gVar 4) (body := sFor (itR1 (aCons (eVar 2) aNil)) (gVar 7) body) (ms := aCons (eVar 2) aNil) (n := n)
    (fun i env s2 => ∃ ks xs x4 x7 x8, env = EF s.length n v5 v6 x4 x7 x8 ∧ s2 = s ++ [.dT ks xs] ∧ FS n t e m T N0 (Bef i 0) ks xs) (env := EF s.length n v5 v6 x4 x7 x8) (s := s ++ [.dT ks xs]) (by omega) rfl ⟨ks, xs, x4, x7, x8, rfl, rfl, F⟩
    (fun i hi env s2 ⟨ks, xs, x4, x7, x8, he, hs, F⟩ => by
      subst he hs
      obtain ⟨env3, s3, e3, ks', xs', x7', x8', rfl, rfl, F'⟩ := for_rng (g := gVar 7) (body := body) (ms := aCons (eVar 2) aNil) (n := n)
        (fun j env s2 => ∃ ks xs x7 x8, env = EF s.length n v5 v6 (some (.int (i : Nat))) x7 x8 ∧ s2 = s ++ [.dT ks xs] ∧ FS n t e m T N0 (Bef i j) ks xs) (env := EF s.length n v5 v6 (some (.int (i : Nat))) x7 x8) (s := s ++ [.dT ks xs]) (by omega) rfl ⟨ks, xs, x7, x8, rfl, rfl, F⟩
        (fun j hj env s2 ⟨ks, xs, x7, x8, he, hs, F⟩ => by
          subst he hs
          obtain ⟨ks', xs', x8', hb, F'⟩ := hstep i j ks xs x8 hi hj F
          exact ⟨EF s.length n v5 v6 (some (.int (i : Nat))) (some (.int (j : Nat))) x8, _, _, _, rfl, hb, ks', xs', _, x8', rfl, rfl, F'⟩)
      refine ⟨EF s.length n v5 v6 (some (.int (i : Nat))) x7 x8, _, _, _, rfl, e3, ks', xs', _, x7', x8', rfl, rfl, F'.re fun x y hx hy => ?_⟩
      unfold Bef; omega)
  exact ⟨ks', xs', x4', x7', x8', e2, F'⟩
theorem FS.t0 : FS n t e m 0 0 (Bef 0 0) [] [] := by
  refine ⟨List.nodup_nil, rfl, fun k hk => (by cases hk), fun a b ha hb => .inr ⟨fun L hL h => ?_, rfl⟩, Nat.le_refl _, fun _ a b _ _ h => ?_⟩
  · unfold Bef at h; omega
  · unfold Bef at h; omega
/-- the first look -/
theorem far0_step (M : Mach n m t e s) (i j : Nat) (ks : List (List Key)) (xs : List D) (x8 : Option D) (hi : i < n) (hj : j < n) (F : FS n t e m 0 0 (Bef i j) ks xs) :
    ∃ ks' xs' x8', (sIf (tVal (DE.e2 (eqD true) (DE.e2 ixD (eVar 1) (eVar 4)) (DE.e2 ixD (eVar 1) (eVar 7)))) (sAsg (eC (.int 0)) (gPutT (eVar 3) (eTup (aCons (eVar 4) (aCons (eVar 7) aNil))))) sPass) (EF s.length n none none (some (.int (i : Nat))) (some (.int (j : Nat))) x8) (s ++ [.dT ks xs]) =
      .next (EF s.length n none none (some (.int (i : Nat))) (some (.int (j : Nat))) x8') (s ++ [.dT ks' xs']) ∧ FS n t e m 0 0 (Bef i (j + 1)) ks' xs' := by
  have M1 := M.push (.dT ks xs)
  have h1 := M1.ix_en hi
  have h2 := M1.ix_en hj
  have h3 := eqD_bl true (e i) (e j) (s ++ [.dT ks xs])
  have hB : ¬ Bef i j i j := by unfold Bef; omega
  by_cases q : e i = e j
  · refine ⟨ks, xs, x8, ?_, F.skip (fun hd => IsD.zero.mp hd q) fun x y => bef_succ⟩
    rw [q] at h1 h3
    simp [EF, bodyF, env0, sSeq, sSet, sIf, sRet, sRetN, sExpr, sPass, sRaise, sBad, eVar, eC, eTup, eLst, aCons, aNil, eCall, ar, DE.e2, eAnd, eOr, eNot, eIf, eNeg, tVal, tAndM, tOrM, tNotM, tYesM, eChain, isiD, tyOf, isTy, eM1, oNone, oSome, eCut, R.bind_ok, R.bind_exc, R.bindS_ok, R.bindS_exc, RS.bind_next, RS.bind_ret, RS.bind_exc, LINE, ofS_inj, ofS_ok, eqD_int, eqD_ss, inD3_ss, inD2_ss, h1, h2, h3]
  · obtain ⟨hni, F'⟩ := F.put hi hj hB (IsD.zero.mpr q) fun x y => bef_succ
    refine ⟨_, _, x8, ?_, F'⟩
    have hp := put_ev (d := .int 0) (y := pD i j) (env := EF s.length n none none (some (.int (i : Nat))) (some (.int (j : Nat))) x8) (mo := eVar 3) (mi := eTup (aCons (eVar 4) (aCons (eVar 7) aNil))) (last_at s (.dT ks xs)) rfl (by simp [EF, bodyF, env0, sSeq, sSet, sIf, sRet, sRetN, sExpr, sPass, sRaise, sBad, eVar, eC, eTup, eLst, aCons, aNil, eCall, ar, DE.e2, eAnd, eOr, eNot, eIf, eNeg, tVal, tAndM, tOrM, tNotM, tYesM, eChain, isiD, tyOf, isTy, eM1, oNone, oSome, eCut, R.bind_ok, R.bind_exc, R.bindS_ok, R.bindS_exc, RS.bind_next, RS.bind_ret, RS.bind_exc, LINE, ofS_inj, ofS_ok, eqD_int, eqD_ss, inD3_ss, inD2_ss, pD]) (pD_key i j) F.nd (by have := F.small; have := M.n14; have := Nat.mul_le_mul this this; omega) F.len hni
    rw [set_last] at hp
    rw [show decide (e i = e j) = false by simp [q]] at h3
    generalize gPutT (eVar 3) (eTup (aCons (eVar 4) (aCons (eVar 7) aNil))) = g at hp
    simp only [EF] at hp ⊢
    simp [bodyF, env0, sSeq, sSet, sIf, sRet, sRetN, sExpr, sPass, sRaise, sBad, eVar, eC, eTup, eLst, aCons, aNil, eCall, ar, DE.e2, eAnd, eOr, eNot, eIf, eNeg, tVal, tAndM, tOrM, tNotM, tYesM, eChain, isiD, tyOf, isTy, eM1, oNone, oSome, eCut, R.bind_ok, R.bind_exc, R.bindS_ok, R.bindS_exc, RS.bind_next, RS.bind_ret, RS.bind_exc, LINE, ofS_inj, ofS_ok, eqD_int, eqD_ss, inD3_ss, inD2_ss, h1, h2, h3, sAsg, hp]
theorem goals_ev (M : Mach n m t e s) {i j : Nat} {ks : List (List Key)} {xs : List D} {x8 v5 : Option D} {B : Nat → Nat → Prop} {Z : Nat} (hi : i < n) (hj : j < n) (F : FS n t e m T N0 B ks xs) :
    eLc (itZip (aCons (DE.e2 ixD (eVar 0) (eVar 4)) (aCons (DE.e2 ixD (eVar 0) (eVar 7)) aNil))) (.two 9 10) [9, 10] tYesM (eGet2 (eVar 3) (eTup (aCons (eVar 9) (aCons (eVar 10) aNil))) (eVar 6)) (EF s.length n v5 (some (.int (Z : Nat))) (some (.int (i : Nat))) (some (.int (j : Nat))) x8) (s ++ [.dT ks xs]) =
      .ok (.lst (((List.range m).map fun k => ((gvD (getT ks xs (kk (t i k) (t j k))) Z : Nat) : Int)).map D.int)) (s ++ [.dT ks xs]) := by
  have M1 := M.push (.dT ks xs)
  have h1 := M1.ix_st hi
  have h2 := M1.ix_st hj
  obtain ⟨G, z1, z2⟩ := zip_ev M1 hi hj (ms := aCons (DE.e2 ixD (eVar 0) (eVar 4)) (aCons (DE.e2 ixD (eVar 0) (eVar 7)) aNil)) (env := EF s.length n v5 (some (.int (Z : Nat))) (some (.int (i : Nat))) (some (.int (j : Nat))) x8) (by simp [EF, bodyF, env0, sSeq, sSet, sIf, sRet, sRetN, sExpr, sPass, sRaise, sBad, eVar, eC, eTup, eLst, aCons, aNil, eCall, ar, DE.e2, eAnd, eOr, eNot, eIf, eNeg, tVal, tAndM, tOrM, tNotM, tYesM, eChain, isiD, tyOf, isTy, eM1, oNone, oSome, eCut, R.bind_ok, R.bind_exc, R.bindS_ok, R.bindS_exc, RS.bind_next, RS.bind_ret, RS.bind_exc, LINE, ofS_inj, ofS_ok, eqD_int, eqD_ss, inD3_ss, inD2_ss, h1, h2])
  rw [List.map_map]
  refine eLc_g (fun k => pD (t i k) (t j k)) _ (List.range m) G z1 z2 (by have := M.m4; simp; omega) fun k hk => ⟨_, rfl, ?_⟩
  have hk : k < m := List.mem_range.mp hk
  rw [get2_ev (y := pD (t i k) (t j k)) (z := .int (Z : Nat)) (last_at s (.dT ks xs)) rfl (by simp [EF, bodyF, env0, sSeq, sSet, sIf, sRet, sRetN, sExpr, sPass, sRaise, sBad, eVar, eC, eTup, eLst, aCons, aNil, eCall, ar, DE.e2, eAnd, eOr, eNot, eIf, eNeg, tVal, tAndM, tOrM, tNotM, tYesM, eChain, isiD, tyOf, isTy, eM1, oNone, oSome, eCut, R.bind_ok, R.bind_exc, R.bindS_ok, R.bindS_exc, RS.bind_next, RS.bind_ret, RS.bind_exc, LINE, ofS_inj, ofS_ok, eqD_int, eqD_ss, inD3_ss, inD2_ss, pD, wipeE]) rfl (pD_key _ _), F.gv (M.ht i k hi hk) (M.ht j k hj hk)]
  rfl
/-- a later look -/
theorem far_step (M : Mach n m t e s) {v5 : Option D} (i j : Nat) (ks : List (List Key)) (xs : List D) (x8 : Option D) (hi : i < n) (hj : j < n) (F : FS n t e m (T + 1) N0 (Bef i j) ks xs) :
    ∃ ks' xs' x8', (sSeq (sSet 8 (eLc (itZip (aCons (DE.e2 ixD (eVar 0) (eVar 4)) (aCons (DE.e2 ixD (eVar 0) (eVar 7)) aNil))) (.two 9 10) [9, 10] tYesM (eGet2 (eVar 3) (eTup (aCons (eVar 9) (aCons (eVar 10) aNil))) (eVar 6))))
      (sIf (tAndM (tVal (DE.e2 (inTD true) (eTup (aCons (eVar 4) (aCons (eVar 7) aNil))) (eVar 3))) (tVal (DE.e2 (inD false) (DE.e2 subD (eVar 6) (eC (.int 1))) (eVar 8)))) (sAsg (eVar 6) (gPutT (eVar 3) (eTup (aCons (eVar 4) (aCons (eVar 7) aNil))))) sPass)) (EF s.length n v5 (some (.int ((T + 1 : Nat) : Int))) (some (.int (i : Nat))) (some (.int (j : Nat))) x8) (s ++ [.dT ks xs]) =
      .next (EF s.length n v5 (some (.int ((T + 1 : Nat) : Int))) (some (.int (i : Nat))) (some (.int (j : Nat))) x8') (s ++ [.dT ks' xs']) ∧ FS n t e m (T + 1) N0 (Bef i (j + 1)) ks' xs' := by
  have hg := goals_ev M (Z := T + 1) (v5 := v5) (x8 := x8) hi hj F
  have hB : ¬ Bef i j i j := by unfold Bef; omega
  have hw := F.want M.ht hi hj hB
  have hmem : ((T : Int) ∈ (List.range m).map fun k => ((gvD (getT ks xs (kk (t i k) (t j k))) (T + 1) : Nat) : Int)) ↔ ∃ k, k < m ∧ gvD (getT ks xs (kk (t i k) (t j k))) (T + 1) = T := by
    rw [List.mem_map]
    constructor
    · rintro ⟨k, hk, h⟩
      exact ⟨k, List.mem_range.mp hk, by omega⟩
    · rintro ⟨k, hk, h⟩
      exact ⟨k, List.mem_range.mpr hk, by omega⟩
  generalize (List.range m).map (fun k => ((gvD (getT ks xs (kk (t i k) (t j k))) (T + 1) : Nat) : Int)) = gs at hg hmem
  have hin := inT_ev true (y := pD i j) (last_at s (.dT ks xs)) (pD_key i j)
  have hid := inD_ints false (T : Int) gs (s ++ [.dT ks xs])
  have hsub : ((T + 1 : Nat) : Int) - 1 = T := by omega
  rw [seq_to (env1 := EF s.length n v5 (some (.int ((T + 1 : Nat) : Int))) (some (.int (i : Nat))) (some (.int (j : Nat))) (some (.lst (gs.map D.int)))) (s1 := s ++ [.dT ks xs]) (by unfold sSet; rw [hg]; rfl)]
  have hp : ∀ d, kk i j ∉ ks → gPutT (eVar 3) (eTup (aCons (eVar 4) (aCons (eVar 7) aNil))) d (EF s.length n v5 (some (.int ((T + 1 : Nat) : Int))) (some (.int (i : Nat))) (some (.int (j : Nat))) (some (.lst (gs.map D.int)))) (s ++ [.dT ks xs]) = .ok (EF s.length n v5 (some (.int ((T + 1 : Nat) : Int))) (some (.int (i : Nat))) (some (.int (j : Nat))) (some (.lst (gs.map D.int)))) (s ++ [.dT (ks ++ [kk i j]) (xs ++ [d])]) := fun d hni => by
    have hp := put_ev (d := d) (y := pD i j) (env := EF s.length n v5 (some (.int ((T + 1 : Nat) : Int))) (some (.int (i : Nat))) (some (.int (j : Nat))) (some (.lst (gs.map D.int)))) (mo := eVar 3) (mi := eTup (aCons (eVar 4) (aCons (eVar 7) aNil))) (last_at s (.dT ks xs)) rfl (by simp [EF, bodyF, env0, sSeq, sSet, sIf, sRet, sRetN, sExpr, sPass, sRaise, sBad, eVar, eC, eTup, eLst, aCons, aNil, eCall, ar, DE.e2, eAnd, eOr, eNot, eIf, eNeg, tVal, tAndM, tOrM, tNotM, tYesM, eChain, isiD, tyOf, isTy, eM1, oNone, oSome, eCut, R.bind_ok, R.bind_exc, R.bindS_ok, R.bindS_exc, RS.bind_next, RS.bind_ret, RS.bind_exc, LINE, ofS_inj, ofS_ok, eqD_int, eqD_ss, inD3_ss, inD2_ss, pD]) (pD_key i j) F.nd (by have := F.small; have := M.n14; have := Nat.mul_le_mul this this; omega) F.len hni
    rw [set_last] at hp
    exact hp
  generalize gPutT (eVar 3) (eTup (aCons (eVar 4) (aCons (eVar 7) aNil))) = g at hp
  generalize gs.map D.int = gl at hid hp ⊢
  cases hq : getT ks xs (kk i j) with
  | some d =>
    have hnd : ¬ IsD t e m (T + 1) i j := fun hd => by
      have := (hw.mpr hd).1
      rw [hq] at this; cases this
    refine ⟨ks, xs, some (.lst gl), ?_, F.skip hnd fun x y => bef_succ⟩
    rw [hq] at hin
    simp only [pD] at hin
    simp [EF, bodyF, env0, sSeq, sSet, sIf, sRet, sRetN, sExpr, sPass, sRaise, sBad, eVar, eC, eTup, eLst, aCons, aNil, eCall, ar, DE.e2, eAnd, eOr, eNot, eIf, eNeg, tVal, tAndM, tOrM, tNotM, tYesM, eChain, isiD, tyOf, isTy, eM1, oNone, oSome, eCut, R.bind_ok, R.bind_exc, R.bindS_ok, R.bindS_exc, RS.bind_next, RS.bind_ret, RS.bind_exc, LINE, ofS_inj, ofS_ok, eqD_int, eqD_ss, inD3_ss, inD2_ss, hin]
  | none =>
    rw [hq] at hin hw
    simp only [pD] at hin
    by_cases q : ∃ k, k < m ∧ gvD (getT ks xs (kk (t i k) (t j k))) (T + 1) = T
    · obtain ⟨hni, F'⟩ := F.put hi hj hB (hw.mp ⟨rfl, q⟩) fun x y => bef_succ
      refine ⟨_, _, some (.lst gl), ?_, F'⟩
      have hp := hp (.int ((T + 1 : Nat) : Int)) hni
      rw [show decide ((T : Int) ∈ gs) = true by simpa using hmem.mpr q] at hid
      simp only [EF] at hp ⊢
      generalize ((T + 1 : Nat) : Int) = T1 at *
      simp [bodyF, env0, sSeq, sSet, sIf, sRet, sRetN, sExpr, sPass, sRaise, sBad, eVar, eC, eTup, eLst, aCons, aNil, eCall, ar, DE.e2, eAnd, eOr, eNot, eIf, eNeg, tVal, tAndM, tOrM, tNotM, tYesM, eChain, isiD, tyOf, isTy, eM1, oNone, oSome, eCut, R.bind_ok, R.bind_exc, R.bindS_ok, R.bindS_exc, RS.bind_next, RS.bind_ret, RS.bind_exc, LINE, ofS_inj, ofS_ok, eqD_int, eqD_ss, inD3_ss, inD2_ss, hin, subD_int, hsub, hid, sAsg, hp]
    · have hnd : ¬ IsD t e m (T + 1) i j := fun hd => q (hw.mpr hd).2
      refine ⟨ks, xs, some (.lst gl), ?_, F.skip hnd fun x y => bef_succ⟩
      rw [show decide ((T : Int) ∈ gs) = false by simpa using fun z => q (hmem.mp z)] at hid
      simp only [EF]
      generalize ((T + 1 : Nat) : Int) = T1 at *
      simp [bodyF, env0, sSeq, sSet, sIf, sRet, sRetN, sExpr, sPass, sRaise, sBad, eVar, eC, eTup, eLst, aCons, aNil, eCall, ar, DE.e2, eAnd, eOr, eNot, eIf, eNeg, tVal, tAndM, tOrM, tNotM, tYesM, eChain, isiD, tyOf, isTy, eM1, oNone, oSome, eCut, R.bind_ok, R.bind_exc, R.bindS_ok, R.bindS_exc, RS.bind_next, RS.bind_ret, RS.bind_exc, LINE, ofS_inj, ofS_ok, eqD_int, eqD_ss, inD3_ss, inD2_ss, hin, subD_int, hsub, hid]
/-- the whole table -/
structure Far (n : Nat) (t : Nat → Nat → Nat) (e : Nat → Bool) (m : Nat) (ks : List (List Key)) (xs : List D) : Prop where
  len : ks.length ≤ 200
  get : ∀ a b, a < n → b < n → (∃ L, IsD t e m L a b ∧ L ≤ ks.length ∧ getT ks xs (kk a b) = some (.int (L : Nat))) ∨ ((∀ L, ¬ IsD t e m L a b) ∧ getT ks xs (kk a b) = none)
theorem FS.far (hn : n ≤ 14) (ht : ∀ a k, a < n → k < m → t a k < n) {ks : List (List Key)} {xs : List D} (F : FS n t e m T N0 (Bef n 0) ks xs) (hT : T ≤ N0 + 1) (hl : ks.length = N0) : Far n t e m ks xs := by
  have hs := F.small
  have h14 := Nat.mul_le_mul hn hn
  refine ⟨by omega, fun a b ha hb => ?_⟩
  have hno := F.no hl
  rcases F.get a b ha hb with ⟨L, h1, h2, h3⟩ | ⟨h1, h2⟩
  · refine .inl ⟨L, h1, ?_, h3⟩
    rcases h2 with h2 | ⟨rfl, h2⟩
    · omega
    · exact absurd h1 (hno a b ha hb h2)
  · refine .inr ⟨fun L hL => ?_, h2⟩
    rcases Nat.lt_or_ge L T with q | q
    · exact h1 L hL (.inl q)
    · obtain ⟨d, rfl⟩ : ∃ d, L = T + d := ⟨L - T, by omega⟩
      exact IsD.stop ht (fun x y hx hy => hno x y hx hy (by unfold Bef; omega)) d a b ha hb hL
theorem ltD_ev {i j : Int} {s : Store} : ltD (.int i) (.int j) s = .ok (.bl (decide (i < j))) s := rfl
/-- the law's loop -/
theorem far_while (M : Mach n m t e s) : ∀ (d T N0 : Nat) (ks : List (List Key)) (xs : List D) (sz : Int) (x4 x7 x8 : Option D), FS n t e m T N0 (Bef n 0) ks xs → T ≤ N0 + 1 → ((T = 0 ∧ sz = -1 ∧ n * n + 1 ≤ d) ∨ (0 < T ∧ sz = (N0 : Nat) ∧ n * n - N0 ≤ d)) →
    ∃ ks' xs' y4 y5 y6 y7 y8, sWhile (tVal (DE.e2 ltD (eVar 5) (eCall lenTD (aCons (eVar 3) aNil))))
      (sSeq (sSet 5 (eCall lenTD (aCons (eVar 3) aNil)))
      (sSeq (sSet 6 (DE.e2 addD (eVar 6) (eC (.int 1))))
      (sFor (itR1 (aCons (eVar 2) aNil)) (gVar 4)
      (sFor (itR1 (aCons (eVar 2) aNil)) (gVar 7)
      (sSeq (sSet 8 (eLc (itZip (aCons (DE.e2 ixD (eVar 0) (eVar 4)) (aCons (DE.e2 ixD (eVar 0) (eVar 7)) aNil))) (.two 9 10) [9, 10] tYesM (eGet2 (eVar 3) (eTup (aCons (eVar 9) (aCons (eVar 10) aNil))) (eVar 6))))
      (sIf (tAndM (tVal (DE.e2 (inTD true) (eTup (aCons (eVar 4) (aCons (eVar 7) aNil))) (eVar 3))) (tVal (DE.e2 (inD false) (DE.e2 subD (eVar 6) (eC (.int 1))) (eVar 8)))) (sAsg (eVar 6) (gPutT (eVar 3) (eTup (aCons (eVar 4) (aCons (eVar 7) aNil))))) sPass))))))
      (EF s.length n (some (.int sz)) (some (.int (T : Nat))) x4 x7 x8) (s ++ [.dT ks xs]) = .next (EF s.length n y5 y6 y4 y7 y8) (s ++ [.dT ks' xs']) ∧ Far n t e m ks' xs' := by
  intro d
  induction d with
  | zero =>
    intro T N0 ks xs sz x4 x7 x8 F hT hc
    rcases hc with ⟨_, _, h⟩ | ⟨h1, h2, h3⟩
    · omega
    · have hs := F.small
      have hg := F.ge
      refine ⟨ks, xs, x4, some (.int sz), some (.int (T : Nat)), x7, x8, ?_, F.far M.n14 M.ht hT (by omega)⟩
      have hl := lenT_ev (last_at s (.dT ks xs))
      have hlt : ltD (.int sz) (.int ks.length) (s ++ [.dT ks xs]) = .ok (.bl false) (s ++ [.dT ks xs]) := by rw [ltD_ev]; simp; omega
      rw [sWhile_eq]
      have hc : tVal (DE.e2 ltD (eVar 5) (eCall lenTD (aCons (eVar 3) aNil))) (EF s.length n (some (.int sz)) (some (.int (T : Nat))) x4 x7 x8) (s ++ [.dT ks xs]) = .ok false (s ++ [.dT ks xs]) := by
        simp [EF, bodyF, env0, sSeq, sSet, sIf, sRet, sRetN, sExpr, sPass, sRaise, sBad, eVar, eC, eTup, eLst, aCons, aNil, eCall, ar, DE.e2, eAnd, eOr, eNot, eIf, eNeg, tVal, tAndM, tOrM, tNotM, tYesM, eChain, isiD, tyOf, isTy, eM1, oNone, oSome, eCut, R.bind_ok, R.bind_exc, R.bindS_ok, R.bindS_exc, RS.bind_next, RS.bind_ret, RS.bind_exc, LINE, ofS_inj, ofS_ok, eqD_int, eqD_ss, inD3_ss, inD2_ss, hl, hlt]
      rw [hc]
      rfl
  | succ d ih =>
    intro T N0 ks xs sz x4 x7 x8 F hT hc
    have hs := F.small
    have hg := F.ge
    have hl := lenT_ev (last_at s (.dT ks xs))
    rw [sWhile_eq]
    by_cases q : sz < ks.length
    · have hlt : ltD (.int sz) (.int ks.length) (s ++ [.dT ks xs]) = .ok (.bl true) (s ++ [.dT ks xs]) := by rw [ltD_ev]; simp [q]
      have hc2 : tVal (DE.e2 ltD (eVar 5) (eCall lenTD (aCons (eVar 3) aNil))) (EF s.length n (some (.int sz)) (some (.int (T : Nat))) x4 x7 x8) (s ++ [.dT ks xs]) = .ok true (s ++ [.dT ks xs]) := by
        simp [EF, bodyF, env0, sSeq, sSet, sIf, sRet, sRetN, sExpr, sPass, sRaise, sBad, eVar, eC, eTup, eLst, aCons, aNil, eCall, ar, DE.e2, eAnd, eOr, eNot, eIf, eNeg, tVal, tAndM, tOrM, tNotM, tYesM, eChain, isiD, tyOf, isTy, eM1, oNone, oSome, eCut, R.bind_ok, R.bind_exc, R.bindS_ok, R.bindS_exc, RS.bind_next, RS.bind_ret, RS.bind_exc, LINE, ofS_inj, ofS_ok, eqD_int, eqD_ss, inD3_ss, inD2_ss, hl, hlt]
      rw [hc2]
      simp only [R.bindS_ok, if_true]
      rw [seq_to (env1 := EF s.length n (some (.int (ks.length : Nat))) (some (.int (T : Nat))) x4 x7 x8) (s1 := s ++ [.dT ks xs]) (by simp [EF, bodyF, env0, sSeq, sSet, sIf, sRet, sRetN, sExpr, sPass, sRaise, sBad, eVar, eC, eTup, eLst, aCons, aNil, eCall, ar, DE.e2, eAnd, eOr, eNot, eIf, eNeg, tVal, tAndM, tOrM, tNotM, tYesM, eChain, isiD, tyOf, isTy, eM1, oNone, oSome, eCut, R.bind_ok, R.bind_exc, R.bindS_ok, R.bindS_exc, RS.bind_next, RS.bind_ret, RS.bind_exc, LINE, ofS_inj, ofS_ok, eqD_int, eqD_ss, inD3_ss, inD2_ss, hl]),
        seq_to (env1 := EF s.length n (some (.int (ks.length : Nat))) (some (.int ((T + 1 : Nat) : Int))) x4 x7 x8) (s1 := s ++ [.dT ks xs]) (by simp [EF, bodyF, env0, sSeq, sSet, sIf, sRet, sRetN, sExpr, sPass, sRaise, sBad, eVar, eC, eTup, eLst, aCons, aNil, eCall, ar, DE.e2, eAnd, eOr, eNot, eIf, eNeg, tVal, tAndM, tOrM, tNotM, tYesM, eChain, isiD, tyOf, isTy, eM1, oNone, oSome, eCut, R.bind_ok, R.bind_exc, R.bindS_ok, R.bindS_exc, RS.bind_next, RS.bind_ret, RS.bind_exc, LINE, ofS_inj, ofS_ok, eqD_int, eqD_ss, inD3_ss, inD2_ss, addD_int])]
      have F1 : FS n t e m (T + 1) ks.length (Bef 0 0) ks xs := (F.turn fun x y hx hy => by unfold Bef; omega).re fun x y _ _ => ⟨fun h => (by unfold Bef at h; omega : False), fun h => h.elim⟩
      obtain ⟨ks', xs', x4', x7', x8', e1, F2⟩ := far_loops (v5 := some (.int (ks.length : Nat))) (v6 := some (.int ((T + 1 : Nat) : Int))) (x4 := x4) (x7 := x7) (x8 := x8) M.n14 (fun i j ks1 xs1 x8 hi hj F => far_step M i j ks1 xs1 x8 hi hj F) F1
      rw [e1]
      simp only [loopB_next]
      exact ih (T + 1) ks.length ks' xs' _ x4' x7' x8' F2 (by omega) (.inr ⟨by omega, rfl, by omega⟩)
    · have hlt : ltD (.int sz) (.int ks.length) (s ++ [.dT ks xs]) = .ok (.bl false) (s ++ [.dT ks xs]) := by rw [ltD_ev]; simp [q]
      have hc2 : tVal (DE.e2 ltD (eVar 5) (eCall lenTD (aCons (eVar 3) aNil))) (EF s.length n (some (.int sz)) (some (.int (T : Nat))) x4 x7 x8) (s ++ [.dT ks xs]) = .ok false (s ++ [.dT ks xs]) := by
        simp [EF, bodyF, env0, sSeq, sSet, sIf, sRet, sRetN, sExpr, sPass, sRaise, sBad, eVar, eC, eTup, eLst, aCons, aNil, eCall, ar, DE.e2, eAnd, eOr, eNot, eIf, eNeg, tVal, tAndM, tOrM, tNotM, tYesM, eChain, isiD, tyOf, isTy, eM1, oNone, oSome, eCut, R.bind_ok, R.bind_exc, R.bindS_ok, R.bindS_exc, RS.bind_next, RS.bind_ret, RS.bind_exc, LINE, ofS_inj, ofS_ok, eqD_int, eqD_ss, inD3_ss, inD2_ss, hl, hlt]
      refine ⟨ks, xs, x4, some (.int sz), some (.int (T : Nat)), x7, x8, ?_, F.far M.n14 M.ht hT (by omega)⟩
      rw [hc2]
      rfl
theorem ev_far (M : Mach n m t e s) (k : Nat) : ∃ ks xs, fns (k + 1) i__law_far [.ref 0, .ref 1] s = .ok (.ref s.length) (s ++ [.dT ks xs]) ∧ Far n t e m ks xs := by
  rw [e__law_far]
  obtain ⟨ks1, xs1, x4, x7, x8, e1, F1⟩ := far_loops (v5 := none) (v6 := none) (x4 := none) (x7 := none) (x8 := none) M.n14 (fun i j ks xs x8 hi hj F => far0_step M i j ks xs x8 hi hj F) FS.t0
  obtain ⟨ks2, xs2, y4, y5, y6, y7, y8, e2, F2⟩ := far_while M (n * n + 1) 0 0 ks1 xs1 (-1) x4 x7 x8 F1 (by omega) (.inl ⟨rfl, rfl, Nat.le_refl _⟩)
  refine ⟨ks2, xs2, body_ret ?_, F2⟩
  have hl := M.len_en
  rw [m__law_far, seq_to (env1 := [some (.ref 0), some (.ref 1), some (.int (n : Nat)), none, none, none, none, none, none, none, none]) (s1 := s) (by simp [bodyF, env0, sSeq, sSet, sIf, sRet, sRetN, sExpr, sPass, sRaise, sBad, eVar, eC, eTup, eLst, aCons, aNil, eCall, ar, DE.e2, eAnd, eOr, eNot, eIf, eNeg, tVal, tAndM, tOrM, tNotM, tYesM, eChain, isiD, tyOf, isTy, eM1, oNone, oSome, eCut, R.bind_ok, R.bind_exc, R.bindS_ok, R.bindS_exc, RS.bind_next, RS.bind_ret, RS.bind_exc, LINE, ofS_inj, ofS_ok, eqD_int, eqD_ss, inD3_ss, inD2_ss, hl]),
    seq_to (env1 := EF s.length n none none none none none) (s1 := s ++ [.dT [] []]) (by simp [EF, bodyF, env0, sSeq, sSet, sIf, sRet, sRetN, sExpr, sPass, sRaise, sBad, eVar, eC, eTup, eLst, aCons, aNil, eCall, ar, DE.e2, eAnd, eOr, eNot, eIf, eNeg, tVal, tAndM, tOrM, tNotM, tYesM, eChain, isiD, tyOf, isTy, eM1, oNone, oSome, eCut, R.bind_ok, R.bind_exc, R.bindS_ok, R.bindS_exc, RS.bind_next, RS.bind_ret, RS.bind_exc, LINE, ofS_inj, ofS_ok, eqD_int, eqD_ss, inD3_ss, inD2_ss, eNewDT]),
    seq_to e1,
    seq_to (env1 := EF s.length n (some (.int (-1))) none x4 x7 x8) (s1 := s ++ [.dT ks1 xs1]) (by simp [EF, bodyF, env0, sSeq, sSet, sIf, sRet, sRetN, sExpr, sPass, sRaise, sBad, eVar, eC, eTup, eLst, aCons, aNil, eCall, ar, DE.e2, eAnd, eOr, eNot, eIf, eNeg, tVal, tAndM, tOrM, tNotM, tYesM, eChain, isiD, tyOf, isTy, eM1, oNone, oSome, eCut, R.bind_ok, R.bind_exc, R.bindS_ok, R.bindS_exc, RS.bind_next, RS.bind_ret, RS.bind_exc, LINE, ofS_inj, ofS_ok, eqD_int, eqD_ss, inD3_ss, inD2_ss]),
    seq_to (env1 := EF s.length n (some (.int (-1))) (some (.int ((0 : Nat) : Int))) x4 x7 x8) (s1 := s ++ [.dT ks1 xs1]) (by simp [EF, bodyF, env0, sSeq, sSet, sIf, sRet, sRetN, sExpr, sPass, sRaise, sBad, eVar, eC, eTup, eLst, aCons, aNil, eCall, ar, DE.e2, eAnd, eOr, eNot, eIf, eNeg, tVal, tAndM, tOrM, tNotM, tYesM, eChain, isiD, tyOf, isTy, eM1, oNone, oSome, eCut, R.bind_ok, R.bind_exc, R.bindS_ok, R.bindS_exc, RS.bind_next, RS.bind_ret, RS.bind_exc, LINE, ofS_inj, ofS_ok, eqD_int, eqD_ss, inD3_ss, inD2_ss]),
    seq_to e2]
  simp [EF, bodyF, env0, sSeq, sSet, sIf, sRet, sRetN, sExpr, sPass, sRaise, sBad, eVar, eC, eTup, eLst, aCons, aNil, eCall, ar, DE.e2, eAnd, eOr, eNot, eIf, eNeg, tVal, tAndM, tOrM, tNotM, tYesM, eChain, isiD, tyOf, isTy, eM1, oNone, oSome, eCut, R.bind_ok, R.bind_exc, R.bindS_ok, R.bindS_exc, RS.bind_next, RS.bind_ret, RS.bind_exc, LINE, ofS_inj, ofS_ok, eqD_int, eqD_ss, inD3_ss, inD2_ss]
end
end G
/-! K6D: the law's text: counting back from what differs -/
namespace G
open PySem PySem.Spec PyProof.Rows L2 DE M6
theorem atInt_some : ∀ {xs : List Int} {n : Int}, n ∈ xs → ∃ j, atInt xs n = some j
  | [], _, h => by cases h
  | x :: xs, n, h => by
    unfold atInt
    by_cases q : x = n
    · exact ⟨0, by rw [if_pos q]⟩
    · rcases List.mem_cons.mp h with h | h
      · exact absurd h.symm q
      · obtain ⟨j, hj⟩ := atInt_some h
        exact ⟨j + 1, by rw [if_neg q, hj]; rfl⟩
theorem lindex_ev {ns : List Int} {n : Int} {j : Nat} {s : Store} (h : atInt ns n = some j) : lindexD (.lst (ns.map D.int)) (.int n) s = .ok (.int (j : Nat)) s := by
  have := intsD_map (fun x : Int => x) ns
  simp only [List.map_id'] at this
  unfold lindexD
  simp only [this, h]
def DU (l : Str) (c x y : Nat) (w : List Nat) (v8 v9 : Option D) : DE.Env := [some (.str l), some MD, some (.int (x : Nat)), some (.int (y : Nat)), some (.ref c), some (.str (txt l w)), some (.ref 0), some (.ref 1), v8, v9, none]
section
variable {n : Nat} {l : Str} {t : Nat → Nat → Nat} {e : Nat → Bool} {s : Store} {ks : List (List Key)} {xs : List D}
theorem Far.gv {m : Nat} (F : Far n t e m ks xs) {a b : Nat} (ha : a < n) (hb : b < n) : (getT ks xs (kk a b)).getD (.int (ks.length : Nat)) = .int ((gvD (getT ks xs (kk a b)) ks.length : Nat) : Int) := by
  rcases F.get a b ha hb with ⟨L, _, _, h⟩ | ⟨_, h⟩ <;> rw [h] <;> rfl
theorem Far.eq {m r : Nat} (F : Far n t e m ks xs) {a b : Nat} (ha : a < n) (hb : b < n) (hr : r < ks.length) : gvD (getT ks xs (kk a b)) ks.length = r ↔ IsD t e m r a b := by
  rcases F.get a b ha hb with ⟨L, h1, _, h⟩ | ⟨h1, h⟩
  · rw [h]
    simp only [gvD, Int.toNat_natCast]
    exact ⟨fun q => q ▸ h1, fun q => h1.uniq q⟩
  · rw [h]
    simp only [gvD]
    exact ⟨fun q => by omega, fun q => absurd q (h1 r)⟩
theorem due_goals (M : Mach n l.length t e s) (F : Far n t e l.length ks xs) {x y : Nat} (hx : x < n) (hy : y < n) {w : List Nat} {v8 v9 : Option D} :
    eLc (itZip (aCons (DE.e2 ixD (eVar 6) (eVar 2)) (aCons (DE.e2 ixD (eVar 6) (eVar 3)) aNil))) (.one 10) [10] tYesM (eGet2 (eVar 4) (eVar 10) (eCall lenTD (aCons (eVar 4) aNil))) (DU l s.length x y w v8 v9) (s ++ [.dT ks xs]) =
      .ok (.lst (((List.range l.length).map fun k => ((gvD (getT ks xs (kk (t x k) (t y k))) ks.length : Nat) : Int)).map D.int)) (s ++ [.dT ks xs]) := by
  have M1 := M.push (.dT ks xs)
  have h1 := M1.ix_st hx
  have h2 := M1.ix_st hy
  have hl := lenT_ev (last_at s (.dT ks xs))
  obtain ⟨G, z1, z2⟩ := zip_ev M1 hx hy (ms := aCons (DE.e2 ixD (eVar 6) (eVar 2)) (aCons (DE.e2 ixD (eVar 6) (eVar 3)) aNil)) (env := DU l s.length x y w v8 v9) (by simp [DU, bodyF, env0, sSeq, sSet, sIf, sRet, sRetN, sExpr, sPass, sRaise, sBad, eVar, eC, eTup, eLst, aCons, aNil, eCall, ar, DE.e2, eAnd, eOr, eNot, eIf, eNeg, tVal, tAndM, tOrM, tNotM, tYesM, eChain, isiD, tyOf, isTy, eM1, oNone, oSome, eCut, R.bind_ok, R.bind_exc, R.bindS_ok, R.bindS_exc, RS.bind_next, RS.bind_ret, RS.bind_exc, LINE, ofS_inj, ofS_ok, eqD_int, eqD_ss, inD3_ss, inD2_ss, h1, h2])
  rw [List.map_map]
  refine eLc_g (fun k => pD (t x k) (t y k)) _ (List.range l.length) G z1 z2 (by have := M.m4; simp; omega) fun k hk => ⟨_, rfl, ?_⟩
  have hk : k < l.length := List.mem_range.mp hk
  rw [get2_ev (y := pD (t x k) (t y k)) (z := .int (ks.length : Nat)) (last_at s (.dT ks xs)) rfl rfl (by simp [DU, bodyF, env0, sSeq, sSet, sIf, sRet, sRetN, sExpr, sPass, sRaise, sBad, eVar, eC, eTup, eLst, aCons, aNil, eCall, ar, DE.e2, eAnd, eOr, eNot, eIf, eNeg, tVal, tAndM, tOrM, tNotM, tYesM, eChain, isiD, tyOf, isTy, eM1, oNone, oSome, eCut, R.bind_ok, R.bind_exc, R.bindS_ok, R.bindS_exc, RS.bind_next, RS.bind_ret, RS.bind_exc, LINE, ofS_inj, ofS_ok, eqD_int, eqD_ss, inD3_ss, inD2_ss, wipeE, hl]) (pD_key _ _), F.gv (M.ht x k hx hk) (M.ht y k hy hk)]
  rfl
theorem due_test (F : Far n t e l.length ks xs) {r x y : Nat} (hx : x < n) (hy : y < n) (hd : IsD t e l.length r x y) : getT ks xs (kk x y) = some (.int (r : Nat)) ∧ r ≤ ks.length := by
  rcases F.get x y hx hy with ⟨L, h1, h2, h⟩ | ⟨h1, _⟩
  · obtain rfl := h1.uniq hd
    exact ⟨h, h2⟩
  · exact absurd hd (h1 r)
theorem due_while (M : Mach n l.length t e s) (hL : LetF l) (F : Far n t e l.length ks xs) {a b L : Nat} (hL2 : L ≤ 200) : ∀ (r x y : Nat) (w : List Nat) (v8 v9 : Option D), x < n → y < n → IsD t e l.length r x y → w.length + r = L →
    (∀ v, LeastL t e l.length r x y v → LeastL t e l.length L a b (w ++ v)) →
    ∃ x' y' w' z8 z9, sWhile (tVal (DE.e2 gtD (DE.e2 dgetT (eVar 4) (eTup (aCons (eVar 2) (aCons (eVar 3) aNil)))) (eC (.int 0))))
      (sSeq (sSet 8 (eLc (itZip (aCons (DE.e2 ixD (eVar 6) (eVar 2)) (aCons (DE.e2 ixD (eVar 6) (eVar 3)) aNil))) (.one 10) [10] tYesM (eGet2 (eVar 4) (eVar 10) (eCall lenTD (aCons (eVar 4) aNil)))))
      (sSeq (sSet 9 (eLI (eVar 8) (DE.e2 subD (DE.e2 dgetT (eVar 4) (eTup (aCons (eVar 2) (aCons (eVar 3) aNil)))) (eC (.int 1)))))
      (sSeq (sSet 5 (DE.e2 addD (eVar 5) (DE.e2 ixD (eVar 0) (eVar 9))))
      (sPar 2 3 (aCons (DE.e2 ixD (DE.e2 ixD (eVar 6) (eVar 2)) (eVar 9)) (aCons (DE.e2 ixD (DE.e2 ixD (eVar 6) (eVar 3)) (eVar 9)) aNil))))))
      (DU l s.length x y w v8 v9) (s ++ [.dT ks xs]) = .next (DU l s.length x' y' w' z8 z9) (s ++ [.dT ks xs]) ∧ LeastL t e l.length L a b w' := by
  intro r
  induction r with
  | zero =>
    intro x y w v8 v9 hx hy hd hw hk
    obtain ⟨hg, _⟩ := due_test F hx hy hd
    have hdg := dget_ev (y := pD x y) (last_at s (.dT ks xs)) (pD_key x y) hg
    simp only [pD] at hdg
    refine ⟨x, y, w, v8, v9, ?_, ?_⟩
    · rw [sWhile_eq]
      have hc : tVal (DE.e2 gtD (DE.e2 dgetT (eVar 4) (eTup (aCons (eVar 2) (aCons (eVar 3) aNil)))) (eC (.int 0))) (DU l s.length x y w v8 v9) (s ++ [.dT ks xs]) = .ok false (s ++ [.dT ks xs]) := by
        simp [DU, bodyF, env0, sSeq, sSet, sIf, sRet, sRetN, sExpr, sPass, sRaise, sBad, eVar, eC, eTup, eLst, aCons, aNil, eCall, ar, DE.e2, eAnd, eOr, eNot, eIf, eNeg, tVal, tAndM, tOrM, tNotM, tYesM, eChain, isiD, tyOf, isTy, eM1, oNone, oSome, eCut, R.bind_ok, R.bind_exc, R.bindS_ok, R.bindS_exc, RS.bind_next, RS.bind_ret, RS.bind_exc, LINE, ofS_inj, ofS_ok, eqD_int, eqD_ss, inD3_ss, inD2_ss, hdg, gtD, cmpI]
      rw [hc]
      rfl
    · have := hk [] (least_zero (IsD.zero.mp hd))
      rwa [List.append_nil] at this
  | succ r ih =>
    intro x y w v8 v9 hx hy hd hw hk
    obtain ⟨hg, hle⟩ := due_test F hx hy hd
    have hdg := dget_ev (y := pD x y) (last_at s (.dT ks xs)) (pD_key x y) hg
    simp only [pD] at hdg
    have hgo := due_goals M F hx hy (w := w) (v8 := v8) (v9 := v9)
    have hmem : (r : Int) ∈ (List.range l.length).map fun k => ((gvD (getT ks xs (kk (t x k) (t y k))) ks.length : Nat) : Int) := by
      obtain ⟨_, k, hkm, hk2⟩ := IsD.succ.mp hd
      exact List.mem_map.mpr ⟨k, List.mem_range.mpr hkm, by have := (F.eq (M.ht x k hx hkm) (M.ht y k hy hkm) (by omega)).mpr hk2; omega⟩
    obtain ⟨j, hj⟩ := atInt_some hmem
    obtain ⟨hj1, hj2⟩ := atInt_ok hj
    have hli := lindex_ev (s := s ++ [.dT ks xs]) hj
    have hjm : j < l.length := by
      have := (List.getElem?_eq_some_iff.mp hj1).1
      simpa using this
    have hjd : IsD t e l.length r (t x j) (t y j) := by
      rw [rng_get _ hjm] at hj1
      exact (F.eq (M.ht x j hx hjm) (M.ht y j hy hjm) (by omega)).mp (by have := Option.some.inj hj1; omega)
    have hjn : ∀ k, k < j → ¬ IsD t e l.length r (t x k) (t y k) := fun k hkj hk2 => by
      have hkm : k < l.length := by omega
      refine hj2 k _ hkj (rng_get _ hkm) ?_
      have := (F.eq (M.ht x k hx hkm) (M.ht y k hy hkm) (by omega)).mpr hk2
      omega
    generalize (List.range l.length).map (fun k => ((gvD (getT ks xs (kk (t x k) (t y k))) ks.length : Nat) : Int)) = gs at hgo hli
    obtain ⟨x', y', w', z8, z9, e1, e2⟩ := ih (t x j) (t y j) (w ++ [j]) (some (.lst (gs.map D.int))) (some (.int (j : Nat))) (M.ht x j hx hjm) (M.ht y j hy hjm) hjd (by simp; omega) (fun v hv => by
      rw [List.append_assoc]
      exact hk _ (least_step M.m4 hd hjm hjn hv))
    refine ⟨x', y', w', z8, z9, ?_, e2⟩
    rw [sWhile_eq]
    have hc : tVal (DE.e2 gtD (DE.e2 dgetT (eVar 4) (eTup (aCons (eVar 2) (aCons (eVar 3) aNil)))) (eC (.int 0))) (DU l s.length x y w v8 v9) (s ++ [.dT ks xs]) = .ok true (s ++ [.dT ks xs]) := by
      have : (0 : Int) < (r : Int) + 1 := by omega
      simp [DU, bodyF, env0, sSeq, sSet, sIf, sRet, sRetN, sExpr, sPass, sRaise, sBad, eVar, eC, eTup, eLst, aCons, aNil, eCall, ar, DE.e2, eAnd, eOr, eNot, eIf, eNeg, tVal, tAndM, tOrM, tNotM, tYesM, eChain, isiD, tyOf, isTy, eM1, oNone, oSome, eCut, R.bind_ok, R.bind_exc, R.bindS_ok, R.bindS_exc, RS.bind_next, RS.bind_ret, RS.bind_exc, LINE, ofS_inj, ofS_ok, eqD_int, eqD_ss, inD3_ss, inD2_ss, hdg, gtD, cmpI, this]
    rw [hc]
    simp only [R.bindS_ok, if_true]
    have M1 := M.push (.dT ks xs)
    have hs1 := M1.ix_st hx
    have hs2 := M1.ix_st hy
    have hr1 := M1.ix_row hx hjm
    have hr2 := M1.ix_row hy hjm
    have hlx := let_ixN hL (s ++ [.dT ks xs]) hjm
    have hadd : addD (.str (txt l w)) (.str ⟨#[lc l j]⟩) (s ++ [.dT ks xs]) = .ok (.str (txt l (w ++ [j]))) (s ++ [.dT ks xs]) := by
      rw [addD_str (by rw [txt_len, sg_len]; omega), txt_snoc]
    have hsub : ((r + 1 : Nat) : Int) - 1 = r := by omega
    have step : (sSeq (sSet 8 (eLc (itZip (aCons (DE.e2 ixD (eVar 6) (eVar 2)) (aCons (DE.e2 ixD (eVar 6) (eVar 3)) aNil))) (.one 10) [10] tYesM (eGet2 (eVar 4) (eVar 10) (eCall lenTD (aCons (eVar 4) aNil)))))
      (sSeq (sSet 9 (eLI (eVar 8) (DE.e2 subD (DE.e2 dgetT (eVar 4) (eTup (aCons (eVar 2) (aCons (eVar 3) aNil)))) (eC (.int 1)))))
      (sSeq (sSet 5 (DE.e2 addD (eVar 5) (DE.e2 ixD (eVar 0) (eVar 9))))
      (sPar 2 3 (aCons (DE.e2 ixD (DE.e2 ixD (eVar 6) (eVar 2)) (eVar 9)) (aCons (DE.e2 ixD (DE.e2 ixD (eVar 6) (eVar 3)) (eVar 9)) aNil))))))
      (DU l s.length x y w v8 v9) (s ++ [.dT ks xs]) = .next (DU l s.length (t x j) (t y j) (w ++ [j]) (some (.lst (gs.map D.int))) (some (.int (j : Nat)))) (s ++ [.dT ks xs]) := by
      rw [seq_to (env1 := DU l s.length x y w (some (.lst (gs.map D.int))) v9) (s1 := s ++ [.dT ks xs]) (by unfold sSet; rw [hgo]; rfl)]
      generalize gs.map D.int = gl at hli
      generalize ((r + 1 : Nat) : Int) = r1 at hdg hsub
      rw [seq_to (env1 := DU l s.length x y w (some (.lst gl)) (some (.int (j : Nat)))) (s1 := s ++ [.dT ks xs]) (by simp [DU, bodyF, env0, sSeq, sSet, sIf, sRet, sRetN, sExpr, sPass, sRaise, sBad, eVar, eC, eTup, eLst, aCons, aNil, eCall, ar, DE.e2, eAnd, eOr, eNot, eIf, eNeg, tVal, tAndM, tOrM, tNotM, tYesM, eChain, isiD, tyOf, isTy, eM1, oNone, oSome, eCut, R.bind_ok, R.bind_exc, R.bindS_ok, R.bindS_exc, RS.bind_next, RS.bind_ret, RS.bind_exc, LINE, ofS_inj, ofS_ok, eqD_int, eqD_ss, inD3_ss, inD2_ss, eLI, hdg, subD_int, hsub, hli])]
      rw [seq_to (env1 := DU l s.length x y (w ++ [j]) (some (.lst gl)) (some (.int (j : Nat)))) (s1 := s ++ [.dT ks xs]) (by simp [DU, bodyF, env0, sSeq, sSet, sIf, sRet, sRetN, sExpr, sPass, sRaise, sBad, eVar, eC, eTup, eLst, aCons, aNil, eCall, ar, DE.e2, eAnd, eOr, eNot, eIf, eNeg, tVal, tAndM, tOrM, tNotM, tYesM, eChain, isiD, tyOf, isTy, eM1, oNone, oSome, eCut, R.bind_ok, R.bind_exc, R.bindS_ok, R.bindS_exc, RS.bind_next, RS.bind_ret, RS.bind_exc, LINE, ofS_inj, ofS_ok, eqD_int, eqD_ss, inD3_ss, inD2_ss, hlx, hadd])]
      simp [DU, bodyF, env0, sSeq, sSet, sIf, sRet, sRetN, sExpr, sPass, sRaise, sBad, eVar, eC, eTup, eLst, aCons, aNil, eCall, ar, DE.e2, eAnd, eOr, eNot, eIf, eNeg, tVal, tAndM, tOrM, tNotM, tYesM, eChain, isiD, tyOf, isTy, eM1, oNone, oSome, eCut, R.bind_ok, R.bind_exc, R.bindS_ok, R.bindS_exc, RS.bind_next, RS.bind_ret, RS.bind_exc, LINE, ofS_inj, ofS_ok, eqD_int, eqD_ss, inD3_ss, inD2_ss, sPar, hs1, hs2, hr1, hr2]
    rw [step]
    exact e1
theorem pureRet_ok {fn : Fn} {ds : List D} {s s2 : Store} {d : D} (h : fn ds s = .ok d (s ++ s2)) (hd : pureD d = true) : pureRet fn ds s = .ok d s := by
  unfold pureRet
  rw [h]
  simp only [frz, sub_pure _ d hd]
  rw [if_pos (by simp)]
theorem pureRet_exc {fn : Fn} {ds : List D} {s : Store} {c : Nat} (h : fn ds s = .exc c s) : pureRet fn ds s = .exc c s := by
  unfold pureRet
  rw [h]
  simp only
  rw [if_pos (by simp)]
theorem ev_due (M : Mach n l.length t e s) (hL : LetF l) (k : Nat) {a b : Nat} (ha : a < n) (hb : b < n) :
    (∃ w, Least t e l.length a b w ∧ w.length ≤ 200 ∧ fns (k + 2) i__law_due [.str l, MD, .int (a : Nat), .int (b : Nat)] s = .ok (.str (txt l w)) s) ∨ (Same t e l.length a b ∧ fns (k + 2) i__law_due [.str l, MD, .int (a : Nat), .int (b : Nat)] s = .ok .non s) := by
  obtain ⟨ks, xs, hf, F⟩ := ev_far M k
  rw [e__law_due]
  have p1 : sAsg (eVar 1) (gTupD 2 (gMore (gVar 6) (gMore (gVar 7) gNone))) (env0 11 [.str l, MD, .int (a : Nat), .int (b : Nat)]) s = .next [some (.str l), some MD, some (.int (a : Nat)), some (.int (b : Nat)), none, none, some (.ref 0), some (.ref 1), none, none, none] s := by
    simp [bodyF, env0, sSeq, sSet, sIf, sRet, sRetN, sExpr, sPass, sRaise, sBad, eVar, eC, eTup, eLst, aCons, aNil, eCall, ar, DE.e2, eAnd, eOr, eNot, eIf, eNeg, tVal, tAndM, tOrM, tNotM, tYesM, eChain, isiD, tyOf, isTy, eM1, oNone, oSome, eCut, R.bind_ok, R.bind_exc, R.bindS_ok, R.bindS_exc, RS.bind_next, RS.bind_ret, RS.bind_exc, LINE, ofS_inj, ofS_ok, eqD_int, eqD_ss, inD3_ss, inD2_ss, sAsg, MD, gTupD, gMore, gVar, gNone]
  have p2 : sSet 4 (eCall (ar 2 (fns (k + 1) i__law_far)) (aCons (eVar 6) (aCons (eVar 7) aNil))) [some (.str l), some MD, some (.int (a : Nat)), some (.int (b : Nat)), none, none, some (.ref 0), some (.ref 1), none, none, none] s = .next [some (.str l), some MD, some (.int (a : Nat)), some (.int (b : Nat)), some (.ref s.length), none, some (.ref 0), some (.ref 1), none, none, none] (s ++ [.dT ks xs]) := by
    generalize MD = MM
    simp [bodyF, env0, sSeq, sSet, sIf, sRet, sRetN, sExpr, sPass, sRaise, sBad, eVar, eC, eTup, eLst, aCons, aNil, eCall, ar, DE.e2, eAnd, eOr, eNot, eIf, eNeg, tVal, tAndM, tOrM, tNotM, tYesM, eChain, isiD, tyOf, isTy, eM1, oNone, oSome, eCut, R.bind_ok, R.bind_exc, R.bindS_ok, R.bindS_exc, RS.bind_next, RS.bind_ret, RS.bind_exc, LINE, ofS_inj, ofS_ok, eqD_int, eqD_ss, inD3_ss, inD2_ss, hf]
  have hin := inT_ev true (y := pD a b) (last_at s (.dT ks xs)) (pD_key a b)
  simp only [pD] at hin
  rcases F.get a b ha hb with ⟨L, h1, h2, h3⟩ | ⟨h1, h3⟩
  · left
    have hlen := F.len
    obtain ⟨x', y', w', z8, z9, e1, e2⟩ := due_while M hL F (a := a) (b := b) (L := L) (by omega) L a b [] none none ha hb h1 (by simp) (fun v hv => hv)
    refine ⟨w', e2.1, by rw [e2.2]; omega, pureRet_ok (s2 := [.dT ks xs]) (body_ret ?_) rfl⟩
    rw [m__law_due, seq_to p1, seq_to p2]
    rw [h3] at hin
    rw [seq_to (env1 := [some (.str l), some MD, some (.int (a : Nat)), some (.int (b : Nat)), some (.ref s.length), none, some (.ref 0), some (.ref 1), none, none, none]) (s1 := s ++ [.dT ks xs]) (by
      generalize MD = MM
      simp [bodyF, env0, sSeq, sSet, sIf, sRet, sRetN, sExpr, sPass, sRaise, sBad, eVar, eC, eTup, eLst, aCons, aNil, eCall, ar, DE.e2, eAnd, eOr, eNot, eIf, eNeg, tVal, tAndM, tOrM, tNotM, tYesM, eChain, isiD, tyOf, isTy, eM1, oNone, oSome, eCut, R.bind_ok, R.bind_exc, R.bindS_ok, R.bindS_exc, RS.bind_next, RS.bind_ret, RS.bind_exc, LINE, ofS_inj, ofS_ok, eqD_int, eqD_ss, inD3_ss, inD2_ss, hin])]
    rw [seq_to (env1 := DU l s.length a b [] none none) (s1 := s ++ [.dT ks xs]) (by
      have : Str.ofString "" = txt l [] := by rw [empty_str]; rfl
      unfold DU
      rw [← this]
      generalize MD = MM
      simp [bodyF, env0, sSeq, sSet, sIf, sRet, sRetN, sExpr, sPass, sRaise, sBad, eVar, eC, eTup, eLst, aCons, aNil, eCall, ar, DE.e2, eAnd, eOr, eNot, eIf, eNeg, tVal, tAndM, tOrM, tNotM, tYesM, eChain, isiD, tyOf, isTy, eM1, oNone, oSome, eCut, R.bind_ok, R.bind_exc, R.bindS_ok, R.bindS_exc, RS.bind_next, RS.bind_ret, RS.bind_exc, LINE, ofS_inj, ofS_ok, eqD_int, eqD_ss, inD3_ss, inD2_ss])]
    rw [seq_to e1]
    unfold DU
    generalize txt l w' = W
    generalize MD = MM
    simp [bodyF, env0, sSeq, sSet, sIf, sRet, sRetN, sExpr, sPass, sRaise, sBad, eVar, eC, eTup, eLst, aCons, aNil, eCall, ar, DE.e2, eAnd, eOr, eNot, eIf, eNeg, tVal, tAndM, tOrM, tNotM, tYesM, eChain, isiD, tyOf, isTy, eM1, oNone, oSome, eCut, R.bind_ok, R.bind_exc, R.bindS_ok, R.bindS_exc, RS.bind_next, RS.bind_ret, RS.bind_exc, LINE, ofS_inj, ofS_ok, eqD_int, eqD_ss, inD3_ss, inD2_ss]
  · right
    refine ⟨same_of h1, pureRet_ok (s2 := [.dT ks xs]) (body_ret ?_) rfl⟩
    rw [m__law_due, seq_to p1, seq_to p2]
    rw [h3] at hin
    apply seq_stop
    generalize MD = MM
    simp [bodyF, env0, sSeq, sSet, sIf, sRet, sRetN, sExpr, sPass, sRaise, sBad, eVar, eC, eTup, eLst, aCons, aNil, eCall, ar, DE.e2, eAnd, eOr, eNot, eIf, eNeg, tVal, tAndM, tOrM, tNotM, tYesM, eChain, isiD, tyOf, isTy, eM1, oNone, oSome, eCut, R.bind_ok, R.bind_exc, R.bindS_ok, R.bindS_exc, RS.bind_next, RS.bind_ret, RS.bind_exc, LINE, ofS_inj, ofS_ok, eqD_int, eqD_ss, inD3_ss, inD2_ss, hin]
end
end G
/-! K6E: parting is the search -/
namespace G
open PySem PySem.Spec PyProof.Rows L2 DE M6
def kW (t : Nat → Nat → Nat) (a b : Nat) (w : List Nat) : List Key := kk (go t a w) (go t b w)
def pW (t : Nat → Nat → Nat) (a b : Nat) (w : List Nat) : D := pD (go t a w) (go t b w)
theorem kW_key (t : Nat → Nat → Nat) (a b : Nat) (w : List Nat) : tupKey (pW t a b w) = some (kW t a b w) := pD_key _ _
theorem kW_inj {t : Nat → Nat → Nat} {a b : Nat} {u v : List Nat} : kW t a b u = kW t a b v ↔ pr t a b u = pr t a b v := by
  unfold kW pr
  rw [kk_inj, Prod.mk.injEq]
theorem kW_mem {t : Nat → Nat → Nat} {a b : Nat} {row : List (List Nat)} {v : List Nat} : kW t a b v ∈ row.map (kW t a b) ↔ pr t a b v ∈ row.map (pr t a b) := by
  simp only [List.mem_map, kW_inj]
theorem kW_nd {t : Nat → Nat → Nat} {a b : Nat} : ∀ {row : List (List Nat)}, (row.map (pr t a b)).Nodup → (row.map (kW t a b)).Nodup
  | [], _ => List.nodup_nil
  | w :: row, h => by
    rw [List.map_cons, List.nodup_cons] at h ⊢
    exact ⟨fun q => h.1 (kW_mem.mp q), kW_nd h.2⟩
theorem getT_row {t : Nat → Nat → Nat} {a b : Nat} (f : List Nat → D) : ∀ {row : List (List Nat)} {w : List Nat}, (row.map (pr t a b)).Nodup → w ∈ row → getT (row.map (kW t a b)) (row.map f) (kW t a b w) = some (f w)
  | [], _, _, h => by cases h
  | v :: row, w, hn, h => by
    rw [List.map_cons, List.map_cons]
    rw [List.map_cons, List.nodup_cons] at hn
    unfold getT
    by_cases q : kW t a b v = kW t a b w
    · rw [if_pos q]
      rcases List.mem_cons.mp h with rfl | h
      · rfl
      · exact absurd (List.mem_map.mpr ⟨w, h, (kW_inj.mp q).symm⟩) hn.1
    · rw [if_neg q]
      rcases List.mem_cons.mp h with rfl | h
      · exact absurd rfl q
      · exact getT_row f hn.2 h
theorem inT_mem (neg : Bool) {s : Store} {l : Nat} {ks : List (List Key)} {xs : List D} {y : D} {k : List Key} (h : s[l]? = some (.dT ks xs)) (hk : tupKey y = some k) (hl : ks.length = xs.length) :
    (k ∈ ks → inTD neg y (.ref l) s = .ok (.bl (!neg)) s) ∧ (k ∉ ks → inTD neg y (.ref l) s = .ok (.bl neg) s) := by
  rw [inT_ev neg h hk]
  refine ⟨fun q => ?_, fun q => ?_⟩
  · obtain ⟨d, hd⟩ := getT_yes hl q
    rw [hd]; cases neg <;> rfl
  · rw [getT_no q]; cases neg <;> rfl
section
variable {n : Nat} {l : Str} {t : Nat → Nat → Nat} {e : Nat → Bool} {s : Store} {a b : Nat}
theorem Mach.app {m : Nat} (M : Mach n m t e s) (r : Store) : Mach n m t e (s ++ r) := M.mono fun i hi => List.getElem?_append_left (by have := M.big; omega)
def cW (l : Str) (t : Nat → Nat → Nat) (a b : Nat) (row : List (List Nat)) : Cell := .dT (row.map (kW t a b)) (row.map fun w => .str (txt l w))
def cR (t : Nat → Nat → Nat) (a b : Nat) (row : List (List Nat)) : Cell := .lst (row.map (pW t a b))
def PE6 (l : Str) (c a b i : Nat) (v9 v10 v11 v12 v13 : Option D) : DE.Env := [some (.str l), some MD, some (.int (a : Nat)), some (.int (b : Nat)), some (.ref c), some (.ref (c + 1)), some (.int (i : Nat)), some (.ref 0), some (.ref 1), v9, v10, v11, v12, v13]
theorem two_0 (s : Store) (x y : Cell) : (s ++ [x, y])[s.length]? = some x := by simp
theorem two_1 (s : Store) (x y : Cell) : (s ++ [x, y])[s.length + 1]? = some y := by simp
theorem two_s0 (s : Store) (x y z : Cell) : (s ++ [x, y]).set s.length z = s ++ [z, y] := by simp
theorem two_s1 (s : Store) (x y z : Cell) : (s ++ [x, y]).set (s.length + 1) z = s ++ [x, z] := by simp
theorem numS_get {l : Str} {j : Nat} {x : D} (h : (numS l)[j]? = some x) : j < l.length ∧ x = .tup [.int (j : Nat), .str ⟨#[lc l j]⟩] := by
  unfold numS at h
  rw [List.getElem?_map] at h
  by_cases hj : j < l.cps.size
  · rw [List.getElem?_range hj] at h
    exact ⟨hj, by simpa [lc] using h.symm⟩
  · rw [List.getElem?_eq_none (by simpa using hj)] at h; cases h
theorem app_ev {s : Store} {c : Nat} {xs : List D} {d : D} (h : s[c]? = some (.lst xs)) (hl : xs.length < 1000) : isLst s (.ref c) = true ∧ apD (.ref c) d s = .ok .non (s.set c (.lst (xs ++ [d]))) := by
  constructor
  · simp [isLst, h]
  · unfold apD
    simp only [h]
    rw [if_pos (Nat.lt_of_lt_of_le hl (by decide))]
/-- one letter of a pair's turn -/
theorem part_step (M : Mach n l.length t e s) (hL : LetF l) (ha : a < n) (hb : b < n) {i p : Nat} {row : List (List Nat)} {u : List Nat} (hu : row[i]? = some u) (hp : p < l.length) (B : BI t e l.length a b row i p (i + 1)) (v13 : Option D) :
    ∃ row' z13, (sSeq (sSet 13 (eTup (aCons (DE.e2 ixD (DE.e2 ixD (eVar 7) (eVar 9)) (eVar 11)) (aCons (DE.e2 ixD (DE.e2 ixD (eVar 7) (eVar 10)) (eVar 11)) aNil))))
      (sIf (tVal (DE.e2 (inTD true) (eVar 13) (eVar 4)))
      (sSeq (sAsg (DE.e2 addD (DE.e2 dgetT (eVar 4) (DE.e2 ixD (eVar 5) (eVar 6))) (eVar 12)) (gPutT (eVar 4) (eVar 13)))
      (sExpr (eLM apD (eVar 5) (eVar 13)))) sPass))
      (PE6 l s.length a b i (some (.int (go t a u : Nat))) (some (.int (go t b u : Nat))) (some (.int (p : Nat))) (some (.str ⟨#[lc l p]⟩)) v13) (s ++ [cW l t a b row, cR t a b row]) =
      .next (PE6 l s.length a b i (some (.int (go t a u : Nat))) (some (.int (go t b u : Nat))) (some (.int (p : Nat))) (some (.str ⟨#[lc l p]⟩)) z13) (s ++ [cW l t a b row', cR t a b row']) ∧ row'[i]? = some u ∧ BI t e l.length a b row' i (p + 1) (i + 1) := by
  have hul : u ∈ row := List.mem_of_getElem? hu
  have hx : go t a u < n := go_lt M.ht u a ha (B.dg u hul)
  have hy : go t b u < n := go_lt M.ht u b hb (B.dg u hul)
  have hrl := B.row_len M.ht ha hb
  have h14 := Nat.mul_le_mul M.n14 M.n14
  have hlen := B.len i u hu
  have hil := (List.getElem?_eq_some_iff.mp hu).1
  have hW := two_0 s (cW l t a b row) (cR t a b row)
  have hR := two_1 s (cW l t a b row) (cR t a b row)
  have hst := two_s0 s (cW l t a b row) (cR t a b row)
  have M1 := M.app [cW l t a b row, cR t a b row]
  have i1 := M1.ix_st hx
  have i2 := M1.ix_st hy
  have i3 := M1.ix_row hx hp
  have i4 := M1.ix_row hy hp
  have hpw : D.tup [.int (t (go t a u) p : Nat), .int (t (go t b u) p : Nat)] = pW t a b (u ++ [p]) := by unfold pW pD; rw [go_snoc, go_snoc]
  have hin2 := inT_mem true (y := pW t a b (u ++ [p])) hW (kW_key t a b (u ++ [p])) (by simp)
  have e1 : sSet 13 (eTup (aCons (DE.e2 ixD (DE.e2 ixD (eVar 7) (eVar 9)) (eVar 11)) (aCons (DE.e2 ixD (DE.e2 ixD (eVar 7) (eVar 10)) (eVar 11)) aNil)))
      (PE6 l s.length a b i (some (.int (go t a u : Nat))) (some (.int (go t b u : Nat))) (some (.int (p : Nat))) (some (.str ⟨#[lc l p]⟩)) v13) (s ++ [cW l t a b row, cR t a b row]) =
      .next (PE6 l s.length a b i (some (.int (go t a u : Nat))) (some (.int (go t b u : Nat))) (some (.int (p : Nat))) (some (.str ⟨#[lc l p]⟩)) (some (pW t a b (u ++ [p])))) (s ++ [cW l t a b row, cR t a b row]) := by
    rw [← hpw]
    unfold PE6
    generalize MD = MM
    simp [bodyF, env0, sSeq, sSet, sIf, sRet, sRetN, sExpr, sPass, sRaise, sBad, eVar, eC, eTup, eLst, aCons, aNil, eCall, ar, DE.e2, eAnd, eOr, eNot, eIf, eNeg, tVal, tAndM, tOrM, tNotM, tYesM, eChain, isiD, tyOf, isTy, eM1, oNone, oSome, eCut, R.bind_ok, R.bind_exc, R.bindS_ok, R.bindS_exc, RS.bind_next, RS.bind_ret, RS.bind_exc, LINE, ofS_inj, ofS_ok, eqD_int, eqD_ss, inD3_ss, inD2_ss, i1, i2, i3, i4]
  rw [seq_to e1]
  by_cases q : pr t a b (u ++ [p]) ∈ row.map (pr t a b)
  · refine ⟨row, some (pW t a b (u ++ [p])), ?_, hu, B.seen M.m4 hu q⟩
    have hin := hin2.1 (kW_mem.mpr q)
    unfold PE6
    generalize MD = MM
    simp [bodyF, env0, sSeq, sSet, sIf, sRet, sRetN, sExpr, sPass, sRaise, sBad, eVar, eC, eTup, eLst, aCons, aNil, eCall, ar, DE.e2, eAnd, eOr, eNot, eIf, eNeg, tVal, tAndM, tOrM, tNotM, tYesM, eChain, isiD, tyOf, isTy, eM1, oNone, oSome, eCut, R.bind_ok, R.bind_exc, R.bindS_ok, R.bindS_exc, RS.bind_next, RS.bind_ret, RS.bind_exc, LINE, ofS_inj, ofS_ok, eqD_int, eqD_ss, inD3_ss, inD2_ss, hin]
  · refine ⟨row ++ [u ++ [p]], some (pW t a b (u ++ [p])), ?_, get_app_l hu, B.more M.m4 hp (by omega) hu q⟩
    have hin := hin2.2 (fun z => q (kW_mem.mp z))
    have hix := ix_ref hR (i := i) (d := pW t a b u) (by rw [List.getElem?_map, hu]; rfl)
    have hdg := dget_ev hW (kW_key t a b u) (getT_row (fun w => .str (txt l w)) B.nd hul)
    have hadd : ∀ s, addD (.str (txt l u)) (.str ⟨#[lc l p]⟩) s = .ok (.str (txt l (u ++ [p]))) s := fun s => by rw [addD_str (by rw [txt_len, sg_len]; omega), txt_snoc]
    have hput := put_ev (d := .str (txt l (u ++ [p]))) (env := PE6 l s.length a b i (some (.int (go t a u : Nat))) (some (.int (go t b u : Nat))) (some (.int (p : Nat))) (some (.str ⟨#[lc l p]⟩)) (some (pW t a b (u ++ [p])))) (mo := eVar 4) (mi := eVar 13) hW rfl rfl (kW_key t a b (u ++ [p])) (kW_nd B.nd) (by simp; omega) (by simp) (fun z => q (kW_mem.mp z))
    rw [hst] at hput
    have hW2 : Cell.dT (row.map (kW t a b) ++ [kW t a b (u ++ [p])]) ((row.map fun w => D.str (txt l w)) ++ [D.str (txt l (u ++ [p]))]) = cW l t a b (row ++ [u ++ [p]]) := by
      unfold cW
      rw [List.map_append, List.map_append]
      rfl
    rw [hW2] at hput
    have hR2 := two_1 s (cW l t a b (row ++ [u ++ [p]])) (cR t a b row)
    obtain ⟨a1, a2⟩ := app_ev (d := pW t a b (u ++ [p])) hR2 (by simp; omega)
    rw [two_s1] at a2
    have hR3 : Cell.lst (row.map (pW t a b) ++ [pW t a b (u ++ [p])]) = cR t a b (row ++ [u ++ [p]]) := by
      unfold cR
      rw [List.map_append]
      rfl
    rw [hR3] at a2
    have hc : tVal (DE.e2 (inTD true) (eVar 13) (eVar 4)) (PE6 l s.length a b i (some (.int (go t a u : Nat))) (some (.int (go t b u : Nat))) (some (.int (p : Nat))) (some (.str ⟨#[lc l p]⟩)) (some (pW t a b (u ++ [p])))) (s ++ [cW l t a b row, cR t a b row]) = .ok true (s ++ [cW l t a b row, cR t a b row]) := by
      unfold PE6
      generalize MD = MM
      simp [bodyF, env0, sSeq, sSet, sIf, sRet, sRetN, sExpr, sPass, sRaise, sBad, eVar, eC, eTup, eLst, aCons, aNil, eCall, ar, DE.e2, eAnd, eOr, eNot, eIf, eNeg, tVal, tAndM, tOrM, tNotM, tYesM, eChain, isiD, tyOf, isTy, eM1, oNone, oSome, eCut, R.bind_ok, R.bind_exc, R.bindS_ok, R.bindS_exc, RS.bind_next, RS.bind_ret, RS.bind_exc, LINE, ofS_inj, ofS_ok, eqD_int, eqD_ss, inD3_ss, inD2_ss, hin]
    have hd : sAsg (DE.e2 addD (DE.e2 dgetT (eVar 4) (DE.e2 ixD (eVar 5) (eVar 6))) (eVar 12)) (gPutT (eVar 4) (eVar 13)) (PE6 l s.length a b i (some (.int (go t a u : Nat))) (some (.int (go t b u : Nat))) (some (.int (p : Nat))) (some (.str ⟨#[lc l p]⟩)) (some (pW t a b (u ++ [p])))) (s ++ [cW l t a b row, cR t a b row]) =
        .next (PE6 l s.length a b i (some (.int (go t a u : Nat))) (some (.int (go t b u : Nat))) (some (.int (p : Nat))) (some (.str ⟨#[lc l p]⟩)) (some (pW t a b (u ++ [p])))) (s ++ [cW l t a b (row ++ [u ++ [p]]), cR t a b row]) := by
      generalize gPutT (eVar 4) (eVar 13) = g at hput
      unfold PE6 at hput ⊢
      generalize MD = MM at hput ⊢
      simp [bodyF, env0, sSeq, sSet, sIf, sRet, sRetN, sExpr, sPass, sRaise, sBad, eVar, eC, eTup, eLst, aCons, aNil, eCall, ar, DE.e2, eAnd, eOr, eNot, eIf, eNeg, tVal, tAndM, tOrM, tNotM, tYesM, eChain, isiD, tyOf, isTy, eM1, oNone, oSome, eCut, R.bind_ok, R.bind_exc, R.bindS_ok, R.bindS_exc, RS.bind_next, RS.bind_ret, RS.bind_exc, LINE, ofS_inj, ofS_ok, eqD_int, eqD_ss, inD3_ss, inD2_ss, sAsg, hix, hdg, hadd, hput]
    show (tVal (DE.e2 (inTD true) (eVar 13) (eVar 4)) _ _).bindS _ = _
    rw [hc]
    simp only [R.bindS_ok, if_true]
    rw [seq_to hd]
    unfold PE6
    generalize MD = MM
    simp [bodyF, env0, sSeq, sSet, sIf, sRet, sRetN, sExpr, sPass, sRaise, sBad, eVar, eC, eTup, eLst, aCons, aNil, eCall, ar, DE.e2, eAnd, eOr, eNot, eIf, eNeg, tVal, tAndM, tOrM, tNotM, tYesM, eChain, isiD, tyOf, isTy, eM1, oNone, oSome, eCut, R.bind_ok, R.bind_exc, R.bindS_ok, R.bindS_exc, RS.bind_next, RS.bind_ret, RS.bind_exc, LINE, ofS_inj, ofS_ok, eqD_int, eqD_ss, inD3_ss, inD2_ss, eLM, a1, a2]
/-- the letters of a pair's turn -/
theorem part_for (M : Mach n l.length t e s) (hL : LetF l) (ha : a < n) (hb : b < n) {i : Nat} {row : List (List Nat)} {u : List Nat} (hu : row[i]? = some u) (B : BI t e l.length a b row i 0 (i + 1)) (v11 v12 v13 : Option D) :
    ∃ row' z11 z12 z13, sFor (itEnumS (aCons (eVar 0) aNil)) (gTupD 2 (gMore (gVar 11) (gMore (gVar 12) gNone)))
      (sSeq (sSet 13 (eTup (aCons (DE.e2 ixD (DE.e2 ixD (eVar 7) (eVar 9)) (eVar 11)) (aCons (DE.e2 ixD (DE.e2 ixD (eVar 7) (eVar 10)) (eVar 11)) aNil))))
      (sIf (tVal (DE.e2 (inTD true) (eVar 13) (eVar 4)))
      (sSeq (sAsg (DE.e2 addD (DE.e2 dgetT (eVar 4) (DE.e2 ixD (eVar 5) (eVar 6))) (eVar 12)) (gPutT (eVar 4) (eVar 13)))
      (sExpr (eLM apD (eVar 5) (eVar 13)))) sPass))
      (PE6 l s.length a b i (some (.int (go t a u : Nat))) (some (.int (go t b u : Nat))) v11 v12 v13) (s ++ [cW l t a b row, cR t a b row]) =
      .next (PE6 l s.length a b i (some (.int (go t a u : Nat))) (some (.int (go t b u : Nat))) z11 z12 z13) (s ++ [cW l t a b row', cR t a b row']) ∧ row'[i]? = some u ∧ BI t e l.length a b row' i l.length (i + 1) := by
  obtain ⟨env2, s2, e2, row', z11, z12, z13, rfl, rfl, hu', B'⟩ := for_st (g := gTupD 2 (gMore (gVar 11) (gMore (gVar 12) gNone))) (a := (numS l, none))
    (body := sSeq (sSet 13 (eTup (aCons (DE.e2 ixD (DE.e2 ixD (eVar 7) (eVar 9)) (eVar 11)) (aCons (DE.e2 ixD (DE.e2 ixD (eVar 7) (eVar 10)) (eVar 11)) aNil))))
      (sIf (tVal (DE.e2 (inTD true) (eVar 13) (eVar 4)))
      (sSeq (sAsg (DE.e2 addD (DE.e2 dgetT (eVar 4) (DE.e2 ixD (eVar 5) (eVar 6))) (eVar 12)) (gPutT (eVar 4) (eVar 13)))
      (sExpr (eLM apD (eVar 5) (eVar 13)))) sPass))
    (fun p env s2 => ∃ row' z11 z12 z13, env = PE6 l s.length a b i (some (.int (go t a u : Nat))) (some (.int (go t b u : Nat))) z11 z12 z13 ∧ s2 = s ++ [cW l t a b row', cR t a b row'] ∧ row'[i]? = some u ∧ BI t e l.length a b row' i p (i + 1))
    (fun _ _ _ _ => by simp) (numS l) 0 (PE6 l s.length a b i (some (.int (go t a u : Nat))) (some (.int (go t b u : Nat))) v11 v12 v13) (s ++ [cW l t a b row, cR t a b row]) ⟨row, v11, v12, v13, rfl, rfl, hu, B⟩
    (fun j x hx env s2 ⟨row', z11, z12, z13, he, hs, hu', B'⟩ => by
      subst he hs
      obtain ⟨hj, rfl⟩ := numS_get hx
      rw [Nat.zero_add] at B' ⊢
      obtain ⟨row2, y13, e3, hu2, B2⟩ := part_step M hL ha hb hu' hj B' z13
      exact ⟨PE6 l s.length a b i (some (.int (go t a u : Nat))) (some (.int (go t b u : Nat))) (some (.int (j : Nat))) (some (.str ⟨#[lc l j]⟩)) z13, _, _, _, rfl, e3, row2, _, _, y13, rfl, rfl, hu2, B2⟩)
  refine ⟨row', z11, z12, z13, ?_, hu', ?_⟩
  · unfold sFor
    have : itEnumS (aCons (eVar 0) aNil) (PE6 l s.length a b i (some (.int (go t a u : Nat))) (some (.int (go t b u : Nat))) v11 v12 v13) (s ++ [cW l t a b row, cR t a b row]) = .ok (numS l, none) (s ++ [cW l t a b row, cR t a b row]) := rfl
    rw [this]
    exact e2
  · have : (numS l).length = l.length := by simp [numS, Str.length]
    rw [this, Nat.zero_add] at B'
    exact B'
end
end G
/-! K6F: parting's loop, parting -/
namespace G
open PySem PySem.Spec PyProof.Rows L2 DE M6
section
variable {n : Nat} {l : Str} {t : Nat → Nat → Nat} {e : Nat → Bool} {s : Store} {a b : Nat}
theorem part_while (M : Mach n l.length t e s) (hL : LetF l) (ha : a < n) (hb : b < n) : ∀ (d i : Nat) (row : List (List Nat)) (v9 v10 v11 v12 v13 : Option D), n * n - i ≤ d → BI t e l.length a b row i 0 i → i ≤ row.length →
    (∃ w c1 c2, Least t e l.length a b w ∧ w.length ≤ 200 ∧ sWhile (tVal (DE.e2 ltD (eVar 6) (eCall lenD (aCons (eVar 5) aNil))))
      (sSeq (sAsg (DE.e2 ixD (eVar 5) (eVar 6)) (gTupD 2 (gMore (gVar 9) (gMore (gVar 10) gNone))))
      (sSeq (sIf (tVal (DE.e2 (eqD true) (DE.e2 ixD (eVar 8) (eVar 9)) (DE.e2 ixD (eVar 8) (eVar 10)))) (sRet (DE.e2 dgetT (eVar 4) (DE.e2 ixD (eVar 5) (eVar 6)))) sPass)
      (sSeq (sFor (itEnumS (aCons (eVar 0) aNil)) (gTupD 2 (gMore (gVar 11) (gMore (gVar 12) gNone)))
      (sSeq (sSet 13 (eTup (aCons (DE.e2 ixD (DE.e2 ixD (eVar 7) (eVar 9)) (eVar 11)) (aCons (DE.e2 ixD (DE.e2 ixD (eVar 7) (eVar 10)) (eVar 11)) aNil))))
      (sIf (tVal (DE.e2 (inTD true) (eVar 13) (eVar 4)))
      (sSeq (sAsg (DE.e2 addD (DE.e2 dgetT (eVar 4) (DE.e2 ixD (eVar 5) (eVar 6))) (eVar 12)) (gPutT (eVar 4) (eVar 13)))
      (sExpr (eLM apD (eVar 5) (eVar 13)))) sPass)))
      (sSet 6 (DE.e2 addD (eVar 6) (eC (.int 1)))))))
      (PE6 l s.length a b i v9 v10 v11 v12 v13) (s ++ [cW l t a b row, cR t a b row]) = .ret (.str (txt l w)) (s ++ [c1, c2])) ∨
    (Same t e l.length a b ∧ ∃ env c1 c2, sWhile (tVal (DE.e2 ltD (eVar 6) (eCall lenD (aCons (eVar 5) aNil))))
      (sSeq (sAsg (DE.e2 ixD (eVar 5) (eVar 6)) (gTupD 2 (gMore (gVar 9) (gMore (gVar 10) gNone))))
      (sSeq (sIf (tVal (DE.e2 (eqD true) (DE.e2 ixD (eVar 8) (eVar 9)) (DE.e2 ixD (eVar 8) (eVar 10)))) (sRet (DE.e2 dgetT (eVar 4) (DE.e2 ixD (eVar 5) (eVar 6)))) sPass)
      (sSeq (sFor (itEnumS (aCons (eVar 0) aNil)) (gTupD 2 (gMore (gVar 11) (gMore (gVar 12) gNone)))
      (sSeq (sSet 13 (eTup (aCons (DE.e2 ixD (DE.e2 ixD (eVar 7) (eVar 9)) (eVar 11)) (aCons (DE.e2 ixD (DE.e2 ixD (eVar 7) (eVar 10)) (eVar 11)) aNil))))
      (sIf (tVal (DE.e2 (inTD true) (eVar 13) (eVar 4)))
      (sSeq (sAsg (DE.e2 addD (DE.e2 dgetT (eVar 4) (DE.e2 ixD (eVar 5) (eVar 6))) (eVar 12)) (gPutT (eVar 4) (eVar 13)))
      (sExpr (eLM apD (eVar 5) (eVar 13)))) sPass)))
      (sSet 6 (DE.e2 addD (eVar 6) (eC (.int 1)))))))
      (PE6 l s.length a b i v9 v10 v11 v12 v13) (s ++ [cW l t a b row, cR t a b row]) = .next env (s ++ [c1, c2])) := by
  intro d
  induction d with
  | zero =>
    intro i row v9 v10 v11 v12 v13 hd B hi
    have hrl := B.row_len M.ht ha hb
    have hR := two_1 s (cW l t a b row) (cR t a b row)
    have hlen := len_ref hR
    rw [List.length_map] at hlen
    refine .inr ⟨B.none (by omega), PE6 l s.length a b i v9 v10 v11 v12 v13, cW l t a b row, cR t a b row, ?_⟩
    rw [sWhile_eq]
    have hc : tVal (DE.e2 ltD (eVar 6) (eCall lenD (aCons (eVar 5) aNil))) (PE6 l s.length a b i v9 v10 v11 v12 v13) (s ++ [cW l t a b row, cR t a b row]) = .ok false (s ++ [cW l t a b row, cR t a b row]) := by
      have : ¬ ((i : Int) < (row.length : Nat)) := by omega
      unfold PE6
      generalize MD = MM
      simp [bodyF, env0, sSeq, sSet, sIf, sRet, sRetN, sExpr, sPass, sRaise, sBad, eVar, eC, eTup, eLst, aCons, aNil, eCall, ar, DE.e2, eAnd, eOr, eNot, eIf, eNeg, tVal, tAndM, tOrM, tNotM, tYesM, eChain, isiD, tyOf, isTy, eM1, oNone, oSome, eCut, R.bind_ok, R.bind_exc, R.bindS_ok, R.bindS_exc, RS.bind_next, RS.bind_ret, RS.bind_exc, LINE, ofS_inj, ofS_ok, eqD_int, eqD_ss, inD3_ss, inD2_ss, hlen, ltD_ev, this]
    rw [hc]
    rfl
  | succ d ih =>
    intro i row v9 v10 v11 v12 v13 hd B hi
    have hrl := B.row_len M.ht ha hb
    have h14 := Nat.mul_le_mul M.n14 M.n14
    have hW := two_0 s (cW l t a b row) (cR t a b row)
    have hR := two_1 s (cW l t a b row) (cR t a b row)
    have hlen := len_ref hR
    rw [List.length_map] at hlen
    by_cases q : i < row.length
    · obtain ⟨u, hu⟩ : ∃ u, row[i]? = some u := ⟨_, List.getElem?_eq_getElem q⟩
      have hul : u ∈ row := List.mem_of_getElem? hu
      have hx : go t a u < n := go_lt M.ht u a ha (B.dg u hul)
      have hy : go t b u < n := go_lt M.ht u b hb (B.dg u hul)
      have M1 := M.app [cW l t a b row, cR t a b row]
      have i1 := M1.ix_en hx
      have i2 := M1.ix_en hy
      have hix := ix_ref hR (i := i) (d := pW t a b u) (by rw [List.getElem?_map, hu]; rfl)
      have hdg := dget_ev hW (kW_key t a b u) (getT_row (fun w => .str (txt l w)) B.nd hul)
      have heq := eqD_bl true (e (go t a u)) (e (go t b u)) (s ++ [cW l t a b row, cR t a b row])
      have hc : tVal (DE.e2 ltD (eVar 6) (eCall lenD (aCons (eVar 5) aNil))) (PE6 l s.length a b i v9 v10 v11 v12 v13) (s ++ [cW l t a b row, cR t a b row]) = .ok true (s ++ [cW l t a b row, cR t a b row]) := by
        have : (i : Int) < (row.length : Nat) := by omega
        unfold PE6
        generalize MD = MM
        simp [bodyF, env0, sSeq, sSet, sIf, sRet, sRetN, sExpr, sPass, sRaise, sBad, eVar, eC, eTup, eLst, aCons, aNil, eCall, ar, DE.e2, eAnd, eOr, eNot, eIf, eNeg, tVal, tAndM, tOrM, tNotM, tYesM, eChain, isiD, tyOf, isTy, eM1, oNone, oSome, eCut, R.bind_ok, R.bind_exc, R.bindS_ok, R.bindS_exc, RS.bind_next, RS.bind_ret, RS.bind_exc, LINE, ofS_inj, ofS_ok, eqD_int, eqD_ss, inD3_ss, inD2_ss, hlen, ltD_ev, this]
      have p1 : sAsg (DE.e2 ixD (eVar 5) (eVar 6)) (gTupD 2 (gMore (gVar 9) (gMore (gVar 10) gNone))) (PE6 l s.length a b i v9 v10 v11 v12 v13) (s ++ [cW l t a b row, cR t a b row]) =
          .next (PE6 l s.length a b i (some (.int (go t a u : Nat))) (some (.int (go t b u : Nat))) v11 v12 v13) (s ++ [cW l t a b row, cR t a b row]) := by
        have hix' := hix
        unfold pW pD at hix'
        unfold PE6
        generalize MD = MM
        simp [bodyF, env0, sSeq, sSet, sIf, sRet, sRetN, sExpr, sPass, sRaise, sBad, eVar, eC, eTup, eLst, aCons, aNil, eCall, ar, DE.e2, eAnd, eOr, eNot, eIf, eNeg, tVal, tAndM, tOrM, tNotM, tYesM, eChain, isiD, tyOf, isTy, eM1, oNone, oSome, eCut, R.bind_ok, R.bind_exc, R.bindS_ok, R.bindS_exc, RS.bind_next, RS.bind_ret, RS.bind_exc, LINE, ofS_inj, ofS_ok, eqD_int, eqD_ss, inD3_ss, inD2_ss, sAsg, hix', gTupD, gMore, gVar, gNone]
      have hw1 : ∀ (C : DE.TM) (Bd : DE.SM) (env : DE.Env) (S : Store) (h : C env S = .ok true S), sWhile C Bd env S = loopB (Bd env S) (sWhile C Bd) := fun C Bd env S h => by rw [sWhile_eq, h]; rfl
      by_cases hs : e (go t a u) = e (go t b u)
      · have hns : ¬ Ds t e a b u := fun z => z hs
        have B1 := B.look (fun j hj => hj) hu hns
        have p2 : sIf (tVal (DE.e2 (eqD true) (DE.e2 ixD (eVar 8) (eVar 9)) (DE.e2 ixD (eVar 8) (eVar 10)))) (sRet (DE.e2 dgetT (eVar 4) (DE.e2 ixD (eVar 5) (eVar 6)))) sPass (PE6 l s.length a b i (some (.int (go t a u : Nat))) (some (.int (go t b u : Nat))) v11 v12 v13) (s ++ [cW l t a b row, cR t a b row]) =
            .next (PE6 l s.length a b i (some (.int (go t a u : Nat))) (some (.int (go t b u : Nat))) v11 v12 v13) (s ++ [cW l t a b row, cR t a b row]) := by
          rw [hs] at i1 heq
          unfold PE6
          generalize MD = MM
          simp [bodyF, env0, sSeq, sSet, sIf, sRet, sRetN, sExpr, sPass, sRaise, sBad, eVar, eC, eTup, eLst, aCons, aNil, eCall, ar, DE.e2, eAnd, eOr, eNot, eIf, eNeg, tVal, tAndM, tOrM, tNotM, tYesM, eChain, isiD, tyOf, isTy, eM1, oNone, oSome, eCut, R.bind_ok, R.bind_exc, R.bindS_ok, R.bindS_exc, RS.bind_next, RS.bind_ret, RS.bind_exc, LINE, ofS_inj, ofS_ok, eqD_int, eqD_ss, inD3_ss, inD2_ss, i1, i2, heq]
        obtain ⟨row', z11, z12, z13, p3, hu', B2⟩ := part_for M hL ha hb hu B1 v11 v12 v13
        have p4 : sSet 6 (DE.e2 addD (eVar 6) (eC (.int 1))) (PE6 l s.length a b i (some (.int (go t a u : Nat))) (some (.int (go t b u : Nat))) z11 z12 z13) (s ++ [cW l t a b row', cR t a b row']) =
            .next (PE6 l s.length a b (i + 1) (some (.int (go t a u : Nat))) (some (.int (go t b u : Nat))) z11 z12 z13) (s ++ [cW l t a b row', cR t a b row']) := by
          unfold PE6
          generalize MD = MM
          simp [bodyF, env0, sSeq, sSet, sIf, sRet, sRetN, sExpr, sPass, sRaise, sBad, eVar, eC, eTup, eLst, aCons, aNil, eCall, ar, DE.e2, eAnd, eOr, eNot, eIf, eNeg, tVal, tAndM, tOrM, tNotM, tYesM, eChain, isiD, tyOf, isTy, eM1, oNone, oSome, eCut, R.bind_ok, R.bind_exc, R.bindS_ok, R.bindS_exc, RS.bind_next, RS.bind_ret, RS.bind_exc, LINE, ofS_inj, ofS_ok, eqD_int, eqD_ss, inD3_ss, inD2_ss, addD_int]
        rw [hw1 _ _ _ _ hc, seq_to p1, seq_to p2, seq_to p3, p4, loopB_next]
        have hil := (List.getElem?_eq_some_iff.mp hu').1
        exact ih (i + 1) row' _ _ z11 z12 z13 (by omega) B2.next (by omega)
      · refine .inl ⟨u, cW l t a b row, cR t a b row, B.found hu hs, by have := B.len i u hu; omega, ?_⟩
        have p2 : sIf (tVal (DE.e2 (eqD true) (DE.e2 ixD (eVar 8) (eVar 9)) (DE.e2 ixD (eVar 8) (eVar 10)))) (sRet (DE.e2 dgetT (eVar 4) (DE.e2 ixD (eVar 5) (eVar 6)))) sPass (PE6 l s.length a b i (some (.int (go t a u : Nat))) (some (.int (go t b u : Nat))) v11 v12 v13) (s ++ [cW l t a b row, cR t a b row]) =
            .ret (.str (txt l u)) (s ++ [cW l t a b row, cR t a b row]) := by
          rw [show decide (e (go t a u) = e (go t b u)) = false by simp [hs]] at heq
          unfold PE6
          generalize MD = MM
          simp [bodyF, env0, sSeq, sSet, sIf, sRet, sRetN, sExpr, sPass, sRaise, sBad, eVar, eC, eTup, eLst, aCons, aNil, eCall, ar, DE.e2, eAnd, eOr, eNot, eIf, eNeg, tVal, tAndM, tOrM, tNotM, tYesM, eChain, isiD, tyOf, isTy, eM1, oNone, oSome, eCut, R.bind_ok, R.bind_exc, R.bindS_ok, R.bindS_exc, RS.bind_next, RS.bind_ret, RS.bind_exc, LINE, ofS_inj, ofS_ok, eqD_int, eqD_ss, inD3_ss, inD2_ss, i1, i2, heq, hix, hdg]
        rw [hw1 _ _ _ _ hc, seq_to p1, seq_stop p2]
        rfl
    · refine .inr ⟨B.none (by omega), PE6 l s.length a b i v9 v10 v11 v12 v13, cW l t a b row, cR t a b row, ?_⟩
      rw [sWhile_eq]
      have hc : tVal (DE.e2 ltD (eVar 6) (eCall lenD (aCons (eVar 5) aNil))) (PE6 l s.length a b i v9 v10 v11 v12 v13) (s ++ [cW l t a b row, cR t a b row]) = .ok false (s ++ [cW l t a b row, cR t a b row]) := by
        have : ¬ ((i : Int) < (row.length : Nat)) := by omega
        unfold PE6
        generalize MD = MM
        simp [bodyF, env0, sSeq, sSet, sIf, sRet, sRetN, sExpr, sPass, sRaise, sBad, eVar, eC, eTup, eLst, aCons, aNil, eCall, ar, DE.e2, eAnd, eOr, eNot, eIf, eNeg, tVal, tAndM, tOrM, tNotM, tYesM, eChain, isiD, tyOf, isTy, eM1, oNone, oSome, eCut, R.bind_ok, R.bind_exc, R.bindS_ok, R.bindS_exc, RS.bind_next, RS.bind_ret, RS.bind_exc, LINE, ofS_inj, ofS_ok, eqD_int, eqD_ss, inD3_ss, inD2_ss, hlen, ltD_ev, this]
      rw [hc]
      rfl
theorem ev_parting (M : Mach n l.length t e s) (hL : LetF l) (k : Nat) (ha : a < n) (hb : b < n) :
    (∃ w, Least t e l.length a b w ∧ w.length ≤ 200 ∧ fns (k + 3) i_parting [.str l, MD, .int (a : Nat), .int (b : Nat)] s = .ok (.str (txt l w)) s) ∨ (Same t e l.length a b ∧ fns (k + 3) i_parting [.str l, MD, .int (a : Nat), .int (b : Nat)] s = .ok .non s) := by
  rw [e_parting]
  have q1 : fns (k + 2) i_need_letters [.str l] s = .ok .non s := by rw [ev_need_l k _ s hL.pl, hL.ok]; rfl
  have q2 : fns (k + 2) i_need_room [MD, .int (a : Nat)] s = .ok .non s := (ev_need_room M (k + 1) _ (pl_int _)).1 (room_int ha)
  have q3 : fns (k + 2) i_need_room [MD, .int (b : Nat)] s = .ok .non s := (ev_need_room M (k + 1) _ (pl_int _)).1 (room_int hb)
  have hw := part_while M hL ha hb (n * n) 0 [[]] none none none none none (by omega) BI.start (by simp)
  have pre : ∀ r, (sSeq (sWhile (tVal (DE.e2 ltD (eVar 6) (eCall lenD (aCons (eVar 5) aNil))))
      (sSeq (sAsg (DE.e2 ixD (eVar 5) (eVar 6)) (gTupD 2 (gMore (gVar 9) (gMore (gVar 10) gNone))))
      (sSeq (sIf (tVal (DE.e2 (eqD true) (DE.e2 ixD (eVar 8) (eVar 9)) (DE.e2 ixD (eVar 8) (eVar 10)))) (sRet (DE.e2 dgetT (eVar 4) (DE.e2 ixD (eVar 5) (eVar 6)))) sPass)
      (sSeq (sFor (itEnumS (aCons (eVar 0) aNil)) (gTupD 2 (gMore (gVar 11) (gMore (gVar 12) gNone)))
      (sSeq (sSet 13 (eTup (aCons (DE.e2 ixD (DE.e2 ixD (eVar 7) (eVar 9)) (eVar 11)) (aCons (DE.e2 ixD (DE.e2 ixD (eVar 7) (eVar 10)) (eVar 11)) aNil))))
      (sIf (tVal (DE.e2 (inTD true) (eVar 13) (eVar 4)))
      (sSeq (sAsg (DE.e2 addD (DE.e2 dgetT (eVar 4) (DE.e2 ixD (eVar 5) (eVar 6))) (eVar 12)) (gPutT (eVar 4) (eVar 13)))
      (sExpr (eLM apD (eVar 5) (eVar 13)))) sPass)))
      (sSet 6 (DE.e2 addD (eVar 6) (eC (.int 1))))))))
      (sRet (eC .non))) (PE6 l s.length a b 0 none none none none none) (s ++ [cW l t a b [[]], cR t a b [[]]]) = r → m_parting (fns (k + 2)) (env0 14 [.str l, MD, .int (a : Nat), .int (b : Nat)]) s = r := fun r hr => by
    rw [m_parting]
    rw [seq_to (env1 := env0 14 [.str l, MD, .int (a : Nat), .int (b : Nat)]) (s1 := s) (by generalize fns (k + 2) = call at *; generalize MD = MM at *; simp [bodyF, env0, sSeq, sSet, sIf, sRet, sRetN, sExpr, sPass, sRaise, sBad, eVar, eC, eTup, eLst, aCons, aNil, eCall, ar, DE.e2, eAnd, eOr, eNot, eIf, eNeg, tVal, tAndM, tOrM, tNotM, tYesM, eChain, isiD, tyOf, isTy, eM1, oNone, oSome, eCut, R.bind_ok, R.bind_exc, R.bindS_ok, R.bindS_exc, RS.bind_next, RS.bind_ret, RS.bind_exc, LINE, ofS_inj, ofS_ok, eqD_int, eqD_ss, inD3_ss, inD2_ss, q1])]
    rw [seq_to (env1 := env0 14 [.str l, MD, .int (a : Nat), .int (b : Nat)]) (s1 := s) (by generalize fns (k + 2) = call at *; generalize MD = MM at *; simp [bodyF, env0, sSeq, sSet, sIf, sRet, sRetN, sExpr, sPass, sRaise, sBad, eVar, eC, eTup, eLst, aCons, aNil, eCall, ar, DE.e2, eAnd, eOr, eNot, eIf, eNeg, tVal, tAndM, tOrM, tNotM, tYesM, eChain, isiD, tyOf, isTy, eM1, oNone, oSome, eCut, R.bind_ok, R.bind_exc, R.bindS_ok, R.bindS_exc, RS.bind_next, RS.bind_ret, RS.bind_exc, LINE, ofS_inj, ofS_ok, eqD_int, eqD_ss, inD3_ss, inD2_ss, q2])]
    rw [seq_to (env1 := env0 14 [.str l, MD, .int (a : Nat), .int (b : Nat)]) (s1 := s) (by generalize fns (k + 2) = call at *; generalize MD = MM at *; simp [bodyF, env0, sSeq, sSet, sIf, sRet, sRetN, sExpr, sPass, sRaise, sBad, eVar, eC, eTup, eLst, aCons, aNil, eCall, ar, DE.e2, eAnd, eOr, eNot, eIf, eNeg, tVal, tAndM, tOrM, tNotM, tYesM, eChain, isiD, tyOf, isTy, eM1, oNone, oSome, eCut, R.bind_ok, R.bind_exc, R.bindS_ok, R.bindS_exc, RS.bind_next, RS.bind_ret, RS.bind_exc, LINE, ofS_inj, ofS_ok, eqD_int, eqD_ss, inD3_ss, inD2_ss, q3])]
    rw [seq_to (env1 := [some (.str l), some MD, some (.int (a : Nat)), some (.int (b : Nat)), none, none, none, some (.ref 0), some (.ref 1), none, none, none, none, none]) (s1 := s) (by simp [bodyF, env0, sSeq, sSet, sIf, sRet, sRetN, sExpr, sPass, sRaise, sBad, eVar, eC, eTup, eLst, aCons, aNil, eCall, ar, DE.e2, eAnd, eOr, eNot, eIf, eNeg, tVal, tAndM, tOrM, tNotM, tYesM, eChain, isiD, tyOf, isTy, eM1, oNone, oSome, eCut, R.bind_ok, R.bind_exc, R.bindS_ok, R.bindS_exc, RS.bind_next, RS.bind_ret, RS.bind_exc, LINE, ofS_inj, ofS_ok, eqD_int, eqD_ss, inD3_ss, inD2_ss, sAsg, MD, gTupD, gMore, gVar, gNone])]
    have hcw : cW l t a b [[]] = .dT [kk a b] [.str (Str.ofString "")] := by
      have : Str.ofString "" = txt l [] := by rw [empty_str]; rfl
      rw [this]; rfl
    have hcr : cR t a b [[]] = .lst [pD a b] := rfl
    rw [hcw, hcr] at hr
    rw [seq_to (env1 := [some (.str l), some MD, some (.int (a : Nat)), some (.int (b : Nat)), some (.ref s.length), none, none, some (.ref 0), some (.ref 1), none, none, none, none, none]) (s1 := s ++ [.dT [kk a b] [.str (Str.ofString "")]]) (by
      have hk := pD_key a b
      unfold pD at hk
      generalize MD = MM at *
      generalize Str.ofString "" = Z at *
      simp [bodyF, env0, sSeq, sSet, sIf, sRet, sRetN, sExpr, sPass, sRaise, sBad, eVar, eC, eTup, eLst, aCons, aNil, eCall, ar, DE.e2, eAnd, eOr, eNot, eIf, eNeg, tVal, tAndM, tOrM, tNotM, tYesM, eChain, isiD, tyOf, isTy, eM1, oNone, oSome, eCut, R.bind_ok, R.bind_exc, R.bindS_ok, R.bindS_exc, RS.bind_next, RS.bind_ret, RS.bind_exc, LINE, ofS_inj, ofS_ok, eqD_int, eqD_ss, inD3_ss, inD2_ss, eDisT, hk])]
    rw [seq_to (env1 := [some (.str l), some MD, some (.int (a : Nat)), some (.int (b : Nat)), some (.ref s.length), some (.ref (s.length + 1)), none, some (.ref 0), some (.ref 1), none, none, none, none, none]) (s1 := s ++ [.dT [kk a b] [.str (Str.ofString "")], .lst [pD a b]]) (by
      unfold pD
      generalize MD = MM at *
      generalize Str.ofString "" = Z at *
      simp [bodyF, env0, sSeq, sSet, sIf, sRet, sRetN, sExpr, sPass, sRaise, sBad, eVar, eC, eTup, eLst, aCons, aNil, eCall, ar, DE.e2, eAnd, eOr, eNot, eIf, eNeg, tVal, tAndM, tOrM, tNotM, tYesM, eChain, isiD, tyOf, isTy, eM1, oNone, oSome, eCut, R.bind_ok, R.bind_exc, R.bindS_ok, R.bindS_exc, RS.bind_next, RS.bind_ret, RS.bind_exc, LINE, ofS_inj, ofS_ok, eqD_int, eqD_ss, inD3_ss, inD2_ss, eNew])]
    rw [seq_to (env1 := PE6 l s.length a b 0 none none none none none) (s1 := s ++ [.dT [kk a b] [.str (Str.ofString "")], .lst [pD a b]]) (by
      unfold PE6
      generalize MD = MM at *
      generalize Str.ofString "" = Z at *
      simp [bodyF, env0, sSeq, sSet, sIf, sRet, sRetN, sExpr, sPass, sRaise, sBad, eVar, eC, eTup, eLst, aCons, aNil, eCall, ar, DE.e2, eAnd, eOr, eNot, eIf, eNeg, tVal, tAndM, tOrM, tNotM, tYesM, eChain, isiD, tyOf, isTy, eM1, oNone, oSome, eCut, R.bind_ok, R.bind_exc, R.bindS_ok, R.bindS_exc, RS.bind_next, RS.bind_ret, RS.bind_exc, LINE, ofS_inj, ofS_ok, eqD_int, eqD_ss, inD3_ss, inD2_ss])]
    exact hr
  rcases hw with ⟨w, c1, c2, h1, h2, h3⟩ | ⟨h1, env, c1, c2, h3⟩
  · exact .inl ⟨w, h1, h2, pureRet_ok (s2 := [c1, c2]) (body_ret (pre _ (seq_stop h3))) rfl⟩
  · refine .inr ⟨h1, pureRet_ok (s2 := [c1, c2]) (body_ret (pre _ ?_)) rfl⟩
    rw [seq_to h3]
    rfl
theorem parting_l {k : Nat} {lD md r x : D} (hl : pl lD = true) (hb : letOk lD = false) : fns (k + 3) i_parting [lD, md, r, x] s = .exc 1 s := by
  rw [e_parting]
  have q1 : fns (k + 2) i_need_letters [lD] s = .exc 1 s := by rw [ev_need_l k _ s hl, hb]; rfl
  refine pureRet_exc (body_exc ?_)
  rw [m_parting]
  apply seq_exc
  generalize fns (k + 2) = call at *
  simp [bodyF, env0, sSeq, sSet, sIf, sRet, sRetN, sExpr, sPass, sRaise, sBad, eVar, eC, eTup, eLst, aCons, aNil, eCall, ar, DE.e2, eAnd, eOr, eNot, eIf, eNeg, tVal, tAndM, tOrM, tNotM, tYesM, eChain, isiD, tyOf, isTy, eM1, oNone, oSome, eCut, R.bind_ok, R.bind_exc, R.bindS_ok, R.bindS_exc, RS.bind_next, RS.bind_ret, RS.bind_exc, LINE, ofS_inj, ofS_ok, eqD_int, eqD_ss, inD3_ss, inD2_ss, q1]
theorem parting_r {m : Nat} (M : Mach n m t e s) (hL : LetF l) (k : Nat) {r x : D} (hr : pl r = true) (hn : ¬ roomOk n r) : fns (k + 3) i_parting [.str l, MD, r, x] s = .exc 5 s := by
  rw [e_parting]
  have q1 : fns (k + 2) i_need_letters [.str l] s = .ok .non s := by rw [ev_need_l k _ s hL.pl, hL.ok]; rfl
  have q2 : fns (k + 2) i_need_room [MD, r] s = .exc 5 s := (ev_need_room M (k + 1) _ hr).2 hn
  refine pureRet_exc (body_exc ?_)
  rw [m_parting, seq_to (env1 := env0 14 [.str l, MD, r, x]) (s1 := s) (by generalize fns (k + 2) = call at *; generalize MD = MM at *; simp [bodyF, env0, sSeq, sSet, sIf, sRet, sRetN, sExpr, sPass, sRaise, sBad, eVar, eC, eTup, eLst, aCons, aNil, eCall, ar, DE.e2, eAnd, eOr, eNot, eIf, eNeg, tVal, tAndM, tOrM, tNotM, tYesM, eChain, isiD, tyOf, isTy, eM1, oNone, oSome, eCut, R.bind_ok, R.bind_exc, R.bindS_ok, R.bindS_exc, RS.bind_next, RS.bind_ret, RS.bind_exc, LINE, ofS_inj, ofS_ok, eqD_int, eqD_ss, inD3_ss, inD2_ss, q1])]
  apply seq_exc
  generalize fns (k + 2) = call at *
  generalize MD = MM at *
  simp [bodyF, env0, sSeq, sSet, sIf, sRet, sRetN, sExpr, sPass, sRaise, sBad, eVar, eC, eTup, eLst, aCons, aNil, eCall, ar, DE.e2, eAnd, eOr, eNot, eIf, eNeg, tVal, tAndM, tOrM, tNotM, tYesM, eChain, isiD, tyOf, isTy, eM1, oNone, oSome, eCut, R.bind_ok, R.bind_exc, R.bindS_ok, R.bindS_exc, RS.bind_next, RS.bind_ret, RS.bind_exc, LINE, ofS_inj, ofS_ok, eqD_int, eqD_ss, inD3_ss, inD2_ss, q2]
theorem parting_o {m : Nat} (M : Mach n m t e s) (hL : LetF l) (k : Nat) {r x : D} (hr : pl r = true) (hn : roomOk n r) (hx : pl x = true) (hxn : ¬ roomOk n x) : fns (k + 3) i_parting [.str l, MD, r, x] s = .exc 5 s := by
  rw [e_parting]
  have q1 : fns (k + 2) i_need_letters [.str l] s = .ok .non s := by rw [ev_need_l k _ s hL.pl, hL.ok]; rfl
  have q2 : fns (k + 2) i_need_room [MD, r] s = .ok .non s := (ev_need_room M (k + 1) _ hr).1 hn
  have q3 : fns (k + 2) i_need_room [MD, x] s = .exc 5 s := (ev_need_room M (k + 1) _ hx).2 hxn
  refine pureRet_exc (body_exc ?_)
  rw [m_parting, seq_to (env1 := env0 14 [.str l, MD, r, x]) (s1 := s) (by generalize fns (k + 2) = call at *; generalize MD = MM at *; simp [bodyF, env0, sSeq, sSet, sIf, sRet, sRetN, sExpr, sPass, sRaise, sBad, eVar, eC, eTup, eLst, aCons, aNil, eCall, ar, DE.e2, eAnd, eOr, eNot, eIf, eNeg, tVal, tAndM, tOrM, tNotM, tYesM, eChain, isiD, tyOf, isTy, eM1, oNone, oSome, eCut, R.bind_ok, R.bind_exc, R.bindS_ok, R.bindS_exc, RS.bind_next, RS.bind_ret, RS.bind_exc, LINE, ofS_inj, ofS_ok, eqD_int, eqD_ss, inD3_ss, inD2_ss, q1])]
  rw [seq_to (env1 := env0 14 [.str l, MD, r, x]) (s1 := s) (by generalize fns (k + 2) = call at *; generalize MD = MM at *; simp [bodyF, env0, sSeq, sSet, sIf, sRet, sRetN, sExpr, sPass, sRaise, sBad, eVar, eC, eTup, eLst, aCons, aNil, eCall, ar, DE.e2, eAnd, eOr, eNot, eIf, eNeg, tVal, tAndM, tOrM, tNotM, tYesM, eChain, isiD, tyOf, isTy, eM1, oNone, oSome, eCut, R.bind_ok, R.bind_exc, R.bindS_ok, R.bindS_exc, RS.bind_next, RS.bind_ret, RS.bind_exc, LINE, ofS_inj, ofS_ok, eqD_int, eqD_ss, inD3_ss, inD2_ss, q2])]
  apply seq_exc
  generalize fns (k + 2) = call at *
  generalize MD = MM at *
  simp [bodyF, env0, sSeq, sSet, sIf, sRet, sRetN, sExpr, sPass, sRaise, sBad, eVar, eC, eTup, eLst, aCons, aNil, eCall, ar, DE.e2, eAnd, eOr, eNot, eIf, eNeg, tVal, tAndM, tOrM, tNotM, tYesM, eChain, isiD, tyOf, isTy, eM1, oNone, oSome, eCut, R.bind_ok, R.bind_exc, R.bindS_ok, R.bindS_exc, RS.bind_next, RS.bind_ret, RS.bind_exc, LINE, ofS_inj, ofS_ok, eqD_int, eqD_ss, inD3_ss, inD2_ss, q3]
end
end G
/-! K6G: told, what a value equals, the law's look at a machine -/
namespace G
open PySem PySem.Spec PyProof.Rows L2 DE M6
def toldD (d : D) : D := .tup [.str (Str.ofString "told"), d]
theorem told0_ok {k : Nat} {a b c d v : D} {s : Store} (h : fns k i_room_of [a, b, c, d] s = .ok v s) : fns (k + 1) i__law_told [.int 0, a, b, c, d] s = .ok (toldD v) s := by
  rw [e__law_told]
  generalize fns k = call at *
  simp only [m__law_told, toldD]
  generalize Str.ofString "told" = Z
  simp [bodyF, env0, sSeq, sSet, sIf, sRet, sRetN, sExpr, sPass, sRaise, sBad, eVar, eC, eTup, eLst, aCons, aNil, eCall, ar, DE.e2, eAnd, eOr, eNot, eIf, eNeg, tVal, tAndM, tOrM, tNotM, tYesM, eChain, isiD, tyOf, isTy, eM1, oNone, oSome, eCut, R.bind_ok, R.bind_exc, R.bindS_ok, R.bindS_exc, RS.bind_next, RS.bind_ret, RS.bind_exc, LINE, ofS_inj, ofS_ok, eqD_int, eqD_ss, inD3_ss, inD2_ss, sTry, h]
theorem told1_ok {k : Nat} {a b c d v : D} {s : Store} (h : fns k i_parting [a, b, c, d] s = .ok v s) : fns (k + 1) i__law_told [.int 1, a, b, c, d] s = .ok (toldD v) s := by
  rw [e__law_told]
  generalize fns k = call at *
  simp only [m__law_told, toldD]
  generalize Str.ofString "told" = Z
  simp [bodyF, env0, sSeq, sSet, sIf, sRet, sRetN, sExpr, sPass, sRaise, sBad, eVar, eC, eTup, eLst, aCons, aNil, eCall, ar, DE.e2, eAnd, eOr, eNot, eIf, eNeg, tVal, tAndM, tOrM, tNotM, tYesM, eChain, isiD, tyOf, isTy, eM1, oNone, oSome, eCut, R.bind_ok, R.bind_exc, R.bindS_ok, R.bindS_exc, RS.bind_next, RS.bind_ret, RS.bind_exc, LINE, ofS_inj, ofS_ok, eqD_int, eqD_ss, inD3_ss, inD2_ss, sTry, h]
theorem told0_exc {k : Nat} {a b c d : D} {s : Store} {x : Nat} (h1 : 1 ≤ x) (h5 : x ≤ 5) (h : fns k i_room_of [a, b, c, d] s = .exc x s) : fns (k + 1) i__law_told [.int 0, a, b, c, d] s = .ok (kindD x) s := by
  rw [e__law_told]
  generalize fns k = call at *
  simp only [m__law_told]
  generalize Str.ofString "told" = Z
  simp [bodyF, env0, sSeq, sSet, sIf, sRet, sRetN, sExpr, sPass, sRaise, sBad, eVar, eC, eTup, eLst, aCons, aNil, eCall, ar, DE.e2, eAnd, eOr, eNot, eIf, eNeg, tVal, tAndM, tOrM, tNotM, tYesM, eChain, isiD, tyOf, isTy, eM1, oNone, oSome, eCut, R.bind_ok, R.bind_exc, R.bindS_ok, R.bindS_exc, RS.bind_next, RS.bind_ret, RS.bind_exc, LINE, ofS_inj, ofS_ok, eqD_int, eqD_ss, inD3_ss, inD2_ss, sTry, h, h1, h5]
theorem told1_exc {k : Nat} {a b c d : D} {s : Store} {x : Nat} (h1 : 1 ≤ x) (h5 : x ≤ 5) (h : fns k i_parting [a, b, c, d] s = .exc x s) : fns (k + 1) i__law_told [.int 1, a, b, c, d] s = .ok (kindD x) s := by
  rw [e__law_told]
  generalize fns k = call at *
  simp only [m__law_told]
  generalize Str.ofString "told" = Z
  simp [bodyF, env0, sSeq, sSet, sIf, sRet, sRetN, sExpr, sPass, sRaise, sBad, eVar, eC, eTup, eLst, aCons, aNil, eCall, ar, DE.e2, eAnd, eOr, eNot, eIf, eNeg, tVal, tAndM, tOrM, tNotM, tYesM, eChain, isiD, tyOf, isTy, eM1, oNone, oSome, eCut, R.bind_ok, R.bind_exc, R.bindS_ok, R.bindS_exc, RS.bind_next, RS.bind_ret, RS.bind_exc, LINE, ofS_inj, ofS_ok, eqD_int, eqD_ss, inD3_ss, inD2_ss, sTry, h, h1, h5]
mutual
theorem eqv_self : ∀ d : D, layD d = true → PyData.eqv (pyOf d) (pyOf d) = true
  | .tup xs, h => by
    have := eqv_selfs xs (by simpa only [layD] using h)
    simp [pyOf, PyData.eqv, this]
  | .lst xs, h => by
    have := eqv_selfs xs (by simpa only [layD] using h)
    simp [pyOf, PyData.eqv, this]
  | .dct _ _, h => by simp [layD] at h
  | .ref _, h => by simp [layD] at h
  | .scr _, h => by simp [layD] at h
  | .exc _ _, h => by simp [layD] at h
  | .obj _ _, h => by simp [layD] at h
  | .non, _ => by simp [pyOf, PyData.eqv]
  | .bl b, _ => by simp [pyOf, PyData.eqv]
  | .int i, _ => by simp [pyOf, PyData.eqv]
  | .str x, _ => by simp [pyOf, PyData.eqv]
theorem eqv_selfs : ∀ ds : List D, layDs ds = true → PyData.eqvAll (pyOfs ds) (pyOfs ds) = true
  | [], _ => by simp [pyOfs, PyData.eqvAll]
  | d :: ds, h => by
    simp only [layDs, Bool.and_eq_true] at h
    have h1 := eqv_self d h.1
    have h2 := eqv_selfs ds h.2
    simp [pyOfs, PyData.eqvAll, h1, h2]
end
theorem eqD_same (neg : Bool) {x y d : D} {s : Store} (hx : res s x = some d) (hy : res s y = some d) (hl : layD d = true) (hd : depD d ≤ 190) : eqD neg x y s = .ok (.bl (!neg)) s := by
  have he : eqv d d = true := eqv_self d hl
  unfold eqD
  rw [hx, hy]
  simp only [he]
  rw [if_pos ⟨hl, hl, hd⟩]
  cases neg <;> rfl
theorem subs_map {α : Type} (f : Nat → Option D) (g h : α → D) : ∀ ys : List α, (∀ y ∈ ys, sub f (g y) = some (h y)) → subs f (ys.map g) = some (ys.map h)
  | [], _ => by simp [subs]
  | y :: ys, q => by
    have h1 := q y List.mem_cons_self
    have h2 := subs_map f g h ys fun z hz => q z (List.mem_cons_of_mem _ hz)
    simp only [List.map_cons, subs, h1, h2]
theorem layDs_map {α : Type} (g : α → D) (ys : List α) (h : ∀ y ∈ ys, layD (g y) = true) : layDs (ys.map g) = true := by
  induction ys with
  | nil => simp [layDs]
  | cons y ys ih =>
    simp only [List.map_cons, layDs, Bool.and_eq_true]
    exact ⟨h y List.mem_cons_self, ih fun z hz => h z (List.mem_cons_of_mem _ hz)⟩
theorem depDs_map {α : Type} (g : α → D) (ys : List α) {n : Nat} (h : ∀ y ∈ ys, depD (g y) ≤ n) : depDs (ys.map g) ≤ n := by
  induction ys with
  | nil => simp [depDs]
  | cons y ys ih =>
    simp only [List.map_cons, depDs]
    exact Nat.max_le.mpr ⟨h y List.mem_cons_self, ih fun z hz => h z (List.mem_cons_of_mem _ hz)⟩
/-- the machine as the law keeps it -/
def rowD (m : Nat) (t : Nat → Nat → Nat) (r : Nat) : D := .lst ((List.range m).map fun k => .int ((t r k : Nat) : Int))
def KD (n m : Nat) (t : Nat → Nat → Nat) (e : Nat → Bool) : D := .tup [.lst ((List.range n).map (rowD m t)), .lst ((List.range n).map fun r => .bl (e r))]
theorem row_lay (m : Nat) (t : Nat → Nat → Nat) (r : Nat) : layD (rowD m t r) = true ∧ depD (rowD m t r) ≤ 1 ∧ pureD (rowD m t r) = true := by
  refine ⟨?_, ?_, ?_⟩
  · unfold rowD
    simp only [layD]
    exact layDs_map _ _ fun k _ => by simp [layD]
  · unfold rowD
    simp only [depD]
    have := depDs_map (fun k => D.int ((t r k : Nat) : Int)) (List.range m) (n := 0) fun k _ => by simp [depD]
    omega
  · unfold rowD
    simp only [pureD]
    rw [pureDs_all]
    intro x hx
    obtain ⟨k, _, rfl⟩ := List.mem_map.mp hx
    simp [pureD]
theorem KD_lay (n m : Nat) (t : Nat → Nat → Nat) (e : Nat → Bool) : layD (KD n m t e) = true ∧ depD (KD n m t e) ≤ 190 ∧ pureD (KD n m t e) = true := by
  have h1 : layDs ((List.range n).map (rowD m t)) = true := layDs_map _ _ fun r _ => (row_lay m t r).1
  have h2 : layDs ((List.range n).map fun r => D.bl (e r)) = true := layDs_map _ _ fun k _ => by simp [layD]
  have h3 := depDs_map (rowD m t) (List.range n) (n := 1) fun r _ => (row_lay m t r).2.1
  have h4 := depDs_map (fun r => D.bl (e r)) (List.range n) (n := 0) fun k _ => by simp [depD]
  refine ⟨?_, ?_, ?_⟩
  · simp [KD, layD, layDs, h1, h2]
  · simp only [KD, depD, depDs]
    omega
  · unfold KD
    simp only [pureD, pureDs, Bool.and_eq_true]
    refine ⟨?_, ?_, trivial⟩
    · rw [pureDs_all]
      intro x hx
      obtain ⟨r, _, rfl⟩ := List.mem_map.mp hx
      exact (row_lay m t r).2.2
    · rw [pureDs_all]
      intro x hx
      obtain ⟨r, _, rfl⟩ := List.mem_map.mp hx
      simp [pureD]
theorem fr_lst {s : Store} {k l : Nat} {xs ys : List D} (h : s[l]? = some (.lst xs)) (hs : subs (fr s 0 k) xs = some ys) : fr s 0 (k + 1) l = some (.lst ys) := by
  show (if l < 0 then some (D.ref l) else match s[l]? with
    | some (.lst xs) => (subs (fr s 0 k) xs).map .lst
    | some (.dK ks xs) => (subs (fr s 0 k) xs).map (.dct ks)
    | some (.ins _ fs xs) => (subs (fr s 0 k) xs).map (.obj fs)
    | _ => none) = _
  rw [if_neg (Nat.not_lt_zero l), h]
  simp only [hs]
  rfl
section
variable {n m : Nat} {l : Str} {t : Nat → Nat → Nat} {e : Nat → Bool} {s : Store} {a b : Nat}
theorem res_MD (M : Mach n m t e s) : res s MD = some (KD n m t e) := by
  have h0 : fr s 0 3 0 = some (.lst ((List.range n).map (rowD m t))) := fr_lst M.st (subs_map _ _ _ _ fun r hr => by
    show fr s 0 2 (r + 2) = _
    exact fr_lst (M.row r (List.mem_range.mp hr)) (subs_map _ _ _ _ fun k _ => by simp [sub]))
  have h1 : fr s 0 3 1 = some (.lst ((List.range n).map fun r => .bl (e r))) := fr_lst M.en (subs_map _ _ _ _ fun r _ => by simp [sub])
  show sub (fr s 0 3) MD = _
  unfold MD
  simp only [sub, subs, h0, h1]
  rfl
theorem kept_ev (M : Mach n m t e s) {x0 x2 x3 x4 x5 x6 x7 x8 x9 x10 : Option D} :
    eTup (aCons (eLc (itV' (DE.e2 ixD (eVar 1) (eC (.int 0)))) (.one 11) [11] tYesM (eCall listD (aCons (eVar 11) aNil))) (aCons (eCall listD (aCons (DE.e2 ixD (eVar 1) (eC (.int 1))) aNil)) aNil))
      [x0, some MD, x2, x3, x4, x5, x6, x7, x8, x9, x10, none] s = .ok (KD n m t e) s := by
  have h0 := MD0 s
  have h1 := MD1 s
  have i1 : itV' (DE.e2 ixD (eVar 1) (eC (.int 0))) [x0, some MD, x2, x3, x4, x5, x6, x7, x8, x9, x10, none] s = .ok ((List.range n).map fun r => .ref (r + 2), some (liveG 0 ((List.range n).map fun r => .ref (r + 2)))) s := by
    generalize MD = MM at *
    simp [itV', bodyF, env0, sSeq, sSet, sIf, sRet, sRetN, sExpr, sPass, sRaise, sBad, eVar, eC, eTup, eLst, aCons, aNil, eCall, ar, DE.e2, eAnd, eOr, eNot, eIf, eNeg, tVal, tAndM, tOrM, tNotM, tYesM, eChain, isiD, tyOf, isTy, eM1, oNone, oSome, eCut, R.bind_ok, R.bind_exc, R.bindS_ok, R.bindS_exc, RS.bind_next, RS.bind_ret, RS.bind_exc, LINE, ofS_inj, ofS_ok, eqD_int, eqD_ss, inD3_ss, inD2_ss, h0, M.st]
  have i2 := eLc_g (t := .one 11) (vs := [11]) (em := eCall listD (aCons (eVar 11) aNil)) (fun r => D.ref (r + 2)) (rowD m t) (List.range n) _ i1 (by rw [okG_some]; exact M.st) (by have := M.n14; simp; omega) (fun r hr => ⟨_, rfl, by
    have := M.row r (List.mem_range.mp hr)
    have hl : listD [.ref (r + 2)] s = .ok (rowD m t r) s := by
      show (match rdS s (.ref (r + 2)) with | some xs => (R.ok (D.lst xs) s : R D) | none => .bad) = _
      simp only [rdS, this]
      rfl
    simp [bodyF, env0, sSeq, sSet, sIf, sRet, sRetN, sExpr, sPass, sRaise, sBad, eVar, eC, eTup, eLst, aCons, aNil, eCall, ar, DE.e2, eAnd, eOr, eNot, eIf, eNeg, tVal, tAndM, tOrM, tNotM, tYesM, eChain, isiD, tyOf, isTy, eM1, oNone, oSome, eCut, R.bind_ok, R.bind_exc, R.bindS_ok, R.bindS_exc, RS.bind_next, RS.bind_ret, RS.bind_exc, LINE, ofS_inj, ofS_ok, eqD_int, eqD_ss, inD3_ss, inD2_ss, wipeE, hl]⟩)
  have i3 : listD [.ref 1] s = .ok (.lst ((List.range n).map fun r => .bl (e r))) s := by
    show (match rdS s (.ref 1) with | some xs => (R.ok (D.lst xs) s : R D) | none => .bad) = _
    simp only [rdS, M.en]
  unfold KD
  generalize eLc (itV' (DE.e2 ixD (eVar 1) (eC (.int 0)))) (.one 11) [11] tYesM (eCall listD (aCons (eVar 11) aNil)) = ec at i2
  generalize MD = MM at *
  generalize D.lst ((List.range n).map fun r => .bl (e r)) = X1 at *
  generalize D.lst ((List.range n).map (rowD m t)) = X0 at *
  simp [bodyF, env0, sSeq, sSet, sIf, sRet, sRetN, sExpr, sPass, sRaise, sBad, eVar, eC, eTup, eLst, aCons, aNil, eCall, ar, DE.e2, eAnd, eOr, eNot, eIf, eNeg, tVal, tAndM, tOrM, tNotM, tYesM, eChain, isiD, tyOf, isTy, eM1, oNone, oSome, eCut, R.bind_ok, R.bind_exc, R.bindS_ok, R.bindS_exc, RS.bind_next, RS.bind_ret, RS.bind_exc, LINE, ofS_inj, ofS_ok, eqD_int, eqD_ss, inD3_ss, inD2_ss, i2, h1, i3]
/-- what stands for a text or None -/
def Pln (d : D) : Prop := layD d = true ∧ depD d ≤ 100 ∧ pureD d = true
theorem Pln.told {d : D} (h : Pln d) : layD (toldD d) = true ∧ depD (toldD d) ≤ 190 ∧ pureD (toldD d) = true := by
  refine ⟨?_, ?_, ?_⟩
  · simp [toldD, layD, layDs, h.1, ofS_ok]
  · have := h.2.1
    simp only [toldD, depD, depDs]
    omega
  · simp [toldD, pureD, pureDs, h.2.2]
theorem told_eq (neg : Bool) {d : D} (h : Pln d) (s : Store) : eqD neg (toldD d) (toldD d) s = .ok (.bl (!neg)) s :=
  eqD_same neg (sub_pure _ _ h.told.2.2) (sub_pure _ _ h.told.2.2) h.told.1 h.told.2.1
/-- the law's text and both ways of parting: all one -/
theorem parts_one (M : Mach n l.length t e s) (hL : LetF l) (k k' : Nat) (ha : a < n) (hb : b < n) : ∃ d, Pln d ∧ fns (k' + 2) i__law_due [.str l, MD, .int (a : Nat), .int (b : Nat)] s = .ok d s ∧
    fns (k + 3) i_parting [.str l, MD, .int (a : Nat), .int (b : Nat)] s = .ok d s ∧ fns (k + 3) i_parting [.str l, MD, .int (b : Nat), .int (a : Nat)] s = .ok d s := by
  have pt : ∀ w, Dg l.length w → Pln (.str (txt l w)) := fun w hw => ⟨by simp only [layD]; exact txt_sok hL hw, by simp [depD], by simp [pureD]⟩
  have pn : Pln .non := ⟨by simp [layD], by simp [depD], by simp [pureD]⟩
  rcases ev_due M hL k' ha hb with ⟨w, h1, _, h2⟩ | ⟨h1, h2⟩
  · refine ⟨_, pt w h1.dg, h2, ?_, ?_⟩
    · rcases ev_parting M hL k ha hb with ⟨v, g1, _, g2⟩ | ⟨g1, _⟩
      · rw [h1.uniq M.m4 g1]; exact g2
      · exact absurd h1.ds (g1 w h1.dg)
    · rcases ev_parting M hL k hb ha with ⟨v, g1, _, g2⟩ | ⟨g1, _⟩
      · rw [h1.uniq M.m4 g1.symm]; exact g2
      · exact absurd h1.ds.symm (g1 w h1.dg)
  · refine ⟨.non, pn, h2, ?_, ?_⟩
    · rcases ev_parting M hL k ha hb with ⟨v, g1, _, _⟩ | ⟨_, g2⟩
      · exact absurd g1.ds (h1 v g1.dg)
      · exact g2
    · rcases ev_parting M hL k hb ha with ⟨v, g1, _, _⟩ | ⟨_, g2⟩
      · exact absurd g1.ds.symm (h1 v g1.dg)
      · exact g2
theorem ev_good (M : Mach n l.length t e s) (hL : LetF l) (k : Nat) (ha : a < n) (hb : b < n) {w : List Nat} (hw : Dg l.length w) (hl : w.length ≤ 200) :
    fns (k + 5) i__law_good [.str l, MD, .int (a : Nat), .int (b : Nat), .str (txt l w)] s = .ok (.bl true) s := by
  rw [e__law_good]
  have h0 := MD0 s
  obtain ⟨env2, e2, x6, rfl⟩ := run_word (l := l) (g := gVar 6) (body := sSet 5 (DE.e2 ixD (DE.e2 ixD (DE.e2 ixD (eVar 1) (eC (.int 0))) (eVar 5)) (eM1 sindexD (eVar 0) (eVar 6))))
    (fun r env => ∃ x, env = [some (.str l), some MD, some (.int (a : Nat)), some (.int (b : Nat)), some (.str (txt l w)), some (.int (r : Nat)), x, none, none, none, none, none]) M (fun r k env hr hk ⟨x, he⟩ => by
      subst he
      have h1 := M.ix_st hr
      have h2 := M.ix_row hr hk
      have h3 := let_index hL s hk
      refine ⟨_, [some (.str l), some MD, some (.int (a : Nat)), some (.int (b : Nat)), some (.str (txt l w)), some (.int (t r k : Nat)), some (.str ⟨#[lc l k]⟩), none, none, none, none, none], rfl, ?_, _, rfl⟩
      generalize MD = MM at *
      simp [bodyF, env0, sSeq, sSet, sIf, sRet, sRetN, sExpr, sPass, sRaise, sBad, eVar, eC, eTup, eLst, aCons, aNil, eCall, ar, DE.e2, eAnd, eOr, eNot, eIf, eNeg, tVal, tAndM, tOrM, tNotM, tYesM, eChain, isiD, tyOf, isTy, eM1, oNone, oSome, eCut, R.bind_ok, R.bind_exc, R.bindS_ok, R.bindS_exc, RS.bind_next, RS.bind_ret, RS.bind_exc, LINE, ofS_inj, ofS_ok, eqD_int, eqD_ss, inD3_ss, inD2_ss, h0, h1, h2, h3]) w a [some (.str l), some MD, some (.int (a : Nat)), some (.int (b : Nat)), some (.str (txt l w)), some (.int (a : Nat)), none, none, none, none, none, none] ha hw ⟨_, rfl⟩
  have q1 := told0_ok (ev_room_of M hL k ha hw hl)
  obtain ⟨d, hd, q2, q3, q4⟩ := parts_one M hL k (k + 2) ha hb
  have q3 := told1_ok q3
  have q4 := told1_ok q4
  have g1 := kept_ev M (x0 := some (.str l)) (x2 := some (.int (a : Nat))) (x3 := some (.int (b : Nat))) (x4 := some (.str (txt l w))) (x5 := some (.int (go t a w : Nat))) (x6 := x6) (x7 := none) (x8 := none) (x9 := none) (x10 := none)
  have hT : Pln (.int (go t a w : Nat)) := ⟨by simp [layD], by simp [depD], by simp [pureD]⟩
  have q5 := told_eq true hT s
  have q6 := told_eq true hd s
  have q7 : eqD true MD (KD n l.length t e) s = .ok (.bl false) s := eqD_same true (res_MD M) (sub_pure _ _ (KD_lay n l.length t e).2.2) (KD_lay n l.length t e).1 (KD_lay n l.length t e).2.1
  have q8 : ixD (toldD (.int (go t a w : Nat))) (.int 1) s = .ok (.int (go t a w : Nat)) s := ixD_t1
  have p2 : sFor (itV' (eVar 4)) (gVar 6) (sSet 5 (DE.e2 ixD (DE.e2 ixD (DE.e2 ixD (eVar 1) (eC (.int 0))) (eVar 5)) (eM1 sindexD (eVar 0) (eVar 6)))) [some (.str l), some MD, some (.int (a : Nat)), some (.int (b : Nat)), some (.str (txt l w)), some (.int (a : Nat)), none, none, none, none, none, none] s =
      .next [some (.str l), some MD, some (.int (a : Nat)), some (.int (b : Nat)), some (.str (txt l w)), some (.int (go t a w : Nat)), x6, none, none, none, none, none] s := by
    unfold sFor
    have : itV' (eVar 4) [some (.str l), some MD, some (.int (a : Nat)), some (.int (b : Nat)), some (.str (txt l w)), some (.int (a : Nat)), none, none, none, none, none, none] s = .ok (DE.signs (txt l w), none) s := by
      generalize MD = MM
      simp [itV', bodyF, env0, sSeq, sSet, sIf, sRet, sRetN, sExpr, sPass, sRaise, sBad, eVar, eC, eTup, eLst, aCons, aNil, eCall, ar, DE.e2, eAnd, eOr, eNot, eIf, eNeg, tVal, tAndM, tOrM, tNotM, tYesM, eChain, isiD, tyOf, isTy, eM1, oNone, oSome, eCut, R.bind_ok, R.bind_exc, R.bindS_ok, R.bindS_exc, RS.bind_next, RS.bind_ret, RS.bind_exc, LINE, ofS_inj, ofS_ok, eqD_int, eqD_ss, inD3_ss, inD2_ss]
    rw [this]
    exact e2
  generalize hK : KD n l.length t e = K at *
  rw [m__law_good]
  refine body_ret ?_
  rw [seq_to (env1 := [some (.str l), some MD, some (.int (a : Nat)), some (.int (b : Nat)), some (.str (txt l w)), some (.int (a : Nat)), none, none, none, none, none, none]) (s1 := s) (by generalize MD = MM; simp [bodyF, env0, sSeq, sSet, sIf, sRet, sRetN, sExpr, sPass, sRaise, sBad, eVar, eC, eTup, eLst, aCons, aNil, eCall, ar, DE.e2, eAnd, eOr, eNot, eIf, eNeg, tVal, tAndM, tOrM, tNotM, tYesM, eChain, isiD, tyOf, isTy, eM1, oNone, oSome, eCut, R.bind_ok, R.bind_exc, R.bindS_ok, R.bindS_exc, RS.bind_next, RS.bind_ret, RS.bind_exc, LINE, ofS_inj, ofS_ok, eqD_int, eqD_ss, inD3_ss, inD2_ss]), seq_to p2]
  rw [seq_to (env1 := [some (.str l), some MD, some (.int (a : Nat)), some (.int (b : Nat)), some (.str (txt l w)), some (.int (go t a w : Nat)), x6, some K, none, none, none, none]) (s1 := s) (by unfold sSet; rw [g1]; rfl)]
  rw [seq_to (env1 := [some (.str l), some MD, some (.int (a : Nat)), some (.int (b : Nat)), some (.str (txt l w)), some (.int (go t a w : Nat)), x6, some K, some (toldD (.int (go t a w : Nat))), none, none, none]) (s1 := s) (by
    generalize fns (k + 4) = call at *
    generalize MD = MM at *
    generalize txt l w = W at *
    generalize toldD (.int (go t a w : Nat)) = T at *
    simp [bodyF, env0, sSeq, sSet, sIf, sRet, sRetN, sExpr, sPass, sRaise, sBad, eVar, eC, eTup, eLst, aCons, aNil, eCall, ar, DE.e2, eAnd, eOr, eNot, eIf, eNeg, tVal, tAndM, tOrM, tNotM, tYesM, eChain, isiD, tyOf, isTy, eM1, oNone, oSome, eCut, R.bind_ok, R.bind_exc, R.bindS_ok, R.bindS_exc, RS.bind_next, RS.bind_ret, RS.bind_exc, LINE, ofS_inj, ofS_ok, eqD_int, eqD_ss, inD3_ss, inD2_ss, q1])]
  rw [seq_to (env1 := [some (.str l), some MD, some (.int (a : Nat)), some (.int (b : Nat)), some (.str (txt l w)), some (.int (go t a w : Nat)), x6, some K, some (toldD (.int (go t a w : Nat))), none, none, none]) (s1 := s) (by
    have q5' := q5
    simp only [toldD] at q5' q8 ⊢
    generalize MD = MM at *
    generalize txt l w = W at *
    generalize Str.ofString "told" = Z at *
    simp [bodyF, env0, sSeq, sSet, sIf, sRet, sRetN, sExpr, sPass, sRaise, sBad, eVar, eC, eTup, eLst, aCons, aNil, eCall, ar, DE.e2, eAnd, eOr, eNot, eIf, eNeg, tVal, tAndM, tOrM, tNotM, tYesM, eChain, isiD, tyOf, isTy, eM1, oNone, oSome, eCut, R.bind_ok, R.bind_exc, R.bindS_ok, R.bindS_exc, RS.bind_next, RS.bind_ret, RS.bind_exc, LINE, ofS_inj, ofS_ok, eqD_int, eqD_ss, inD3_ss, inD2_ss, q5', q8])]
  rw [seq_to (env1 := [some (.str l), some MD, some (.int (a : Nat)), some (.int (b : Nat)), some (.str (txt l w)), some (.int (go t a w : Nat)), x6, some K, some (toldD (.int (go t a w : Nat))), some (toldD d), none, none]) (s1 := s) (by
    have q2' : fns (k + 4) i__law_due [.str l, MD, .int (a : Nat), .int (b : Nat)] s = .ok d s := q2
    simp only [toldD]
    generalize fns (k + 4) = call at *
    generalize MD = MM at *
    generalize txt l w = W at *
    generalize Str.ofString "told" = Z at *
    simp [bodyF, env0, sSeq, sSet, sIf, sRet, sRetN, sExpr, sPass, sRaise, sBad, eVar, eC, eTup, eLst, aCons, aNil, eCall, ar, DE.e2, eAnd, eOr, eNot, eIf, eNeg, tVal, tAndM, tOrM, tNotM, tYesM, eChain, isiD, tyOf, isTy, eM1, oNone, oSome, eCut, R.bind_ok, R.bind_exc, R.bindS_ok, R.bindS_exc, RS.bind_next, RS.bind_ret, RS.bind_exc, LINE, ofS_inj, ofS_ok, eqD_int, eqD_ss, inD3_ss, inD2_ss, q2'])]
  have turn : ∀ (x y : Nat), fns (k + 4) i__law_told [.int 1, .str l, MD, .int (x : Nat), .int (y : Nat)] s = .ok (toldD d) s → ∀ f8 : Option D,
      (sSeq (sSet 8 (eCall (ar 5 (fns (k + 4) i__law_told)) (aCons (eC (.int 1)) (aCons (eVar 0) (aCons (eVar 1) (aCons (DE.e2 ixD (eVar 10) (eC (.int 0))) (aCons (DE.e2 ixD (eVar 10) (eC (.int 1))) aNil)))))))
      (sIf (tOrM (tVal (DE.e2 (eqD true) (eVar 8) (eVar 9))) (tVal (DE.e2 (eqD true) (eVar 1) (eVar 7)))) (sRet (eC (.bl false))) sPass))
      [some (.str l), some MD, some (.int (a : Nat)), some (.int (b : Nat)), some (.str (txt l w)), some (.int (go t a w : Nat)), x6, some K, f8, some (toldD d), some (pD x y), none] s =
      .next [some (.str l), some MD, some (.int (a : Nat)), some (.int (b : Nat)), some (.str (txt l w)), some (.int (go t a w : Nat)), x6, some K, some (toldD d), some (toldD d), some (pD x y), none] s := fun x y h f8 => by
    have z0 : ixD (pD x y) (.int 0) s = .ok (.int (x : Nat)) s := ixD_t0
    have z1 : ixD (pD x y) (.int 1) s = .ok (.int (y : Nat)) s := ixD_t1
    generalize fns (k + 4) = call at *
    generalize pD x y = P at *
    generalize toldD d = T at *
    generalize MD = MM at *
    generalize txt l w = W at *
    simp [bodyF, env0, sSeq, sSet, sIf, sRet, sRetN, sExpr, sPass, sRaise, sBad, eVar, eC, eTup, eLst, aCons, aNil, eCall, ar, DE.e2, eAnd, eOr, eNot, eIf, eNeg, tVal, tAndM, tOrM, tNotM, tYesM, eChain, isiD, tyOf, isTy, eM1, oNone, oSome, eCut, R.bind_ok, R.bind_exc, R.bindS_ok, R.bindS_exc, RS.bind_next, RS.bind_ret, RS.bind_exc, LINE, ofS_inj, ofS_ok, eqD_int, eqD_ss, inD3_ss, inD2_ss, z0, z1, h, q6, q7]
  have fl : ∀ f8 : Option D, ∃ env2, sFor (itV' (eTup (aCons (eTup (aCons (eVar 2) (aCons (eVar 3) aNil))) (aCons (eTup (aCons (eVar 3) (aCons (eVar 2) aNil))) (aCons (eTup (aCons (eVar 2) (aCons (eVar 3) aNil))) aNil))))) (gVar 10)
      (sSeq (sSet 8 (eCall (ar 5 (fns (k + 4) i__law_told)) (aCons (eC (.int 1)) (aCons (eVar 0) (aCons (eVar 1) (aCons (DE.e2 ixD (eVar 10) (eC (.int 0))) (aCons (DE.e2 ixD (eVar 10) (eC (.int 1))) aNil)))))))
      (sIf (tOrM (tVal (DE.e2 (eqD true) (eVar 8) (eVar 9))) (tVal (DE.e2 (eqD true) (eVar 1) (eVar 7)))) (sRet (eC (.bl false))) sPass))
      [some (.str l), some MD, some (.int (a : Nat)), some (.int (b : Nat)), some (.str (txt l w)), some (.int (go t a w : Nat)), x6, some K, f8, some (toldD d), none, none] s = .next env2 s := fun f8 => by
    obtain ⟨env2, h2, _⟩ := for_inv (g := gVar 10) (body := sSeq (sSet 8 (eCall (ar 5 (fns (k + 4) i__law_told)) (aCons (eC (.int 1)) (aCons (eVar 0) (aCons (eVar 1) (aCons (DE.e2 ixD (eVar 10) (eC (.int 0))) (aCons (DE.e2 ixD (eVar 10) (eC (.int 1))) aNil)))))))
      (sIf (tOrM (tVal (DE.e2 (eqD true) (eVar 8) (eVar 9))) (tVal (DE.e2 (eqD true) (eVar 1) (eVar 7)))) (sRet (eC (.bl false))) sPass)) (a := ([pD a b, pD b a, pD a b], none)) (s := s) (by simp)
      (fun env => ∃ f8 f10, env = [some (.str l), some MD, some (.int (a : Nat)), some (.int (b : Nat)), some (.str (txt l w)), some (.int (go t a w : Nat)), x6, some K, f8, some (toldD d), f10, none]) [pD a b, pD b a, pD a b]
      [some (.str l), some MD, some (.int (a : Nat)), some (.int (b : Nat)), some (.str (txt l w)), some (.int (go t a w : Nat)), x6, some K, f8, some (toldD d), none, none] ⟨_, _, rfl⟩ (fun x hx env ⟨f8, f10, he⟩ => by
        subst he
        have hx : x = pD a b ∨ x = pD b a ∨ x = pD a b := by simpa using hx
        rcases hx with rfl | rfl | rfl
        · exact ⟨_, _, rfl, turn a b q3 f8, _, _, rfl⟩
        · exact ⟨_, _, rfl, turn b a q4 f8, _, _, rfl⟩
        · exact ⟨_, _, rfl, turn a b q3 f8, _, _, rfl⟩)
    refine ⟨env2, ?_⟩
    unfold sFor
    have : itV' (eTup (aCons (eTup (aCons (eVar 2) (aCons (eVar 3) aNil))) (aCons (eTup (aCons (eVar 3) (aCons (eVar 2) aNil))) (aCons (eTup (aCons (eVar 2) (aCons (eVar 3) aNil))) aNil))))
      [some (.str l), some MD, some (.int (a : Nat)), some (.int (b : Nat)), some (.str (txt l w)), some (.int (go t a w : Nat)), x6, some K, f8, some (toldD d), none, none] s = .ok ([pD a b, pD b a, pD a b], none) s := by
      unfold pD
      generalize MD = MM at *
      generalize toldD d = T at *
      simp [itV', bodyF, env0, sSeq, sSet, sIf, sRet, sRetN, sExpr, sPass, sRaise, sBad, eVar, eC, eTup, eLst, aCons, aNil, eCall, ar, DE.e2, eAnd, eOr, eNot, eIf, eNeg, tVal, tAndM, tOrM, tNotM, tYesM, eChain, isiD, tyOf, isTy, eM1, oNone, oSome, eCut, R.bind_ok, R.bind_exc, R.bindS_ok, R.bindS_exc, RS.bind_next, RS.bind_ret, RS.bind_exc, LINE, ofS_inj, ofS_ok, eqD_int, eqD_ss, inD3_ss, inD2_ss]
    rw [this]
    exact h2
  obtain ⟨env3, h3⟩ := fl (some (toldD (.int (go t a w : Nat))))
  rw [seq_to h3]
  simp [bodyF, env0, sSeq, sSet, sIf, sRet, sRetN, sExpr, sPass, sRaise, sBad, eVar, eC, eTup, eLst, aCons, aNil, eCall, ar, DE.e2, eAnd, eOr, eNot, eIf, eNeg, tVal, tAndM, tOrM, tNotM, tYesM, eChain, isiD, tyOf, isTy, eM1, oNone, oSome, eCut, R.bind_ok, R.bind_exc, R.bindS_ok, R.bindS_exc, RS.bind_next, RS.bind_ret, RS.bind_exc, LINE, ofS_inj, ofS_ok, eqD_int, eqD_ss, inD3_ss, inD2_ss]
end
end G
/-! K6H: the law's texts, those that are none, the long one -/
namespace G
open PySem PySem.Spec PyProof.Rows L2 DE M6
theorem mulD_k {i j : Int} {s : Store} (h0 : -1000000 < j) (h1 : j < 1000000) : mulD (.int i) (.int j) s = .ok (.int (i * j)) s := by
  unfold mulD
  simp only
  rw [if_pos (.inr (by unfold BIG; omega))]
theorem let_ixI {l : Str} (h : LetF l) {i : Int} (s : Store) (h0 : 0 ≤ i) (hi : i < l.length) : ixD (.str l) (.int i) s = .ok (.str ⟨#[lc l i.toNat]⟩) s := by
  have := let_ixN h (k := i.toNat) s (by omega)
  rw [show ((i.toNat : Nat) : Int) = i by omega] at this
  exact this
theorem len_l {l : Str} (h : LetF l) (s : Store) : lenD [.str l] s = .ok (.int l.length) s := lenD_str (by have := h.len.2; omega)
theorem empty_txt (l : Str) : Str.ofString "" = txt l [] := by rw [empty_str]; rfl
theorem ev_text {l : Str} (hL : LetF l) (k : Nat) (c : Int) (s : Store) : ∃ w, w.length ≤ 12 ∧ Dg l.length w ∧ fns (k + 1) i__law_text [.str l, .int c, .int 12] s = .ok (.str (txt l w)) s := by
  rw [e__law_text]
  have hl := hL.len
  have h13 : 0 ≤ c % 13 ∧ c % 13 < 13 := ⟨Int.emod_nonneg _ (by decide), Int.emod_lt_of_pos _ (by decide)⟩
  have hms : ∀ x3 x4 x5, (aCons (DE.e2 modD (eVar 1) (DE.e2 addD (eVar 2) (eC (.int 1)))) aNil) [some (.str l), some (.int c), some (.int 12), x3, x4, x5] s = .ok [.int ((c % 13).toNat : Nat)] s := fun x3 x4 x5 => by
    have h1 : modD (.int c) (.int 13) s = .ok (.int (((c % 13).toNat : Nat) : Int)) s := by rw [modD_int (by omega)]; congr 2; omega
    generalize (((c % 13).toNat : Nat) : Int) = z at *
    have h2 : addD (.int 12) (.int 1) s = .ok (.int 13) s := rfl
    simp [bodyF, env0, sSeq, sSet, sIf, sRet, sRetN, sExpr, sPass, sRaise, sBad, eVar, eC, eTup, eLst, aCons, aNil, eCall, ar, DE.e2, eAnd, eOr, eNot, eIf, eNeg, tVal, tAndM, tOrM, tNotM, tYesM, eChain, isiD, tyOf, isTy, eM1, oNone, oSome, eCut, R.bind_ok, R.bind_exc, R.bindS_ok, R.bindS_exc, RS.bind_next, RS.bind_ret, RS.bind_exc, LINE, ofS_inj, ofS_ok, eqD_int, eqD_ss, inD3_ss, inD2_ss, h1, h2]
  obtain ⟨env2, s2, e2, w, x4, x5, rfl, rfl, hw, hd⟩ := for_rng (g := gVar 4) (ms := aCons (DE.e2 modD (eVar 1) (DE.e2 addD (eVar 2) (eC (.int 1)))) aNil) (n := (c % 13).toNat)
    (body := sSeq (sSet 5 (DE.e2 modD (DE.e2 addD (DE.e2 mulD (eVar 1) (eC (.int 48271))) (DE.e2 mulD (DE.e2 mulD (eC (.int 7919)) (eVar 4)) (eVar 4))) (eC (.int 1000003))))
      (sSet 3 (DE.e2 addD (eVar 3) (DE.e2 ixD (eVar 0) (DE.e2 modD (DE.e2 fdivD (eVar 5) (eC (.int 7))) (eCall lenD (aCons (eVar 0) aNil)))))))
    (fun j env s2 => ∃ w x4 x5, env = [some (.str l), some (.int c), some (.int 12), some (.str (txt l w)), x4, x5] ∧ s2 = s ∧ w.length = j ∧ Dg l.length w)
    (env := [some (.str l), some (.int c), some (.int 12), some (.str (txt l [])), none, none]) (s := s) (by omega) (hms _ _ _) ⟨[], none, none, rfl, rfl, rfl, .nil⟩
    (fun j hj env s2 ⟨w, x4, x5, he, hs, hw, hd⟩ => by
      subst he hs
      have m1 : mulD (.int c) (.int 48271) s2 = .ok (.int (c * 48271)) s2 := mulD_k (by omega) (by omega)
      have m2 : mulD (.int 7919) (.int (j : Nat)) s2 = .ok (.int (7919 * (j : Nat))) s2 := mulD_k (by omega) (by omega)
      have m3 : mulD (.int (7919 * (j : Nat))) (.int (j : Nat)) s2 = .ok (.int (7919 * (j : Nat) * (j : Nat))) s2 := mulD_k (by omega) (by omega)
      have m4 : modD (.int (c * 48271 + 7919 * (j : Nat) * (j : Nat))) (.int 1000003) s2 = .ok (.int ((c * 48271 + 7919 * (j : Nat) * (j : Nat)) % 1000003)) s2 := modD_int (by omega)
      have a1 : addD (.int (c * 48271)) (.int (7919 * (j : Nat) * (j : Nat))) s2 = .ok (.int (c * 48271 + 7919 * (j : Nat) * (j : Nat))) s2 := rfl
      generalize 7919 * (j : Int) * (j : Int) = z3 at *
      generalize 7919 * (j : Int) = z2 at *
      generalize hN : (c * 48271 + z3) % 1000003 = N at *
      generalize c * 48271 + z3 = z4 at *
      generalize c * 48271 = z1 at *
      have f1 : fdivD (.int N) (.int 7) s2 = .ok (.int (N / 7)) s2 := fdivD_int (by omega)
      have f2 : modD (.int (N / 7)) (.int l.length) s2 = .ok (.int (N / 7 % l.length)) s2 := modD_int (by omega)
      have r1 : 0 ≤ N / 7 % l.length := Int.emod_nonneg _ (by omega)
      have r2 : N / 7 % l.length < l.length := Int.emod_lt_of_pos _ (by omega)
      have f3 := let_ixI hL s2 r1 r2
      have f4 := len_l hL s2
      generalize N / 7 % (l.length : Int) = i at *
      have f5 : addD (.str (txt l w)) (.str ⟨#[lc l i.toNat]⟩) s2 = .ok (.str (txt l (w ++ [i.toNat]))) s2 := by rw [addD_str (by rw [txt_len, sg_len]; omega), txt_snoc]
      refine ⟨[some (.str l), some (.int c), some (.int 12), some (.str (txt l w)), some (.int (j : Nat)), x5], s2, [some (.str l), some (.int c), some (.int 12), some (.str (txt l (w ++ [i.toNat]))), some (.int (j : Nat)), some (.int N)], s2, rfl, ?_, w ++ [i.toNat], _, _, rfl, rfl, by simp [hw], hd.app (.one (by omega))⟩
      rw [seq_to (env1 := [some (.str l), some (.int c), some (.int 12), some (.str (txt l w)), some (.int (j : Nat)), some (.int N)]) (s1 := s2) (by simp [bodyF, env0, sSeq, sSet, sIf, sRet, sRetN, sExpr, sPass, sRaise, sBad, eVar, eC, eTup, eLst, aCons, aNil, eCall, ar, DE.e2, eAnd, eOr, eNot, eIf, eNeg, tVal, tAndM, tOrM, tNotM, tYesM, eChain, isiD, tyOf, isTy, eM1, oNone, oSome, eCut, R.bind_ok, R.bind_exc, R.bindS_ok, R.bindS_exc, RS.bind_next, RS.bind_ret, RS.bind_exc, LINE, ofS_inj, ofS_ok, eqD_int, eqD_ss, inD3_ss, inD2_ss, m1, m2, m3, a1, m4])]
      simp [bodyF, env0, sSeq, sSet, sIf, sRet, sRetN, sExpr, sPass, sRaise, sBad, eVar, eC, eTup, eLst, aCons, aNil, eCall, ar, DE.e2, eAnd, eOr, eNot, eIf, eNeg, tVal, tAndM, tOrM, tNotM, tYesM, eChain, isiD, tyOf, isTy, eM1, oNone, oSome, eCut, R.bind_ok, R.bind_exc, R.bindS_ok, R.bindS_exc, RS.bind_next, RS.bind_ret, RS.bind_exc, LINE, ofS_inj, ofS_ok, eqD_int, eqD_ss, inD3_ss, inD2_ss, f1, f2, f3, f4, f5])
  refine ⟨w, by omega, hd, body_ret ?_⟩
  rw [m__law_text, seq_to (env1 := [some (.str l), some (.int c), some (.int 12), some (.str (txt l [])), none, none]) (s1 := s2) (by rw [← empty_txt l]; generalize Str.ofString "" = Z; simp [bodyF, env0, sSeq, sSet, sIf, sRet, sRetN, sExpr, sPass, sRaise, sBad, eVar, eC, eTup, eLst, aCons, aNil, eCall, ar, DE.e2, eAnd, eOr, eNot, eIf, eNeg, tVal, tAndM, tOrM, tNotM, tYesM, eChain, isiD, tyOf, isTy, eM1, oNone, oSome, eCut, R.bind_ok, R.bind_exc, R.bindS_ok, R.bindS_exc, RS.bind_next, RS.bind_ret, RS.bind_exc, LINE, ofS_inj, ofS_ok, eqD_int, eqD_ss, inD3_ss, inD2_ss]), seq_to e2]
  simp [bodyF, env0, sSeq, sSet, sIf, sRet, sRetN, sExpr, sPass, sRaise, sBad, eVar, eC, eTup, eLst, aCons, aNil, eCall, ar, DE.e2, eAnd, eOr, eNot, eIf, eNeg, tVal, tAndM, tOrM, tNotM, tYesM, eChain, isiD, tyOf, isTy, eM1, oNone, oSome, eCut, R.bind_ok, R.bind_exc, R.bindS_ok, R.bindS_exc, RS.bind_next, RS.bind_ret, RS.bind_exc, LINE, ofS_inj, ofS_ok, eqD_int, eqD_ss, inD3_ss, inD2_ss]
/-! ### the long text -/
theorem rep_one (c : Nat) : ∀ (n : Nat) (acc : Array Nat), (List.replicate n #[c]).foldl (· ++ ·) acc = acc ++ (List.replicate n c).toArray
  | 0, acc => by simp
  | n + 1, acc => by
    rw [List.replicate_succ, List.foldl_cons, rep_one c n]
    apply Array.ext'
    simp [List.replicate_succ]
theorem repS_txt (l : Str) (k n : Nat) : repS (n : Nat) ⟨#[lc l k]⟩ = txt l (List.replicate n k) := by
  unfold repS txt
  rw [show ((n : Int)).toNat = n by omega]
  show (⟨(List.replicate n #[lc l k]).foldl (· ++ ·) #[]⟩ : Str) = _
  rw [rep_one]
  simp
theorem mulS {z : Str} {n : Nat} {s : Store} (h : n ≤ 1000) (hz : z.length ≤ 100) : mulD (.str z) (.int (n : Nat)) s = .ok (.str (repS (n : Nat) z)) s := by
  show (@ite (R D) (0 ≤ (n : Int) ∧ (n : Int) ≤ 100000 ∧ z.length ≤ 100) (Classical.propDecidable _) (.ok (.str (repS (n : Nat) z)) s) .bad) = _
  rw [if_pos ⟨by omega, by omega, hz⟩]
theorem dg_rep {m k n : Nat} (h : k < m) : Dg m (List.replicate n k) := fun j hj => by rw [List.mem_replicate] at hj; omega
theorem ev_longest {n : Nat} {l : Str} {t : Nat → Nat → Nat} {e : Nat → Bool} {s : Store} (M : Mach n l.length t e s) (hL : LetF l) (k : Nat) {a : Nat} (ha : a < n) : fns (k + 5) i__law_longest [.str l, MD, .int (a : Nat)] s = .ok (.bl true) s := by
  rw [e__law_longest]
  have hl := hL.len
  have h0 := MD0 s
  have hlen := len_l hL s
  obtain ⟨m, hm⟩ : ∃ m, l.length = m + 1 := ⟨l.length - 1, by omega⟩
  have hgo : ∀ j, go t a (List.replicate (j + 1) m) = t (go t a (List.replicate j m)) m := fun j => by rw [List.replicate_succ', go_snoc]
  obtain ⟨env2, s2, e2, x4, rfl, rfl⟩ := for_rng (g := gVar 4) (ms := aCons (eC (.int 200)) aNil) (n := 200)
    (body := sSet 3 (DE.e2 ixD (DE.e2 ixD (DE.e2 ixD (eVar 1) (eC (.int 0))) (eVar 3)) (DE.e2 subD (eCall lenD (aCons (eVar 0) aNil)) (eC (.int 1)))))
    (fun j env s2 => ∃ x4, env = [some (.str l), some MD, some (.int (a : Nat)), some (.int (go t a (List.replicate j m) : Nat)), x4] ∧ s2 = s)
    (env := [some (.str l), some MD, some (.int (a : Nat)), some (.int (a : Nat)), none]) (s := s) (by omega) rfl ⟨none, rfl, rfl⟩
    (fun j hj env s2 ⟨x4, he, hs⟩ => by
      subst he hs
      have hr : go t a (List.replicate j m) < n := go_lt M.ht _ a ha (dg_rep (by omega))
      have h1 := M.ix_st hr
      have h2 := M.ix_row hr (k := m) (by omega)
      have h3 : subD (.int (l.length : Nat)) (.int 1) s2 = .ok (.int (m : Nat)) s2 := by rw [subD_int, hm]; congr 2; omega
      refine ⟨[some (.str l), some MD, some (.int (a : Nat)), some (.int (go t a (List.replicate j m) : Nat)), some (.int (j : Nat))], s2, [some (.str l), some MD, some (.int (a : Nat)), some (.int (go t a (List.replicate (j + 1) m) : Nat)), some (.int (j : Nat))], s2, rfl, ?_, _, rfl, rfl⟩
      rw [hgo j]
      generalize go t a (List.replicate j m) = r at *
      generalize MD = MM at *
      simp [bodyF, env0, sSeq, sSet, sIf, sRet, sRetN, sExpr, sPass, sRaise, sBad, eVar, eC, eTup, eLst, aCons, aNil, eCall, ar, DE.e2, eAnd, eOr, eNot, eIf, eNeg, tVal, tAndM, tOrM, tNotM, tYesM, eChain, isiD, tyOf, isTy, eM1, oNone, oSome, eCut, R.bind_ok, R.bind_exc, R.bindS_ok, R.bindS_exc, RS.bind_next, RS.bind_ret, RS.bind_exc, LINE, ofS_inj, ofS_ok, eqD_int, eqD_ss, inD3_ss, inD2_ss, hlen, h0, h1, h2, h3])
  have q1 := told0_ok (ev_room_of M hL k ha (w := List.replicate 200 m) (dg_rep (by omega)) (by simp))
  have q2 := told_eq false (d := .int (go t a (List.replicate 200 m) : Nat)) ⟨by simp [layD], by simp [depD], by simp [pureD]⟩ s2
  have q3 : ixD (.str l) (.int (-1)) s2 = .ok (.str ⟨#[lc l m]⟩) s2 := by
    have hz : l.cps.toList.length = m + 1 := hm
    show (if l.length ≤ LINE then (match atI l.cps.toList (-1) with | some c => (R.ok (D.str ⟨#[c]⟩) s2 : R D) | none => .bad) else .bad) = _
    rw [if_pos (by unfold LINE; omega)]
    have : atI l.cps.toList (-1) = some (lc l m) := by
      have hs : m < l.cps.size := by simpa using (show m < l.cps.toList.length by omega)
      unfold atI ixN
      rw [if_neg (by omega), if_pos (by omega), hz]
      rw [show (-1 + ((m + 1 : Nat) : Int)).toNat = m by omega]
      show l.cps.toList[m]? = _
      simp [lc, Array.getD, hs]
    rw [this]
  have q4 := mulS (z := ⟨#[lc l m]⟩) (n := 200) (s := s2) (by omega) (by rw [sg_len]; omega)
  rw [repS_txt] at q4
  refine body_ret ?_
  rw [m__law_longest, seq_to (env1 := [some (.str l), some MD, some (.int (a : Nat)), some (.int (a : Nat)), none]) (s1 := s2) (by generalize MD = MM; simp [bodyF, env0, sSeq, sSet, sIf, sRet, sRetN, sExpr, sPass, sRaise, sBad, eVar, eC, eTup, eLst, aCons, aNil, eCall, ar, DE.e2, eAnd, eOr, eNot, eIf, eNeg, tVal, tAndM, tOrM, tNotM, tYesM, eChain, isiD, tyOf, isTy, eM1, oNone, oSome, eCut, R.bind_ok, R.bind_exc, R.bindS_ok, R.bindS_exc, RS.bind_next, RS.bind_ret, RS.bind_exc, LINE, ofS_inj, ofS_ok, eqD_int, eqD_ss, inD3_ss, inD2_ss]), seq_to e2]
  have q4' : mulD (.str ⟨#[lc l m]⟩) (.int 200) s2 = .ok (.str (txt l (List.replicate 200 m))) s2 := q4
  simp only [toldD] at q1 q2
  generalize List.replicate 200 m = W at *
  generalize txt l W = T at *
  generalize fns (k + 4) = call at *
  generalize MD = MM at *
  generalize Str.ofString "told" = Z at *
  simp [bodyF, env0, sSeq, sSet, sIf, sRet, sRetN, sExpr, sPass, sRaise, sBad, eVar, eC, eTup, eLst, aCons, aNil, eCall, ar, DE.e2, eAnd, eOr, eNot, eIf, eNeg, tVal, tAndM, tOrM, tNotM, tYesM, eChain, isiD, tyOf, isTy, eM1, oNone, oSome, eCut, R.bind_ok, R.bind_exc, R.bindS_ok, R.bindS_exc, RS.bind_next, RS.bind_ret, RS.bind_exc, LINE, ofS_inj, ofS_ok, eqD_int, eqD_ss, inD3_ss, inD2_ss, q3, q4', q1, q2]
end G
/-! K6I: things that are no text, refusals -/
namespace G
open PySem PySem.Spec PyProof.Rows L2 DE M6
theorem SM_nodup : SM.cps.toList.Nodup := by decide +kernel
theorem LetF.sub {l : Str} (h : LetF l) : ∀ c ∈ l.cps.toList, c ∈ SM.cps.toList := fun c hc => by
  have := h.ok
  simp only [letOk, Bool.and_eq_true, decide_eq_true_eq, List.all_eq_true] at this
  exact (this.2 c hc).1
def oth (l : Str) : List Nat := SM.cps.toList.filter fun c => !decide (c ∈ l.cps.toList)
theorem oth_pos {l : Str} (h : LetF l) : 0 < (oth l).length := by
  rcases Nat.eq_zero_or_pos (oth l).length with q | q
  · have hs : ∀ c ∈ SM.cps.toList, c ∈ l.cps.toList := fun c hc => by
      by_cases z : c ∈ l.cps.toList
      · exact z
      · have : c ∈ oth l := List.mem_filter.mpr ⟨hc, by simpa using z⟩
        rw [List.length_eq_zero_iff.mp q] at this
        cases this
    have h1 := SM_nodup.length_le_of_subset (l₂ := l.cps.toList) hs
    have h2 : SM.cps.toList.length = 26 := SM_len
    have h3 : l.cps.toList.length ≤ 4 := h.len.2
    omega
  · exact q
theorem others_ev {l : Str} (h : LetF l) (x1 : Option D) (s : Store) : eLc (itV' (eC (.str SM))) (.one 5) [5] (tVal (DE.e2 (inD true) (eVar 5) (eVar 0))) (eVar 5) [some (.str l), x1, none, none, none, none] s = .ok (.lst ((oth l).map fun c => .str ⟨#[c]⟩)) s := by
  unfold oth
  refine eLc_by (fun c => .str ⟨#[c]⟩) _ _ SM.cps.toList ?_ (by have : SM.cps.toList.length = 26 := SM_len; omega) fun c hc => ⟨_, rfl, ?_, fun _ => ?_⟩
  · generalize SM = Z
    simp [itV', bodyF, env0, sSeq, sSet, sIf, sRet, sRetN, sExpr, sPass, sRaise, sBad, eVar, eC, eTup, eLst, aCons, aNil, eCall, ar, DE.e2, eAnd, eOr, eNot, eIf, eNeg, tVal, tAndM, tOrM, tNotM, tYesM, eChain, isiD, tyOf, isTy, eM1, oNone, oSome, eCut, R.bind_ok, R.bind_exc, R.bindS_ok, R.bindS_exc, RS.bind_next, RS.bind_ret, RS.bind_exc, LINE, ofS_inj, ofS_ok, eqD_int, eqD_ss, inD3_ss, inD2_ss, DE.signs]
  · by_cases q : c ∈ l.cps
    · simp [bodyF, env0, sSeq, sSet, sIf, sRet, sRetN, sExpr, sPass, sRaise, sBad, eVar, eC, eTup, eLst, aCons, aNil, eCall, ar, DE.e2, eAnd, eOr, eNot, eIf, eNeg, tVal, tAndM, tOrM, tNotM, tYesM, eChain, isiD, tyOf, isTy, eM1, oNone, oSome, eCut, R.bind_ok, R.bind_exc, R.bindS_ok, R.bindS_exc, RS.bind_next, RS.bind_ret, RS.bind_exc, LINE, ofS_inj, ofS_ok, eqD_int, eqD_ss, inD3_ss, inD2_ss, wipeE, inD, q]
    · simp [bodyF, env0, sSeq, sSet, sIf, sRet, sRetN, sExpr, sPass, sRaise, sBad, eVar, eC, eTup, eLst, aCons, aNil, eCall, ar, DE.e2, eAnd, eOr, eNot, eIf, eNeg, tVal, tAndM, tOrM, tNotM, tYesM, eChain, isiD, tyOf, isTy, eM1, oNone, oSome, eCut, R.bind_ok, R.bind_exc, R.bindS_ok, R.bindS_exc, RS.bind_next, RS.bind_ret, RS.bind_exc, LINE, ofS_inj, ofS_ok, eqD_int, eqD_ss, inD3_ss, inD2_ss, wipeE, inD, q]
  · simp [bodyF, env0, sSeq, sSet, sIf, sRet, sRetN, sExpr, sPass, sRaise, sBad, eVar, eC, eTup, eLst, aCons, aNil, eCall, ar, DE.e2, eAnd, eOr, eNot, eIf, eNeg, tVal, tAndM, tOrM, tNotM, tYesM, eChain, isiD, tyOf, isTy, eM1, oNone, oSome, eCut, R.bind_ok, R.bind_exc, R.bindS_ok, R.bindS_exc, RS.bind_next, RS.bind_ret, RS.bind_exc, LINE, ofS_inj, ofS_ok, eqD_int, eqD_ss, inD3_ss, inD2_ss, wipeE]
theorem addD_lst {xs ys : List D} {s : Store} (h : xs.length + ys.length ≤ 1000) : addD (.lst xs) (.lst ys) s = .ok (.lst (xs ++ ys)) s := by
  show (if xs.length + ys.length ≤ sizeLine then (R.ok (D.lst (xs ++ ys)) s : R D) else .bad) = _
  rw [if_pos (Nat.le_trans h (by decide))]
/-- no text -/
def Bad (l : Str) (d : D) : Prop := pl d = true ∧ ¬ textOk l d
theorem bad_str {l z : Str} (h1 : strOk' z = true) (h2 : z.length ≤ 1000) {c : Nat} (h3 : c ∈ z.cps.toList) (h4 : c ∉ l.cps.toList) : Bad l (.str z) :=
  ⟨by simp only [pl, Bool.and_eq_true, decide_eq_true_eq]; exact ⟨h1, h2⟩, fun h => h4 (h.2 c h3)⟩
theorem sok_app {x y : Str} (hx : strOk' x = true) (hy : strOk' y = true) : strOk' (x ++ y) = true := by
  unfold strOk' at hx hy ⊢
  show (x.cps ++ y.cps).all _ = true
  rw [Array.all_append, hx, hy]
  rfl
theorem app_len (x y : Str) : (x ++ y).length = x.length + y.length := by
  show (x.cps ++ y.cps).size = _
  rw [Array.size_append]
  rfl
theorem app_mem {x y : Str} {c : Nat} : c ∈ (x ++ y).cps.toList ↔ c ∈ x.cps.toList ∨ c ∈ y.cps.toList := by
  show c ∈ (x.cps ++ y.cps).toList ↔ _
  simp
theorem sg_sok {c : Nat} (h : c < 0x110000) : strOk' ⟨#[c]⟩ = true := by simp [strOk', h]
def odds6 (l : Str) (g : Nat) : List D := [.non, .int 5, .lst [.str l], .tup [.str ⟨#[lc l 0]⟩], .str (l ++ Str.ofString "A"), .str ⟨#[g]⟩, .str (l ++ ⟨#[g]⟩), .str (⟨#[g]⟩ ++ l), .str (Str.ofString " ")] ++ [.str (repS (201 : Nat) ⟨#[lc l 0]⟩), .bl true]
theorem odds6_bad {l : Str} (h : LetF l) {g : Nat} (hg : g ∈ oth l) : ∀ d ∈ odds6 l g, Bad l d := by
  obtain ⟨hg1, hg2⟩ := List.mem_filter.mp hg
  have hg2 : g ∉ l.cps.toList := by simpa using hg2
  have hgs : g < 0x110000 := by
    have : ∀ c ∈ SM.cps.toList, c < 0x110000 := by decide +kernel
    exact this g hg1
  have hl := h.len
  have hA : (Str.ofString "A").cps.toList = [65] := by decide +kernel
  have hS : (Str.ofString " ").cps.toList = [32] := by decide +kernel
  have nA : 65 ∉ l.cps.toList := fun q => absurd (h.sub _ q) (by decide +kernel)
  have nS : 32 ∉ l.cps.toList := fun q => absurd (h.sub _ q) (by decide +kernel)
  have lA : (Str.ofString "A").length = 1 := by decide +kernel
  have lS : (Str.ofString " ").length = 1 := by decide +kernel
  have hg3 : g ∈ (⟨#[g]⟩ : Str).cps.toList := by simp
  have pe : strOk' (⟨#[lc l 0]⟩ : Str) = true := by
    have h0 := h.sok
    unfold strOk' at h0
    rw [← Array.all_toList, List.all_eq_true] at h0
    exact sg_sok (by simpa using h0 _ (lc_mem (k := 0) (by omega)))
  intro d hd
  unfold odds6 at hd
  simp only [List.cons_append, List.nil_append, List.mem_cons, List.not_mem_nil, or_false] at hd
  rcases hd with rfl | rfl | rfl | rfl | rfl | rfl | rfl | rfl | rfl | rfl | rfl
  · exact ⟨by simp [pl], fun q => q⟩
  · exact ⟨by simp [pl], fun q => q⟩
  · exact ⟨by have := h.pl; rw [pl]; simp [pls, this], fun q => q⟩
  · refine ⟨?_, fun q => q⟩
    have : pl (.str ⟨#[lc l 0]⟩) = true := by simp only [pl, Bool.and_eq_true, decide_eq_true_eq]; exact ⟨pe, by rw [sg_len]; omega⟩
    rw [pl]; simp [pls, this]
  · exact bad_str (sok_app h.sok (ofS_ok _)) (by rw [app_len, lA]; omega) (c := 65) (app_mem.mpr (.inr (by rw [hA]; simp))) nA
  · exact bad_str (sg_sok hgs) (by rw [sg_len]; omega) hg3 hg2
  · exact bad_str (sok_app h.sok (sg_sok hgs)) (by rw [app_len, sg_len]; omega) (app_mem.mpr (.inr hg3)) hg2
  · exact bad_str (sok_app (sg_sok hgs) h.sok) (by rw [app_len, sg_len]; omega) (app_mem.mpr (.inl hg3)) hg2
  · exact bad_str (ofS_ok _) (by rw [lS]; omega) (c := 32) (by rw [hS]; simp) nS
  · rw [repS_txt]
    refine ⟨txt_pl h (dg_rep (by omega)) (by simp), fun q => ?_⟩
    have := q.1
    rw [txt_len, List.length_replicate] at this
    omega
  · exact ⟨by simp [pl], fun q => q⟩
theorem ev_no_text {l : Str} (h : LetF l) (k : Nat) (c : Int) (s : Store) : ∃ d, Bad l d ∧ fns (k + 1) i__law_no_text [.str l, .int c] s = .ok d s := by
  rw [e__law_no_text]
  have hl := h.len
  have hpos := oth_pos h
  have e0 := others_ev h (some (.int c)) s
  have f1 : fdivD (.int c) (.int 11) s = .ok (.int (c / 11)) s := fdivD_int (by omega)
  have f2 : lenD [.lst ((oth l).map fun c => .str ⟨#[c]⟩)] s = .ok (.int (oth l).length) s := by rw [lenD_lst, List.length_map]
  have f3 : modD (.int (c / 11)) (.int (oth l).length) s = .ok (.int (c / 11 % (oth l).length)) s := modD_int (by omega)
  obtain ⟨x, hx, f4⟩ := ixD_int (xs := (oth l).map fun c => D.str ⟨#[c]⟩) (i := c / 11 % (oth l).length) (s := s) (Int.emod_nonneg _ (by omega)) (by rw [List.length_map]; exact Int.emod_lt_of_pos _ (by omega))
  obtain ⟨g, hg, rfl⟩ := List.mem_map.mp hx
  have f5 := let_ixI h (i := 0) s (by omega) (by omega)
  have f6 := mulS (z := ⟨#[lc l 0]⟩) (n := 201) (s := s) (by omega) (by rw [sg_len]; omega)
  have f6' : mulD (.str ⟨#[lc l (0 : Int).toNat]⟩) (.int 201) s = .ok (.str (repS (201 : Nat) ⟨#[lc l 0]⟩)) s := f6
  have f7 : modD (.int c) (.int 11) s = .ok (.int (c % 11)) s := modD_int (by omega)
  obtain ⟨d, hd, f8⟩ := ixD_int (xs := odds6 l g) (i := c % 11) (s := s) (Int.emod_nonneg _ (by omega)) (by show c % 11 < 11; exact Int.emod_lt_of_pos _ (by omega))
  refine ⟨d, odds6_bad h hg d hd, body_ret ?_⟩
  have lA : (Str.ofString "A").length = 1 := by decide +kernel
  have f9 : addD (.str l) (.str (Str.ofString "A")) s = .ok (.str (l ++ Str.ofString "A")) s := addD_str (by rw [lA]; omega)
  have f10 : addD (.str l) (.str ⟨#[g]⟩) s = .ok (.str (l ++ ⟨#[g]⟩)) s := addD_str (by rw [sg_len]; omega)
  have f11 : addD (.str ⟨#[g]⟩) (.str l) s = .ok (.str (⟨#[g]⟩ ++ l)) s := addD_str (by rw [sg_len]; omega)
  have f12 : addD (.lst [.non, .int 5, .lst [.str l], .tup [.str ⟨#[lc l (0 : Int).toNat]⟩], .str (l ++ Str.ofString "A"), .str ⟨#[g]⟩, .str (l ++ ⟨#[g]⟩), .str (⟨#[g]⟩ ++ l), .str (Str.ofString " ")]) (.lst [.str (repS (201 : Nat) ⟨#[lc l 0]⟩), .bl true]) s = .ok (.lst (odds6 l g)) s := by
    exact addD_lst (by show 9 + 2 ≤ 1000; omega)
  rw [m__law_no_text]
  have e1 : Str.ofString "abcdefghijklmnopqrstuvwxyz" = SM := rfl
  rw [e1]
  rw [seq_to (env1 := [some (.str l), some (.int c), some (.lst ((oth l).map fun c => .str ⟨#[c]⟩)), none, none, none]) (s1 := s) (by
    show sSet 2 _ [some (.str l), some (.int c), none, none, none, none] s = _
    unfold sSet
    rw [e0]
    rfl)]
  generalize D.lst ((oth l).map fun c => .str ⟨#[c]⟩) = O at *
  rw [seq_to (env1 := [some (.str l), some (.int c), some O, some (.str ⟨#[g]⟩), none, none]) (s1 := s) (by simp [bodyF, env0, sSeq, sSet, sIf, sRet, sRetN, sExpr, sPass, sRaise, sBad, eVar, eC, eTup, eLst, aCons, aNil, eCall, ar, DE.e2, eAnd, eOr, eNot, eIf, eNeg, tVal, tAndM, tOrM, tNotM, tYesM, eChain, isiD, tyOf, isTy, eM1, oNone, oSome, eCut, R.bind_ok, R.bind_exc, R.bindS_ok, R.bindS_exc, RS.bind_next, RS.bind_ret, RS.bind_exc, LINE, ofS_inj, ofS_ok, eqD_int, eqD_ss, inD3_ss, inD2_ss, f1, f2, f3, f4])]
  generalize odds6 l g = OD at *
  generalize repS (201 : Nat) ⟨#[lc l 0]⟩ = RP at *
  generalize hN : (0 : Int).toNat = N0 at *
  generalize Str.ofString "A" = ZA at *
  generalize Str.ofString " " = ZS at *
  rw [seq_to (env1 := [some (.str l), some (.int c), some O, some (.str ⟨#[g]⟩), some (.lst [.non, .int 5, .lst [.str l], .tup [.str ⟨#[lc l N0]⟩], .str (l ++ ZA), .str ⟨#[g]⟩, .str (l ++ ⟨#[g]⟩), .str (⟨#[g]⟩ ++ l), .str ZS]), none]) (s1 := s) (by simp [bodyF, env0, sSeq, sSet, sIf, sRet, sRetN, sExpr, sPass, sRaise, sBad, eVar, eC, eTup, eLst, aCons, aNil, eCall, ar, DE.e2, eAnd, eOr, eNot, eIf, eNeg, tVal, tAndM, tOrM, tNotM, tYesM, eChain, isiD, tyOf, isTy, eM1, oNone, oSome, eCut, R.bind_ok, R.bind_exc, R.bindS_ok, R.bindS_exc, RS.bind_next, RS.bind_ret, RS.bind_exc, LINE, ofS_inj, ofS_ok, eqD_int, eqD_ss, inD3_ss, inD2_ss, f5, f9, f10, f11])]
  generalize D.lst [.non, .int 5, .lst [.str l], .tup [.str ⟨#[lc l N0]⟩], .str (l ++ ZA), .str ⟨#[g]⟩, .str (l ++ ⟨#[g]⟩), .str (⟨#[g]⟩ ++ l), .str ZS] = L9 at *
  simp [bodyF, env0, sSeq, sSet, sIf, sRet, sRetN, sExpr, sPass, sRaise, sBad, eVar, eC, eTup, eLst, aCons, aNil, eCall, ar, DE.e2, eAnd, eOr, eNot, eIf, eNeg, tVal, tAndM, tOrM, tNotM, tYesM, eChain, isiD, tyOf, isTy, eM1, oNone, oSome, eCut, R.bind_ok, R.bind_exc, R.bindS_ok, R.bindS_exc, RS.bind_next, RS.bind_ret, RS.bind_exc, LINE, ofS_inj, ofS_ok, eqD_int, eqD_ss, inD3_ss, inD2_ss, f5, f6', f12, f7, f8]
end G
/-! K6J: what is refused -/
namespace G
open PySem PySem.Spec PyProof.Rows L2 DE M6
def wrongs (n : Nat) : List D := [.int (-1), .int (n : Nat), .bl true, .non, .str (Str.ofString "0"), .lst [.int 0], .int ((n : Nat) + 1000000000), .bl false, .tup [.int 0]]
theorem pl_short {x : String} (h : (Str.ofString x).length ≤ 1000) : pl (.str (Str.ofString x)) = true := by
  simp only [pl, Bool.and_eq_true, decide_eq_true_eq]
  exact ⟨ofS_ok x, h⟩
theorem wrongs_ok (n : Nat) : ∀ d ∈ wrongs n, pl d = true ∧ ¬ roomOk n d := by
  intro d hd
  unfold wrongs at hd
  simp only [List.mem_cons, List.not_mem_nil, or_false] at hd
  rcases hd with rfl | rfl | rfl | rfl | rfl | rfl | rfl | rfl | rfl
  · exact ⟨by simp [pl], fun q => by have := q.1; omega⟩
  · exact ⟨by simp [pl], fun q => by have := q.2; omega⟩
  · exact ⟨by simp [pl], fun q => q⟩
  · exact ⟨by simp [pl], fun q => q⟩
  · exact ⟨pl_short (by decide +kernel), fun q => q⟩
  · exact ⟨by simp [pl, pls], fun q => q⟩
  · exact ⟨by simp [pl], fun q => by have := q.2; omega⟩
  · exact ⟨by simp [pl], fun q => q⟩
  · exact ⟨by simp [pl, pls], fun q => q⟩
def nols : List D := [.str (Str.ofString ""), .str (Str.ofString "aa"), .non, .str (Str.ofString "abcde"), .str (Str.ofString "a1")]
theorem nols_ok : ∀ d ∈ nols, pl d = true ∧ letOk d = false := by
  intro d hd
  unfold nols at hd
  simp only [List.mem_cons, List.not_mem_nil, or_false] at hd
  rcases hd with rfl | rfl | rfl | rfl | rfl
  · exact ⟨pl_short (by decide +kernel), by decide +kernel⟩
  · exact ⟨pl_short (by decide +kernel), by decide +kernel⟩
  · exact ⟨by simp [pl], rfl⟩
  · exact ⟨pl_short (by decide +kernel), by decide +kernel⟩
  · exact ⟨pl_short (by decide +kernel), by decide +kernel⟩
theorem addN_ev {s : Store} {c : Nat} {xs ys : List D} (h : s[c]? = some (.lst xs)) (hl : xs.length + ys.length ≤ 1000) : addN (.ref c) (.lst ys) s = .ok (.ref s.length) (s ++ [.lst (xs ++ ys)]) := by
  have h1 : rdL s (.ref c) = some xs := by
    show (match s[c]? with | some (.lst xs) => some xs | _ => none) = _
    rw [h]
  have h2 : rdL s (.lst ys) = some ys := rfl
  unfold addN
  simp only [h1, h2]
  rw [if_pos (Nat.le_trans hl (by decide))]
theorem kind_lay (c : Nat) : layD (kindD c) = true := by
  have : ∃ x, kw c = Str.ofString x := by unfold kw; split <;> exact ⟨_, rfl⟩
  obtain ⟨x, hx⟩ := this
  unfold kindD
  rw [hx]
  simp [layD, layDs, ofS_ok]
theorem ev_refused {n : Nat} {l : Str} {t : Nat → Nat → Nat} {e : Nat → Bool} {s : Store} (M : Mach n l.length t e s) (hL : LetF l) (k : Nat) {a : Nat} (ha : a < n) (c : Int) : ∃ s', fns (k + 5) i__law_refused [.str l, MD, .int (a : Nat), .int c] s = .ok (.bl true) s' := by
  rw [e__law_refused]
  have hn := M.n14
  have f1 : modD (.int c) (.int 9) s = .ok (.int (c % 9)) s := modD_int (by omega)
  obtain ⟨wr, hw, f2⟩ := ixD_int (xs := wrongs n) (i := c % 9) (s := s) (Int.emod_nonneg _ (by omega)) (by show c % 9 < 9; exact Int.emod_lt_of_pos _ (by omega))
  obtain ⟨w1, w2⟩ := wrongs_ok n wr hw
  have f3 : powD (.int 10) (.int 9) s = .ok (.int 1000000000) s := by
    unfold powD
    simp only
    rw [if_pos ⟨by omega, by omega, by decide⟩]
    rfl
  have f4 := M.len_en
  have f5 := MD1 s
  have pa : pl (.int (a : Nat)) = true := pl_int _
  have ra : roomOk n (.int (a : Nat)) := room_int ha
  -- the six answers, wherever the machine stands
  have t1 : ∀ s, Mach n l.length t e s → fns (k + 4) i__law_told [.int 0, .str l, MD, wr, .non] s = .ok (kindD 5) s := fun s M => told0_exc (by omega) (by omega) (room_of_r M hL k w1 w2)
  obtain ⟨s1, hs1⟩ : ∃ s1, s1 = s ++ [Cell.lst [kindD 5]] := ⟨_, rfl⟩
  have M1 : Mach n l.length t e s1 := by rw [hs1]; exact M.push _
  obtain ⟨nt, hnt, f6⟩ := ev_no_text hL (k + 3) (c / 45) s1
  have f7 : ∀ s, fdivD (.int c) (.int 45) s = .ok (.int (c / 45)) s := fun s => fdivD_int (by omega)
  have t2 : fns (k + 4) i__law_told [.int 0, .str l, MD, .int (a : Nat), nt] s1 = .ok (kindD 4) s1 := told0_exc (by omega) (by omega) (room_of_t M1 hL k pa ra hnt.1 hnt.2)
  have t3 : ∀ s, Mach n l.length t e s → fns (k + 4) i__law_told [.int 1, .str l, MD, wr, .int (a : Nat)] s = .ok (kindD 5) s := fun s M => told1_exc (by omega) (by omega) (parting_r M hL k w1 w2)
  have t4 : ∀ s, Mach n l.length t e s → fns (k + 4) i__law_told [.int 1, .str l, MD, .int (a : Nat), wr] s = .ok (kindD 5) s := fun s M => told1_exc (by omega) (by omega) (parting_o M hL k pa ra w1 w2)
  obtain ⟨s2, hs2⟩ : ∃ s2, s2 = s ++ [Cell.lst [kindD 5, kindD 4]] := ⟨_, rfl⟩
  have M2 : Mach n l.length t e s2 := by rw [hs2]; exact M.push _
  obtain ⟨s3, hs3⟩ : ∃ s3, s3 = s2 ++ [Cell.lst [kindD 5, kindD 4, kindD 5, kindD 5]] := ⟨_, rfl⟩
  have M3 : Mach n l.length t e s3 := by rw [hs3]; exact M2.push _
  obtain ⟨nl, hnl, f8⟩ := ixD_int (xs := nols) (i := c / 9 % 5) (s := s3) (Int.emod_nonneg _ (by omega)) (by show c / 9 % 5 < 5; exact Int.emod_lt_of_pos _ (by omega))
  obtain ⟨n1, n2⟩ := nols_ok nl hnl
  have f9 : fdivD (.int c) (.int 9) s3 = .ok (.int (c / 9)) s3 := fdivD_int (by omega)
  have f10 : modD (.int (c / 9)) (.int 5) s3 = .ok (.int (c / 9 % 5)) s3 := modD_int (by omega)
  have t5 : ∀ s, fns (k + 4) i__law_told [.int 0, nl, MD, wr, .non] s = .ok (kindD 1) s := fun s => told0_exc (by omega) (by omega) (room_of_l n1 n2)
  have t6 : ∀ s, fns (k + 4) i__law_told [.int 1, nl, MD, wr, wr] s = .ok (kindD 1) s := fun s => told1_exc (by omega) (by omega) (parting_l n1 n2)
  obtain ⟨s4, hs4⟩ : ∃ s4, s4 = s3 ++ [Cell.lst [kindD 5, kindD 4, kindD 5, kindD 5, kindD 1, kindD 1]] := ⟨_, rfl⟩
  have l1 : s1[s.length]? = some (.lst [kindD 5]) := by rw [hs1]; exact last_at _ _
  obtain ⟨a1, a2⟩ := app_ev (d := kindD 4) l1 (by show 1 < 1000; omega)
  have a2' : apD (.ref s.length) (kindD 4) s1 = .ok .non s2 := by
    rw [a2, hs1, set_last, hs2]
    rfl
  have l2 : s2[s.length]? = some (.lst [kindD 5, kindD 4]) := by rw [hs2]; exact last_at _ _
  have a3 : addN (.ref s.length) (.lst [kindD 5, kindD 5]) s2 = .ok (.ref s2.length) s3 := by
    rw [addN_ev l2 (by show 2 + 2 ≤ 1000; omega), hs3]
    rfl
  have l3 : s3[s2.length]? = some (.lst [kindD 5, kindD 4, kindD 5, kindD 5]) := by rw [hs3]; exact last_at _ _
  have a4 : addN (.ref s2.length) (.lst [kindD 1, kindD 1]) s3 = .ok (.ref s3.length) s4 := by
    rw [addN_ev l3 (by show 4 + 2 ≤ 1000; omega), hs4]
    rfl
  have l4 : s4[s3.length]? = some (.lst [kindD 5, kindD 4, kindD 5, kindD 5, kindD 1, kindD 1]) := by rw [hs4]; exact last_at _ _
  have kp : ∀ c, pureD (kindD c) = true := fun c => by simp [kindD, pureD, pureDs]
  have kd : ∀ c, depD (kindD c) = 1 := fun c => by simp [kindD, depD, depDs]
  have pp : pureDs [kindD 5, kindD 4, kindD 5, kindD 5, kindD 1, kindD 1] = true := by simp [pureDs, kp]
  have fin : eqD false (.ref s3.length) (.lst [kindD 5, kindD 4, kindD 5, kindD 5, kindD 1, kindD 1]) s4 = .ok (.bl true) s4 := by
    refine eqD_same false (d := .lst [kindD 5, kindD 4, kindD 5, kindD 5, kindD 1, kindD 1]) ?_ (sub_pure _ _ (by simpa [pureD] using pp)) (by simp [layD, layDs, kind_lay]) (by simp [depD, depDs, kd])
    show sub (fr s4 0 3) (.ref s3.length) = _
    simp only [sub]
    exact fr_lst l4 (subs_pure _ _ pp)
  refine ⟨s4, body_ret ?_⟩
  rw [m__law_refused]
  have hkd : ∀ x : String, ∀ i, kw i = Str.ofString x → D.lst [.str (Str.ofString x)] = kindD i := fun x i h => by rw [kindD, h]
  have k5 := hkd "room" 5 rfl
  have k4 := hkd "text" 4 rfl
  have k1 := hkd "letters" 1 rfl
  rw [seq_to (env1 := [some (.str l), some MD, some (.int (a : Nat)), some (.int c), some (.int (n : Nat)), none, none, none]) (s1 := s) (by
    generalize MD = MM at *
    simp [bodyF, env0, sSeq, sSet, sIf, sRet, sRetN, sExpr, sPass, sRaise, sBad, eVar, eC, eTup, eLst, aCons, aNil, eCall, ar, DE.e2, eAnd, eOr, eNot, eIf, eNeg, tVal, tAndM, tOrM, tNotM, tYesM, eChain, isiD, tyOf, isTy, eM1, oNone, oSome, eCut, R.bind_ok, R.bind_exc, R.bindS_ok, R.bindS_exc, RS.bind_next, RS.bind_ret, RS.bind_exc, LINE, ofS_inj, ofS_ok, eqD_int, eqD_ss, inD3_ss, inD2_ss, f5, f4])]
  have f11 : addD (.int (n : Nat)) (.int 1000000000) s = .ok (.int ((n : Nat) + 1000000000)) s := rfl
  rw [seq_to (env1 := [some (.str l), some MD, some (.int (a : Nat)), some (.int c), some (.int (n : Nat)), some wr, none, none]) (s1 := s) (by
    unfold wrongs at f2
    generalize MD = MM at *
    generalize ((n : Nat) : Int) + 1000000000 = big at *
    generalize (1000000000 : Int) = e9 at *
    generalize Str.ofString "0" = Z at *
    simp [bodyF, env0, sSeq, sSet, sIf, sRet, sRetN, sExpr, sPass, sRaise, sBad, eVar, eC, eTup, eLst, aCons, aNil, eCall, ar, DE.e2, eAnd, eOr, eNot, eIf, eNeg, tVal, tAndM, tOrM, tNotM, tYesM, eChain, isiD, tyOf, isTy, eM1, oNone, oSome, eCut, R.bind_ok, R.bind_exc, R.bindS_ok, R.bindS_exc, RS.bind_next, RS.bind_ret, RS.bind_exc, LINE, ofS_inj, ofS_ok, eqD_int, eqD_ss, inD3_ss, inD2_ss, f1, f3, f11, f2])]
  rw [seq_to (env1 := [some (.str l), some MD, some (.int (a : Nat)), some (.int c), some (.int (n : Nat)), some wr, some (.ref s.length), none]) (s1 := s1) (by
    have t1 := t1 s M
    generalize fns (k + 4) = call at *
    generalize MD = MM at *
    simp [bodyF, env0, sSeq, sSet, sIf, sRet, sRetN, sExpr, sPass, sRaise, sBad, eVar, eC, eTup, eLst, aCons, aNil, eCall, ar, DE.e2, eAnd, eOr, eNot, eIf, eNeg, tVal, tAndM, tOrM, tNotM, tYesM, eChain, isiD, tyOf, isTy, eM1, oNone, oSome, eCut, R.bind_ok, R.bind_exc, R.bindS_ok, R.bindS_exc, RS.bind_next, RS.bind_ret, RS.bind_exc, LINE, ofS_inj, ofS_ok, eqD_int, eqD_ss, inD3_ss, inD2_ss, eNew, t1, hs1])]
  have f7 := f7 s1
  rw [seq_to (env1 := [some (.str l), some MD, some (.int (a : Nat)), some (.int c), some (.int (n : Nat)), some wr, some (.ref s.length), none]) (s1 := s2) (by
    clear hs1 hs2 hs3 hs4 a2
    have f6' : fns (k + 4) i__law_no_text [.str l, .int (c / 45)] s1 = .ok nt s1 := f6
    clear f6
    generalize c / 45 = c45 at *
    generalize fns (k + 4) = call at *
    generalize MD = MM at *
    simp [bodyF, env0, sSeq, sSet, sIf, sRet, sRetN, sExpr, sPass, sRaise, sBad, eVar, eC, eTup, eLst, aCons, aNil, eCall, ar, DE.e2, eAnd, eOr, eNot, eIf, eNeg, tVal, tAndM, tOrM, tNotM, tYesM, eChain, isiD, tyOf, isTy, eM1, oNone, oSome, eCut, R.bind_ok, R.bind_exc, R.bindS_ok, R.bindS_exc, RS.bind_next, RS.bind_ret, RS.bind_exc, LINE, ofS_inj, ofS_ok, eqD_int, eqD_ss, inD3_ss, inD2_ss, eLM, f7, f6', t2, a1, a2'])]
  have t3 := t3 s2 M2
  have t4 := t4 s2 M2
  rw [seq_to (env1 := [some (.str l), some MD, some (.int (a : Nat)), some (.int c), some (.int (n : Nat)), some wr, some (.ref s2.length), none]) (s1 := s3) (by
    clear hs1 hs2 hs3 hs4 a2 f6 t1 t2 t5 t6
    generalize fns (k + 4) = call at *
    generalize MD = MM at *
    simp [bodyF, env0, sSeq, sSet, sIf, sRet, sRetN, sExpr, sPass, sRaise, sBad, eVar, eC, eTup, eLst, aCons, aNil, eCall, ar, DE.e2, eAnd, eOr, eNot, eIf, eNeg, tVal, tAndM, tOrM, tNotM, tYesM, eChain, isiD, tyOf, isTy, eM1, oNone, oSome, eCut, R.bind_ok, R.bind_exc, R.bindS_ok, R.bindS_exc, RS.bind_next, RS.bind_ret, RS.bind_exc, LINE, ofS_inj, ofS_ok, eqD_int, eqD_ss, inD3_ss, inD2_ss, t3, t4, a3])]
  rw [seq_to (env1 := [some (.str l), some MD, some (.int (a : Nat)), some (.int c), some (.int (n : Nat)), some wr, some (.ref s2.length), some nl]) (s1 := s3) (by
    clear hs1 hs2 hs3 hs4 a2 f6 t1 t2 t3 t4 t5 t6
    unfold nols at f8
    generalize MD = MM at *
    generalize Str.ofString "" = Z0 at *
    generalize Str.ofString "aa" = Z1 at *
    generalize Str.ofString "abcde" = Z2 at *
    generalize Str.ofString "a1" = Z3 at *
    generalize c / 9 % 5 = ci at *
    generalize c / 9 = c9 at *
    simp [bodyF, env0, sSeq, sSet, sIf, sRet, sRetN, sExpr, sPass, sRaise, sBad, eVar, eC, eTup, eLst, aCons, aNil, eCall, ar, DE.e2, eAnd, eOr, eNot, eIf, eNeg, tVal, tAndM, tOrM, tNotM, tYesM, eChain, isiD, tyOf, isTy, eM1, oNone, oSome, eCut, R.bind_ok, R.bind_exc, R.bindS_ok, R.bindS_exc, RS.bind_next, RS.bind_ret, RS.bind_exc, LINE, ofS_inj, ofS_ok, eqD_int, eqD_ss, inD3_ss, inD2_ss, f9, f10, f8])]
  have t5 := t5 s3
  have t6 := t6 s3
  rw [seq_to (env1 := [some (.str l), some MD, some (.int (a : Nat)), some (.int c), some (.int (n : Nat)), some wr, some (.ref s3.length), some nl]) (s1 := s4) (by
    clear hs1 hs2 hs3 hs4 a2 f6 t1 t2 t3 t4
    generalize fns (k + 4) = call at *
    generalize MD = MM at *
    simp [bodyF, env0, sSeq, sSet, sIf, sRet, sRetN, sExpr, sPass, sRaise, sBad, eVar, eC, eTup, eLst, aCons, aNil, eCall, ar, DE.e2, eAnd, eOr, eNot, eIf, eNeg, tVal, tAndM, tOrM, tNotM, tYesM, eChain, isiD, tyOf, isTy, eM1, oNone, oSome, eCut, R.bind_ok, R.bind_exc, R.bindS_ok, R.bindS_exc, RS.bind_next, RS.bind_ret, RS.bind_exc, LINE, ofS_inj, ofS_ok, eqD_int, eqD_ss, inD3_ss, inD2_ss, t5, t6, a4])]
  clear hs1 hs2 hs3 hs4 a2 f6 t1 t2 t3 t4 t5 t6
  rw [← k5, ← k4, ← k1] at fin
  clear k5 k4 k1
  generalize MD = MM at *
  generalize Str.ofString "room" = Z0 at *
  generalize Str.ofString "text" = Z1 at *
  generalize Str.ofString "letters" = Z2 at *
  simp [bodyF, env0, sSeq, sSet, sIf, sRet, sRetN, sExpr, sPass, sRaise, sBad, eVar, eC, eTup, eLst, aCons, aNil, eCall, ar, DE.e2, eAnd, eOr, eNot, eIf, eNeg, tVal, tAndM, tOrM, tNotM, tYesM, eChain, isiD, tyOf, isTy, eM1, oNone, oSome, eCut, R.bind_ok, R.bind_exc, R.bindS_ok, R.bindS_exc, RS.bind_next, RS.bind_ret, RS.bind_exc, LINE, ofS_inj, ofS_ok, eqD_int, eqD_ss, inD3_ss, inD2_ss, fin]
end G
/-! K6K: the law's machine -/
namespace G
open PySem PySem.Spec PyProof.Rows L2 DE M6
def own (ns : List Int) (r : Nat) : Int := cellAt ns (6 + r) * 48271 + 7919 * (r : Nat) + cellAt ns 1
def dv (k : Nat) : Int := if k = 0 then 3 else if k = 1 then 17 else if k = 2 then 101 else 613
theorem dv_pos (k : Nat) : 0 < dv k ∧ dv k ≤ 1000 := by unfold dv; split <;> (try split) <;> (try split) <;> omega
theorem dv_ix {k : Nat} (s : Store) (h : k < 4) : ixD (.lst [.int 3, .int 17, .int 101, .int 613]) (.int (k : Nat)) s = .ok (.int (dv k)) s := by
  have : k = 0 ∨ k = 1 ∨ k = 2 ∨ k = 3 := by omega
  rcases this with rfl | rfl | rfl | rfl <;> simp [ixD, rdS, atI, ixN, dv]
def row0 (ns : List Int) (n r k : Nat) : Nat := (own ns r / dv k % (n : Nat)).toNat
def tt (ns : List Int) (n m r k : Nat) : Nat := if own ns r % 3 = 0 ∧ k = (own ns r / 7 % (m : Nat)).toNat then (r + 1) % n else row0 ns n r k
def ee (ns : List Int) (r : Nat) : Bool := decide (own ns r / 5 % 4 = 0)
theorem tt_lt {ns : List Int} {n m r k : Nat} (hn : 0 < n) : tt ns n m r k < n := by
  unfold tt
  split
  · exact Nat.mod_lt _ hn
  · unfold row0
    have h1 : 0 ≤ own ns r / dv k % (n : Nat) := Int.emod_nonneg _ (by omega)
    have h2 : own ns r / dv k % (n : Nat) < (n : Nat) := Int.emod_lt_of_pos _ (by omega)
    omega
theorem eLcN_all {α : Type} {t : Tgt} {vs : List Nat} {em : EM} {im : IM} {env : DE.Env} {s : Store} (m : α → D) (f : α → D) (ys : List α) (hi : im env s = .ok (ys.map m, none) s) (hl : ys.length ≤ 1000)
    (h : ∀ y ∈ ys, ∃ env1, setT t (m y) (wipeE env vs) = some env1 ∧ em env1 s = .ok (f y) s) : eLcN im t vs tYesM em env s = .ok (.ref s.length) (s ++ [.lst (ys.map f)]) := by
  unfold eLcN
  rw [hi]
  simp only [R.bind_ok]
  rw [lcD_by (tt := tYesM) (by simp) m (fun _ => true) f ys fun y hy => by
    obtain ⟨env1, e1, e2⟩ := h y hy
    exact ⟨env1, e1, rfl, fun _ => e2⟩, filter_yes]
  unfold finN
  simp only
  rw [if_pos (by rw [List.length_map]; unfold LINE; omega)]
def rowC (ns : List Int) (n m r : Nat) : Cell := .lst ((List.range m).map fun k => .int ((tt ns n m r k : Nat) : Int))
def refs (i : Nat) : List D := (List.range i).map fun r => .ref (r + 2)
def ends (ns : List Int) (i : Nat) : List D := (List.range i).map fun r => .bl (ee ns r)
def rows (ns : List Int) (n m i : Nat) : List Cell := (List.range i).map (rowC ns n m)
def MS (ns : List Int) (n m i : Nat) : Store := .lst (refs i) :: .lst (ends ns i) :: rows ns n m i
theorem rows_len (ns : List Int) (n m i : Nat) : (rows ns n m i).length = i := by simp [rows]
theorem MS_len (ns : List Int) (n m i : Nat) : (MS ns n m i).length = i + 2 := by simp [MS, rows_len]
theorem refs_succ (i : Nat) : refs (i + 1) = refs i ++ [.ref (i + 2)] := by simp [refs, List.range_succ]
theorem ends_succ (ns : List Int) (i : Nat) : ends ns (i + 1) = ends ns i ++ [.bl (ee ns i)] := by simp [ends, List.range_succ]
theorem rows_succ (ns : List Int) (n m i : Nat) : rows ns n m (i + 1) = rows ns n m i ++ [rowC ns n m i] := by simp [rows, List.range_succ]
theorem MS_mach {ns : List Int} {n m : Nat} (hn : 0 < n) (hn2 : n ≤ 14) (hm : 0 < m) (hm2 : m ≤ 4) : Mach n m (tt ns n m) (ee ns) (MS ns n m n) where
  n0 := hn
  n14 := hn2
  m0 := hm
  m4 := hm2
  ht := fun a k _ _ => tt_lt hn
  st := rfl
  en := rfl
  row := fun r hr => by
    show (rows ns n m n)[r]? = _
    unfold rows
    rw [rng_get _ hr]
    rfl
/-- a room's row: made, then mended -/
theorem row_set {ns : List Int} {n m r : Nat} (hm : 0 < m) (h3 : own ns r % 3 = 0) : (((List.range m).map fun k => D.int ((row0 ns n r k : Nat) : Int)).set (own ns r / 7 % (m : Nat)).toNat (.int (((r + 1) % n : Nat) : Int))) = (List.range m).map fun k => .int ((tt ns n m r k : Nat) : Int) := by
  apply List.ext_getElem?
  intro k
  by_cases hk : k < m
  · rw [rng_get _ hk, List.getElem?_set]
    by_cases q : (own ns r / 7 % (m : Nat)).toNat = k
    · rw [if_pos q, if_pos (by simpa [q] using hk)]
      unfold tt
      rw [if_pos ⟨h3, q.symm⟩]
    · rw [if_neg q, rng_get _ hk]
      unfold tt
      rw [if_neg fun z => q z.2.symm]
  · rw [List.getElem?_eq_none (by simp; omega), List.getElem?_eq_none (by simp; omega)]
theorem row_let {ns : List Int} {n m r : Nat} (h3 : ¬ own ns r % 3 = 0) : ((List.range m).map fun k => D.int ((row0 ns n r k : Nat) : Int)) = (List.range m).map fun k => .int ((tt ns n m r k : Nat) : Int) := by
  apply List.map_congr_left
  intro k _
  unfold tt
  rw [if_neg fun z => h3 z.1]
theorem last_ref {s : Store} {l : Nat} {xs : List D} {d : D} (h : s[l]? = some (.lst (xs ++ [d]))) : ixD (.ref l) (.int (-1)) s = .ok d s := by
  show (match rdS s (.ref l) with | some xs => (match atI xs (-1) with | some d => (R.ok d s : R D) | none => .bad) | none => .bad) = _
  simp only [rdS, h]
  have : atI (xs ++ [d]) (-1) = some d := by
    unfold atI ixN
    rw [if_neg (by omega), if_pos (by rw [List.length_append]; simp; omega)]
    rw [show (-1 + ((xs ++ [d]).length : Int)).toNat = xs.length by rw [List.length_append]; simp; omega]
    show (xs ++ [d])[xs.length]? = _
    simp
  rw [this]
/-- one room -/
theorem mach_step {ns : List Int} {l : Str} (hL : LetF l) {n i k : Nat} (hn : 0 < n) (hn2 : n ≤ 14) (hi : i < n) (v7 : Option D) :
    (sSeq (sSet 7 (DE.e2 addD (DE.e2 addD (DE.e2 mulD (eCall (ar 2 (fns (k + 1) i__law_cell_at)) (aCons (eVar 1) (aCons (DE.e2 addD (eC (.int 6)) (eVar 6)) aNil))) (eC (.int 48271))) (DE.e2 mulD (eC (.int 7919)) (eVar 6))) (eVar 2)))
      (sSeq (sExpr (eLM apD (eVar 4) (eLcN (itR1 (aCons (eCall lenD (aCons (eVar 0) aNil)) aNil)) (.one 8) [8] tYesM (DE.e2 modD (DE.e2 fdivD (eVar 7) (DE.e2 ixD (eLst (aCons (eC (.int 3)) (aCons (eC (.int 17)) (aCons (eC (.int 101)) (aCons (eC (.int 613)) aNil))))) (eVar 8))) (eVar 3)))))
      (sSeq (sIf (tVal (DE.e2 (eqD false) (DE.e2 modD (eVar 7) (eC (.int 3))) (eC (.int 0))))
      (sAsg (DE.e2 modD (DE.e2 addD (eVar 6) (eC (.int 1))) (eVar 3)) (gSetL (DE.e2 ixD (eVar 4) (eNeg (eC (.int 1)))) (DE.e2 modD (DE.e2 fdivD (eVar 7) (eC (.int 7))) (eCall lenD (aCons (eVar 0) aNil)))))
      sPass)
      (sExpr (eLM apD (eVar 5) (DE.e2 (eqD false) (DE.e2 modD (DE.e2 fdivD (eVar 7) (eC (.int 5))) (eC (.int 4))) (eC (.int 0))))))))
      [some (.str l), some (.scr ns), some (.int (cellAt ns 1)), some (.int (n : Nat)), some (.ref 0), some (.ref 1), some (.int (i : Nat)), v7, none] (MS ns n l.length i) =
      .next [some (.str l), some (.scr ns), some (.int (cellAt ns 1)), some (.int (n : Nat)), some (.ref 0), some (.ref 1), some (.int (i : Nat)), some (.int (own ns i)), none] (MS ns n l.length (i + 1)) := by
  have hl := hL.len
  obtain ⟨S0, hS0⟩ : ∃ S0, S0 = MS ns n l.length i := ⟨_, rfl⟩
  have c1 : fns (k + 1) i__law_cell_at [.scr ns, .int (6 + (i : Nat))] S0 = .ok (.int (cellAt ns (6 + i))) S0 := by
    have := ev_cell k ns (6 + i) S0
    rw [show ((6 + i : Nat) : Int) = 6 + (i : Nat) by omega] at this
    exact this
  have c2 : mulD (.int (cellAt ns (6 + i))) (.int 48271) S0 = .ok (.int (cellAt ns (6 + i) * 48271)) S0 := mulD_k (by omega) (by omega)
  have c3 : mulD (.int 7919) (.int (i : Nat)) S0 = .ok (.int (7919 * (i : Nat))) S0 := mulD_k (by omega) (by omega)
  have c4 : addD (.int (cellAt ns (6 + i) * 48271)) (.int (7919 * (i : Nat))) S0 = .ok (.int (cellAt ns (6 + i) * 48271 + 7919 * (i : Nat))) S0 := rfl
  have c5 : addD (.int (cellAt ns (6 + i) * 48271 + 7919 * (i : Nat))) (.int (cellAt ns 1)) S0 = .ok (.int (own ns i)) S0 := rfl
  have c6 : addD (.int 6) (.int (i : Nat)) S0 = .ok (.int (6 + (i : Nat))) S0 := rfl
  rw [← hS0]
  rw [seq_to (env1 := [some (.str l), some (.scr ns), some (.int (cellAt ns 1)), some (.int (n : Nat)), some (.ref 0), some (.ref 1), some (.int (i : Nat)), some (.int (own ns i)), none]) (s1 := S0) (by
    generalize fns (k + 1) = call at *
    generalize own ns i = O at *
    generalize cellAt ns (6 + i) * 48271 + 7919 * (i : Int) = z1 at *
    generalize cellAt ns (6 + i) * 48271 = z2 at *
    generalize 7919 * (i : Int) = z3 at *
    generalize 6 + (i : Int) = z4 at *
    generalize cellAt ns 1 = z5 at *
    generalize cellAt ns (6 + i) = z6 at *
    simp [bodyF, env0, sSeq, sSet, sIf, sRet, sRetN, sExpr, sPass, sRaise, sBad, eVar, eC, eTup, eLst, aCons, aNil, eCall, ar, DE.e2, eAnd, eOr, eNot, eIf, eNeg, tVal, tAndM, tOrM, tNotM, tYesM, eChain, isiD, tyOf, isTy, eM1, oNone, oSome, eCut, R.bind_ok, R.bind_exc, R.bindS_ok, R.bindS_exc, RS.bind_next, RS.bind_ret, RS.bind_exc, LINE, ofS_inj, ofS_ok, eqD_int, eqD_ss, inD3_ss, inD2_ss, c6, c1, c2, c3, c4, c5])]
  -- the row
  have hlc := eLcN_all (t := .one 8) (vs := [8]) (em := DE.e2 modD (DE.e2 fdivD (eVar 7) (DE.e2 ixD (eLst (aCons (eC (.int 3)) (aCons (eC (.int 17)) (aCons (eC (.int 101)) (aCons (eC (.int 613)) aNil))))) (eVar 8))) (eVar 3)) (im := itR1 (aCons (eCall lenD (aCons (eVar 0) aNil)) aNil))
    (env := [some (.str l), some (.scr ns), some (.int (cellAt ns 1)), some (.int (n : Nat)), some (.ref 0), some (.ref 1), some (.int (i : Nat)), some (.int (own ns i)), none]) (s := S0) (fun k : Nat => .int (0 + (k : Nat))) (fun k => .int ((row0 ns n i k : Nat) : Int)) (List.range l.length)
    (by
      have := len_l hL S0
      rw [itR1_ok (n := l.length) (by simp [bodyF, env0, sSeq, sSet, sIf, sRet, sRetN, sExpr, sPass, sRaise, sBad, eVar, eC, eTup, eLst, aCons, aNil, eCall, ar, DE.e2, eAnd, eOr, eNot, eIf, eNeg, tVal, tAndM, tOrM, tNotM, tYesM, eChain, isiD, tyOf, isTy, eM1, oNone, oSome, eCut, R.bind_ok, R.bind_exc, R.bindS_ok, R.bindS_exc, RS.bind_next, RS.bind_ret, RS.bind_exc, LINE, ofS_inj, ofS_ok, eqD_int, eqD_ss, inD3_ss, inD2_ss, this]) (by omega)]
      unfold rangeL
      rw [show ((l.length : Int) - 0).toNat = l.length by omega])
    (by rw [List.length_range]; omega) (fun k hk => by
      have hk := List.mem_range.mp hk
      have d1 := dv_ix S0 (k := k) (by omega)
      have d2 : fdivD (.int (own ns i)) (.int (dv k)) S0 = .ok (.int (own ns i / dv k)) S0 := fdivD_int (dv_pos k)
      have d3 : modD (.int (own ns i / dv k)) (.int (n : Nat)) S0 = .ok (.int (own ns i / dv k % (n : Nat))) S0 := modD_int (by omega)
      have d4 : ((row0 ns n i k : Nat) : Int) = own ns i / dv k % (n : Nat) := by
        unfold row0
        exact Int.toNat_of_nonneg (Int.emod_nonneg _ (by omega))
      refine ⟨_, rfl, ?_⟩
      rw [d4]
      generalize own ns i / dv k % (n : Int) = z1 at *
      generalize own ns i / dv k = z2 at *
      generalize own ns i = z3 at *
      generalize dv k = z4 at *
      simp [bodyF, env0, sSeq, sSet, sIf, sRet, sRetN, sExpr, sPass, sRaise, sBad, eVar, eC, eTup, eLst, aCons, aNil, eCall, ar, DE.e2, eAnd, eOr, eNot, eIf, eNeg, tVal, tAndM, tOrM, tNotM, tYesM, eChain, isiD, tyOf, isTy, eM1, oNone, oSome, eCut, R.bind_ok, R.bind_exc, R.bindS_ok, R.bindS_exc, RS.bind_next, RS.bind_ret, RS.bind_exc, LINE, ofS_inj, ofS_ok, eqD_int, eqD_ss, inD3_ss, inD2_ss, wipeE, d1, d2, d3])
  have hS0l : S0.length = i + 2 := by rw [hS0, MS_len]
  have hlst : isLst S0 (.ref 0) = true := by rw [hS0]; rfl
  obtain ⟨S1, hS1⟩ : ∃ S1, S1 = S0 ++ [Cell.lst ((List.range l.length).map fun k => .int ((row0 ns n i k : Nat) : Int))] := ⟨_, rfl⟩
  have h10 : S1[0]? = some (.lst (refs i)) := by rw [hS1, hS0]; rfl
  have hap := (app_ev (d := .ref (i + 2)) h10 (by simp [refs]; omega)).2
  obtain ⟨S2, hS2⟩ : ∃ S2, S2 = S1.set 0 (.lst (refs i ++ [.ref (i + 2)])) := ⟨_, rfl⟩
  rw [← hS2] at hap
  rw [← hS1, hS0l] at hlc
  rw [seq_to (env1 := [some (.str l), some (.scr ns), some (.int (cellAt ns 1)), some (.int (n : Nat)), some (.ref 0), some (.ref 1), some (.int (i : Nat)), some (.int (own ns i)), none]) (s1 := S2) (by
    generalize eLcN (itR1 (aCons (eCall lenD (aCons (eVar 0) aNil)) aNil)) (.one 8) [8] tYesM (DE.e2 modD (DE.e2 fdivD (eVar 7) (DE.e2 ixD (eLst (aCons (eC (.int 3)) (aCons (eC (.int 17)) (aCons (eC (.int 101)) (aCons (eC (.int 613)) aNil))))) (eVar 8))) (eVar 3)) = ec at hlc
    generalize own ns i = z3 at *
    simp [bodyF, env0, sSeq, sSet, sIf, sRet, sRetN, sExpr, sPass, sRaise, sBad, eVar, eC, eTup, eLst, aCons, aNil, eCall, ar, DE.e2, eAnd, eOr, eNot, eIf, eNeg, tVal, tAndM, tOrM, tNotM, tYesM, eChain, isiD, tyOf, isTy, eM1, oNone, oSome, eCut, R.bind_ok, R.bind_exc, R.bindS_ok, R.bindS_exc, RS.bind_next, RS.bind_ret, RS.bind_exc, LINE, ofS_inj, ofS_ok, eqD_int, eqD_ss, inD3_ss, inD2_ss, eLM, hlst, hlc, hap])]
  -- mended
  have e3 : eqD false (.int (own ns i % 3)) (.int 0) S2 = .ok (.bl (decide (own ns i % 3 = 0))) S2 := eqD_int false _ _ _
  have m3 : modD (.int (own ns i)) (.int 3) S2 = .ok (.int (own ns i % 3)) S2 := modD_int (by omega)
  have S2eq : ∀ R : List D, (Cell.lst (refs (i + 1)) :: Cell.lst (ends ns i) :: (rows ns n l.length i ++ [Cell.lst R])) = (MS ns n l.length i ++ [Cell.lst R]).set 0 (.lst (refs i ++ [.ref (i + 2)])) := fun R => by
    rw [refs_succ]
    rfl
  have key : ∃ S3 : Store, (sIf (tVal (DE.e2 (eqD false) (DE.e2 modD (eVar 7) (eC (.int 3))) (eC (.int 0))))
      (sAsg (DE.e2 modD (DE.e2 addD (eVar 6) (eC (.int 1))) (eVar 3)) (gSetL (DE.e2 ixD (eVar 4) (eNeg (eC (.int 1)))) (DE.e2 modD (DE.e2 fdivD (eVar 7) (eC (.int 7))) (eCall lenD (aCons (eVar 0) aNil)))))
      sPass) [some (.str l), some (.scr ns), some (.int (cellAt ns 1)), some (.int (n : Nat)), some (.ref 0), some (.ref 1), some (.int (i : Nat)), some (.int (own ns i)), none] S2 =
      .next [some (.str l), some (.scr ns), some (.int (cellAt ns 1)), some (.int (n : Nat)), some (.ref 0), some (.ref 1), some (.int (i : Nat)), some (.int (own ns i)), none] S3 ∧ S3 = Cell.lst (refs (i + 1)) :: Cell.lst (ends ns i) :: rows ns n l.length (i + 1) := by
    by_cases h3 : own ns i % 3 = 0
    · have g1 : ixD (.ref 0) (.int (-1)) S2 = .ok (.ref (i + 2)) S2 := last_ref (xs := refs i) (by rw [hS2, hS1, hS0]; rfl)
      have g2 : addD (.int (i : Nat)) (.int 1) S2 = .ok (.int ((i : Nat) + 1)) S2 := rfl
      have g3 : modD (.int ((i : Nat) + 1)) (.int (n : Nat)) S2 = .ok (.int (((i + 1) % n : Nat) : Int)) S2 := by
        rw [modD_int (by omega)]
        congr 2
      have g4 : fdivD (.int (own ns i)) (.int 7) S2 = .ok (.int (own ns i / 7)) S2 := fdivD_int (by omega)
      have j0 : 0 ≤ own ns i / 7 % (l.length : Nat) := Int.emod_nonneg _ (by omega)
      have j1 : own ns i / 7 % (l.length : Nat) < (l.length : Nat) := Int.emod_lt_of_pos _ (by omega)
      have g5 : modD (.int (own ns i / 7)) (.int (l.length : Nat)) S2 = .ok (.int (own ns i / 7 % (l.length : Nat))) S2 := modD_int (by omega)
      have g6 := len_l hL S2
      have h2 : S2[i + 2]? = some (.lst ((List.range l.length).map fun k => .int ((row0 ns n i k : Nat) : Int))) := by
        rw [hS2, hS1, hS0, ← S2eq]
        show (rows ns n l.length i ++ [_])[i]? = _
        have := last_at (rows ns n l.length i) (Cell.lst ((List.range l.length).map fun k => .int ((row0 ns n i k : Nat) : Int)))
        rw [rows_len] at this
        exact this
      have g7 : ixN ((List.range l.length).map fun k => D.int ((row0 ns n i k : Nat) : Int)).length (own ns i / 7 % (l.length : Nat)) = some (own ns i / 7 % (l.length : Nat)).toNat := by
        unfold ixN
        rw [if_pos j0, if_pos (by rw [List.length_map, List.length_range]; exact j1)]
      refine ⟨S2.set (i + 2) (.lst (((List.range l.length).map fun k => .int ((row0 ns n i k : Nat) : Int)).set (own ns i / 7 % (l.length : Nat)).toNat (.int (((i + 1) % n : Nat) : Int)))), ?_, ?_⟩
      · rw [show decide (own ns i % 3 = 0) = true by simp [h3]] at e3
        clear h3
        generalize (((i + 1) % n : Nat) : Int) = z0 at *
        generalize own ns i / 7 % (l.length : Int) = z1 at *
        generalize own ns i / 7 = z2 at *
        generalize own ns i % 3 = z3 at *
        generalize own ns i = z4 at *
        generalize (i : Int) + 1 = z5 at *
        generalize (List.range l.length).map (fun k => D.int ((row0 ns n i k : Nat) : Int)) = RR at *
        simp [bodyF, env0, sSeq, sSet, sIf, sRet, sRetN, sExpr, sPass, sRaise, sBad, eVar, eC, eTup, eLst, aCons, aNil, eCall, ar, DE.e2, eAnd, eOr, eNot, eIf, eNeg, tVal, tAndM, tOrM, tNotM, tYesM, eChain, isiD, tyOf, isTy, eM1, oNone, oSome, eCut, R.bind_ok, R.bind_exc, R.bindS_ok, R.bindS_exc, RS.bind_next, RS.bind_ret, RS.bind_exc, LINE, ofS_inj, ofS_ok, eqD_int, eqD_ss, inD3_ss, inD2_ss, sAsg, gSetL, m3, e3, g1, g2, g3, g4, g5, g6, h2, g7]
      · rw [hS2, hS1, hS0, ← S2eq, row_set (by omega) h3]
        show Cell.lst (refs (i + 1)) :: Cell.lst (ends ns i) :: (rows ns n l.length i ++ [_]).set i _ = _
        have := set_last (rows ns n l.length i) (Cell.lst ((List.range l.length).map fun k => .int ((row0 ns n i k : Nat) : Int))) (rowC ns n l.length i)
        rw [rows_len] at this
        rw [rows_succ, ← this]
        rfl
    · refine ⟨S2, ?_, ?_⟩
      · rw [show decide (own ns i % 3 = 0) = false by simp [h3]] at e3
        clear h3
        generalize own ns i % 3 = z3 at *
        generalize own ns i = z4 at *
        simp [bodyF, env0, sSeq, sSet, sIf, sRet, sRetN, sExpr, sPass, sRaise, sBad, eVar, eC, eTup, eLst, aCons, aNil, eCall, ar, DE.e2, eAnd, eOr, eNot, eIf, eNeg, tVal, tAndM, tOrM, tNotM, tYesM, eChain, isiD, tyOf, isTy, eM1, oNone, oSome, eCut, R.bind_ok, R.bind_exc, R.bindS_ok, R.bindS_exc, RS.bind_next, RS.bind_ret, RS.bind_exc, LINE, ofS_inj, ofS_ok, eqD_int, eqD_ss, inD3_ss, inD2_ss, m3, e3]
      · rw [hS2, hS1, hS0, ← S2eq, row_let h3, rows_succ]
        rfl
  obtain ⟨S3, hk, hS3⟩ := key
  rw [seq_to hk]
  have e5 : eqD false (.int (own ns i / 5 % 4)) (.int 0) S3 = .ok (.bl (ee ns i)) S3 := eqD_int false _ _ _
  have m5 : fdivD (.int (own ns i)) (.int 5) S3 = .ok (.int (own ns i / 5)) S3 := fdivD_int (by omega)
  have m6 : modD (.int (own ns i / 5)) (.int 4) S3 = .ok (.int (own ns i / 5 % 4)) S3 := modD_int (by omega)
  have h31 : S3[1]? = some (.lst (ends ns i)) := by rw [hS3]; rfl
  obtain ⟨a1, a2⟩ := app_ev (d := .bl (ee ns i)) h31 (by simp [ends]; omega)
  have a3 : S3.set 1 (.lst (ends ns i ++ [.bl (ee ns i)])) = MS ns n l.length (i + 1) := by
    rw [hS3, ← ends_succ]
    rfl
  rw [a3] at a2
  generalize MS ns n l.length (i + 1) = S4 at *
  generalize ee ns i = E at *
  generalize own ns i / 5 % 4 = z1 at *
  generalize own ns i / 5 = z2 at *
  generalize own ns i = z4 at *
  simp [bodyF, env0, sSeq, sSet, sIf, sRet, sRetN, sExpr, sPass, sRaise, sBad, eVar, eC, eTup, eLst, aCons, aNil, eCall, ar, DE.e2, eAnd, eOr, eNot, eIf, eNeg, tVal, tAndM, tOrM, tNotM, tYesM, eChain, isiD, tyOf, isTy, eM1, oNone, oSome, eCut, R.bind_ok, R.bind_exc, R.bindS_ok, R.bindS_exc, RS.bind_next, RS.bind_ret, RS.bind_exc, LINE, ofS_inj, ofS_ok, eqD_int, eqD_ss, inD3_ss, inD2_ss, eLM, a1, m5, m6, e5, a2]
def manyR (ns : List Int) : Int := if cellAt ns 1 / 9 % 8 = 1 then 1 + cellAt ns 1 / 72 % 14 else 1 + cellAt ns 1 % 9
theorem manyR_ok (ns : List Int) : 1 ≤ manyR ns ∧ manyR ns ≤ 14 := by unfold manyR; split <;> omega
theorem ev_machine {l : Str} (hL : LetF l) (k : Nat) (ns : List Int) : ∃ n s1, fns (k + 2) i__law_machine [.str l, .scr ns] [] = .ok MD s1 ∧ Mach n l.length (tt ns n l.length) (ee ns) s1 := by
  have hl := hL.len
  have hm := manyR_ok ns
  refine ⟨(manyR ns).toNat, MS ns (manyR ns).toNat l.length (manyR ns).toNat, ?_, MS_mach (by omega) (by omega) (by omega) (by omega)⟩
  obtain ⟨n, hn⟩ : ∃ n, n = (manyR ns).toNat := ⟨_, rfl⟩
  rw [← hn]
  have hmn : manyR ns = (n : Nat) := by omega
  rw [e__law_machine]
  obtain ⟨env2, s2, e2, x6, x7, rfl, rfl⟩ := for_rng (g := gVar 6) (ms := aCons (eVar 3) aNil) (n := n)
    (body := (sSeq (sSet 7 (DE.e2 addD (DE.e2 addD (DE.e2 mulD (eCall (ar 2 (fns (k + 1) i__law_cell_at)) (aCons (eVar 1) (aCons (DE.e2 addD (eC (.int 6)) (eVar 6)) aNil))) (eC (.int 48271))) (DE.e2 mulD (eC (.int 7919)) (eVar 6))) (eVar 2)))
      (sSeq (sExpr (eLM apD (eVar 4) (eLcN (itR1 (aCons (eCall lenD (aCons (eVar 0) aNil)) aNil)) (.one 8) [8] tYesM (DE.e2 modD (DE.e2 fdivD (eVar 7) (DE.e2 ixD (eLst (aCons (eC (.int 3)) (aCons (eC (.int 17)) (aCons (eC (.int 101)) (aCons (eC (.int 613)) aNil))))) (eVar 8))) (eVar 3)))))
      (sSeq (sIf (tVal (DE.e2 (eqD false) (DE.e2 modD (eVar 7) (eC (.int 3))) (eC (.int 0))))
      (sAsg (DE.e2 modD (DE.e2 addD (eVar 6) (eC (.int 1))) (eVar 3)) (gSetL (DE.e2 ixD (eVar 4) (eNeg (eC (.int 1)))) (DE.e2 modD (DE.e2 fdivD (eVar 7) (eC (.int 7))) (eCall lenD (aCons (eVar 0) aNil)))))
      sPass)
      (sExpr (eLM apD (eVar 5) (DE.e2 (eqD false) (DE.e2 modD (DE.e2 fdivD (eVar 7) (eC (.int 5))) (eC (.int 4))) (eC (.int 0)))))))))
    (fun i env s2 => ∃ x6 x7, env = [some (.str l), some (.scr ns), some (.int (cellAt ns 1)), some (.int (n : Nat)), some (.ref 0), some (.ref 1), x6, x7, none] ∧ s2 = MS ns n l.length i)
    (env := [some (.str l), some (.scr ns), some (.int (cellAt ns 1)), some (.int (n : Nat)), some (.ref 0), some (.ref 1), none, none, none]) (s := MS ns n l.length 0) (by omega) rfl ⟨none, none, rfl, rfl⟩
    (fun i hi env s2 ⟨x6, x7, he, hs⟩ => by
      subst he hs
      exact ⟨[some (.str l), some (.scr ns), some (.int (cellAt ns 1)), some (.int (n : Nat)), some (.ref 0), some (.ref 1), some (.int (i : Nat)), x7, none], MS ns n l.length i, _, _, rfl, mach_step hL (by omega) (by omega) hi x7, _, _, rfl, rfl⟩)
  have c1 : fns (k + 1) i__law_cell_at [.scr ns, .int 1] [] = .ok (.int (cellAt ns 1)) [] := ev_cell k ns 1 []
  refine body_ret ?_
  rw [m__law_machine]
  rw [seq_to (env1 := [some (.str l), some (.scr ns), some (.int (cellAt ns 1)), none, none, none, none, none, none]) (s1 := []) (by
    generalize fns (k + 1) = call at *
    simp [bodyF, env0, sSeq, sSet, sIf, sRet, sRetN, sExpr, sPass, sRaise, sBad, eVar, eC, eTup, eLst, aCons, aNil, eCall, ar, DE.e2, eAnd, eOr, eNot, eIf, eNeg, tVal, tAndM, tOrM, tNotM, tYesM, eChain, isiD, tyOf, isTy, eM1, oNone, oSome, eCut, R.bind_ok, R.bind_exc, R.bindS_ok, R.bindS_exc, RS.bind_next, RS.bind_ret, RS.bind_exc, LINE, ofS_inj, ofS_ok, eqD_int, eqD_ss, inD3_ss, inD2_ss, c1])]
  clear c1
  obtain ⟨c, hc⟩ : ∃ c, c = cellAt ns 1 := ⟨_, rfl⟩
  have hM : manyR ns = if c / 9 % 8 = 1 then 1 + c / 72 % 14 else 1 + c % 9 := by rw [hc]; rfl
  rw [← hc] at e2 ⊢
  have d1 : modD (.int c) (.int 9) [] = .ok (.int (c % 9)) [] := modD_int (by omega)
  have d2 : fdivD (.int c) (.int 9) [] = .ok (.int (c / 9)) [] := fdivD_int (by omega)
  have d3 : modD (.int (c / 9)) (.int 8) [] = .ok (.int (c / 9 % 8)) [] := modD_int (by omega)
  have d4 : eqD false (.int (c / 9 % 8)) (.int 1) [] = .ok (.bl (decide (c / 9 % 8 = 1))) [] := eqD_int false _ _ _
  have d5 : fdivD (.int c) (.int 72) [] = .ok (.int (c / 72)) [] := fdivD_int (by omega)
  have d6 : modD (.int (c / 72)) (.int 14) [] = .ok (.int (c / 72 % 14)) [] := modD_int (by omega)
  have d7 : addD (.int 1) (.int (c % 9)) [] = .ok (.int (1 + c % 9)) [] := rfl
  have d8 : addD (.int 1) (.int (c / 72 % 14)) [] = .ok (.int (1 + c / 72 % 14)) [] := rfl
  rw [seq_to (env1 := [some (.str l), some (.scr ns), some (.int c), some (.int (1 + c % 9)), none, none, none, none, none]) (s1 := []) (by
    generalize 1 + c % 9 = z1 at *
    generalize c % 9 = z2 at *
    simp [bodyF, env0, sSeq, sSet, sIf, sRet, sRetN, sExpr, sPass, sRaise, sBad, eVar, eC, eTup, eLst, aCons, aNil, eCall, ar, DE.e2, eAnd, eOr, eNot, eIf, eNeg, tVal, tAndM, tOrM, tNotM, tYesM, eChain, isiD, tyOf, isTy, eM1, oNone, oSome, eCut, R.bind_ok, R.bind_exc, R.bindS_ok, R.bindS_exc, RS.bind_next, RS.bind_ret, RS.bind_exc, LINE, ofS_inj, ofS_ok, eqD_int, eqD_ss, inD3_ss, inD2_ss, d1, d7])]
  rw [seq_to (env1 := [some (.str l), some (.scr ns), some (.int c), some (.int (n : Nat)), none, none, none, none, none]) (s1 := []) (by
    rw [← hmn, hM]
    by_cases q : c / 9 % 8 = 1
    · rw [if_pos q]
      rw [show decide (c / 9 % 8 = 1) = true by simp [q]] at d4
      clear q
      generalize 1 + c / 72 % 14 = z1 at *
      generalize c / 72 % 14 = z2 at *
      generalize c / 72 = z3 at *
      generalize c / 9 % 8 = z4 at *
      generalize c / 9 = z5 at *
      simp [bodyF, env0, sSeq, sSet, sIf, sRet, sRetN, sExpr, sPass, sRaise, sBad, eVar, eC, eTup, eLst, aCons, aNil, eCall, ar, DE.e2, eAnd, eOr, eNot, eIf, eNeg, tVal, tAndM, tOrM, tNotM, tYesM, eChain, isiD, tyOf, isTy, eM1, oNone, oSome, eCut, R.bind_ok, R.bind_exc, R.bindS_ok, R.bindS_exc, RS.bind_next, RS.bind_ret, RS.bind_exc, LINE, ofS_inj, ofS_ok, eqD_int, eqD_ss, inD3_ss, inD2_ss, d2, d3, d4, d5, d6, d8]
    · rw [if_neg q]
      rw [show decide (c / 9 % 8 = 1) = false by simp [q]] at d4
      clear q
      generalize c / 9 % 8 = z4 at *
      generalize c / 9 = z5 at *
      generalize 1 + c % 9 = z1 at *
      simp [bodyF, env0, sSeq, sSet, sIf, sRet, sRetN, sExpr, sPass, sRaise, sBad, eVar, eC, eTup, eLst, aCons, aNil, eCall, ar, DE.e2, eAnd, eOr, eNot, eIf, eNeg, tVal, tAndM, tOrM, tNotM, tYesM, eChain, isiD, tyOf, isTy, eM1, oNone, oSome, eCut, R.bind_ok, R.bind_exc, R.bindS_ok, R.bindS_exc, RS.bind_next, RS.bind_ret, RS.bind_exc, LINE, ofS_inj, ofS_ok, eqD_int, eqD_ss, inD3_ss, inD2_ss, d2, d3, d4])]
  rw [seq_to (env1 := [some (.str l), some (.scr ns), some (.int c), some (.int (n : Nat)), some (.ref 0), none, none, none, none]) (s1 := [.lst []]) (by simp [bodyF, env0, sSeq, sSet, sIf, sRet, sRetN, sExpr, sPass, sRaise, sBad, eVar, eC, eTup, eLst, aCons, aNil, eCall, ar, DE.e2, eAnd, eOr, eNot, eIf, eNeg, tVal, tAndM, tOrM, tNotM, tYesM, eChain, isiD, tyOf, isTy, eM1, oNone, oSome, eCut, R.bind_ok, R.bind_exc, R.bindS_ok, R.bindS_exc, RS.bind_next, RS.bind_ret, RS.bind_exc, LINE, ofS_inj, ofS_ok, eqD_int, eqD_ss, inD3_ss, inD2_ss, eNew])]
  rw [seq_to (env1 := [some (.str l), some (.scr ns), some (.int c), some (.int (n : Nat)), some (.ref 0), some (.ref 1), none, none, none]) (s1 := MS ns n l.length 0) (by
    have : MS ns n l.length 0 = [.lst [], .lst []] := rfl
    rw [this]
    simp [bodyF, env0, sSeq, sSet, sIf, sRet, sRetN, sExpr, sPass, sRaise, sBad, eVar, eC, eTup, eLst, aCons, aNil, eCall, ar, DE.e2, eAnd, eOr, eNot, eIf, eNeg, tVal, tAndM, tOrM, tNotM, tYesM, eChain, isiD, tyOf, isTy, eM1, oNone, oSome, eCut, R.bind_ok, R.bind_exc, R.bindS_ok, R.bindS_exc, RS.bind_next, RS.bind_ret, RS.bind_exc, LINE, ofS_inj, ofS_ok, eqD_int, eqD_ss, inD3_ss, inD2_ss, eNew])]
  rw [seq_to e2]
  simp [bodyF, env0, sSeq, sSet, sIf, sRet, sRetN, sExpr, sPass, sRaise, sBad, eVar, eC, eTup, eLst, aCons, aNil, eCall, ar, DE.e2, eAnd, eOr, eNot, eIf, eNeg, tVal, tAndM, tOrM, tNotM, tYesM, eChain, isiD, tyOf, isTy, eM1, oNone, oSome, eCut, R.bind_ok, R.bind_exc, R.bindS_ok, R.bindS_exc, RS.bind_next, RS.bind_ret, RS.bind_exc, LINE, ofS_inj, ofS_ok, eqD_int, eqD_ss, inD3_ss, inD2_ss, MD]
end G
/-! K6L: k06's law -/
namespace G
open PySem PySem.Spec PyProof.Rows L2 DE M6
theorem set_rng (f : Nat → D) (x : D) {n j : Nat} (h : j < n) : ((List.range n).map f).set j x = (List.range n).map fun r => if r = j then x else f r := by
  apply List.ext_getElem?
  intro k
  by_cases hk : k < n
  · rw [rng_get _ hk, List.getElem?_set]
    by_cases q : j = k
    · rw [if_pos q, if_pos (by simpa using h), if_pos q.symm]
    · rw [if_neg q, rng_get _ hk, if_neg fun z => q z.symm]
  · rw [List.getElem?_eq_none (by simp; omega), List.getElem?_eq_none (by simp; omega)]
section
variable {n m : Nat} {t : Nat → Nat → Nat} {e : Nat → Bool} {s : Store}
theorem Mach.setE (M : Mach n m t e s) {j : Nat} (hj : j < n) (b : Bool) : Mach n m t (fun r => if r = j then b else e r) (s.set 1 (.lst (((List.range n).map fun r => .bl (e r)).set j (.bl b)))) := by
  have hb := M.big
  refine ⟨M.n0, M.n14, M.m0, M.m4, M.ht, ?_, ?_, fun r hr => ?_⟩
  · rw [List.getElem?_set_ne (by omega)]; exact M.st
  · rw [List.getElem?_set_self (by omega), set_rng _ _ hj]
    congr 2
    apply List.map_congr_left
    intro r _
    by_cases q : r = j <;> simp [q]
  · rw [List.getElem?_set_ne (by omega)]; exact M.row r hr
theorem Mach.setT (M : Mach n m t e s) {a j v : Nat} (ha : a < n) (hj : j < m) (hv : v < n) : Mach n m (fun r k => if r = a ∧ k = j then v else t r k) e (s.set (a + 2) (.lst (((List.range m).map fun k => .int ((t a k : Nat) : Int)).set j (.int (v : Nat))))) := by
  have hb := M.big
  refine ⟨M.n0, M.n14, M.m0, M.m4, fun x k hx hk => ?_, ?_, ?_, fun r hr => ?_⟩
  · by_cases q : x = a ∧ k = j
    · simp only [if_pos q]; exact hv
    · simp only [if_neg q]; exact M.ht x k hx hk
  · rw [List.getElem?_set_ne (by omega)]; exact M.st
  · rw [List.getElem?_set_ne (by omega)]; exact M.en
  · by_cases q : r = a
    · subst q
      rw [List.getElem?_set_self (by omega), set_rng _ _ hj]
      congr 2
      apply List.map_congr_left
      intro k _
      by_cases q : k = j <;> simp [q]
    · rw [List.getElem?_set_ne (by omega), M.row r hr]
      congr 2
      apply List.map_congr_left
      intro k _
      simp [q]
end
theorem law_true (k : Nat) (hk : 60 ≤ k) (ns : List Int) (s0 : Store) (h0 : s0 = []) : ∃ s', fns (k + 1) i_law [.scr ns] s0 = .ok (.bl true) s' := by
  subst h0
  rw [e_law]
  obtain ⟨k, rfl⟩ : ∃ j, k = j + 5 := ⟨k - 5, by omega⟩
  have cell : ∀ (i : Nat) (s : Store), fns (k + 5) i__law_cell_at [.scr ns, .int (i : Nat)] s = .ok (.int (cellAt ns i)) s := fun i s => ev_cell (k + 4) ns i s
  obtain ⟨l, hl⟩ : ∃ l, l = lets (cellAt ns 0) := ⟨_, rfl⟩
  have hL : LetF l := by rw [hl]; exact lets_F _
  have hlen := hL.len
  have eL : fns (k + 5) i__law_letters [.int (cellAt ns 0)] [] = .ok (.str l) [] := by rw [hl]; exact ev_letters (k + 4) _ _
  obtain ⟨n, s1, eM, M1⟩ := ev_machine hL (k + 3) ns
  have eM : fns (k + 5) i__law_machine [.str l, .scr ns] [] = .ok MD s1 := eM
  have hn := M1.n0
  have h1 := MD1 s1
  have h2 := M1.len_en
  generalize tt ns n l.length = t at M1
  generalize ee ns = e at M1
  have eT := ev_text hL (k + 4) (cellAt ns 5)
  have c0 : fns (k + 5) i__law_cell_at [.scr ns, .int 0] [] = .ok (.int (cellAt ns 0)) [] := cell 0 []
  have c2 : fns (k + 5) i__law_cell_at [.scr ns, .int 2] s1 = .ok (.int (cellAt ns 2)) s1 := cell 2 s1
  have c3 : fns (k + 5) i__law_cell_at [.scr ns, .int 3] s1 = .ok (.int (cellAt ns 3)) s1 := cell 3 s1
  have c4 : ∀ s, fns (k + 5) i__law_cell_at [.scr ns, .int 4] s = .ok (.int (cellAt ns 4)) s := fun s => cell 4 s
  have c5 : fns (k + 5) i__law_cell_at [.scr ns, .int 5] s1 = .ok (.int (cellAt ns 5)) s1 := cell 5 s1
  obtain ⟨w, hw1, hw2, eT⟩ := eT s1
  have eT : fns (k + 5) i__law_text [.str l, .int (cellAt ns 5), .int 12] s1 = .ok (.str (txt l w)) s1 := eT
  generalize cellAt ns 0 = z0 at *
  generalize cellAt ns 2 = z2 at *
  generalize cellAt ns 3 = z3 at *
  generalize cellAt ns 4 = z4 at *
  generalize cellAt ns 5 = z5 at *
  -- two rooms
  obtain ⟨a, ha, hav⟩ : ∃ a : Nat, a < n ∧ z2 % (n : Nat) = (a : Nat) := ⟨(z2 % (n : Nat)).toNat, by have := Int.emod_nonneg z2 (show (n : Int) ≠ 0 by omega); have := Int.emod_lt_of_pos z2 (show 0 < (n : Int) by omega); omega, by have := Int.emod_nonneg z2 (show (n : Int) ≠ 0 by omega); omega⟩
  obtain ⟨b0, hb0, hbv⟩ : ∃ a : Nat, a < n ∧ z3 % (n : Nat) = (a : Nat) := ⟨(z3 % (n : Nat)).toNat, by have := Int.emod_nonneg z3 (show (n : Int) ≠ 0 by omega); have := Int.emod_lt_of_pos z3 (show 0 < (n : Int) by omega); omega, by have := Int.emod_nonneg z3 (show (n : Int) ≠ 0 by omega); omega⟩
  obtain ⟨v, hv, hvv⟩ : ∃ a : Nat, a < n ∧ z4 / 4 % (n : Nat) = (a : Nat) := ⟨(z4 / 4 % (n : Nat)).toNat, by have := Int.emod_nonneg (z4 / 4) (show (n : Int) ≠ 0 by omega); have := Int.emod_lt_of_pos (z4 / 4) (show 0 < (n : Int) by omega); omega, by have := Int.emod_nonneg (z4 / 4) (show (n : Int) ≠ 0 by omega); omega⟩
  have m2 : modD (.int z2) (.int (n : Nat)) s1 = .ok (.int (a : Nat)) s1 := by rw [modD_int (by omega), hav]
  have m3 : modD (.int z3) (.int (n : Nat)) s1 = .ok (.int (b0 : Nat)) s1 := by rw [modD_int (by omega), hbv]
  rw [m_law]
  suffices H : ∀ b, b < n → ∃ s', (sSeq (sSet 6 (eCall (ar 3 (fns (k + 5) i__law_text)) (aCons (eVar 1) (aCons (eCall (ar 2 (fns (k + 5) i__law_cell_at)) (aCons (eVar 0) (aCons (eC (.int 5)) aNil))) (aCons (eC (.int 12)) aNil)))))
      (sSeq (sIf (tNotM (tVal (eCall (ar 5 (fns (k + 5) i__law_good)) (aCons (eVar 1) (aCons (eVar 2) (aCons (eVar 4) (aCons (eVar 5) (aCons (eVar 6) aNil)))))))) (sRet (eC (.bl false))) sPass)
      (sSeq (sAsg (eNot (DE.e2 ixD (DE.e2 ixD (eVar 2) (eC (.int 1))) (eVar 5))) (gSetL (DE.e2 ixD (eVar 2) (eC (.int 1))) (eVar 5)))
      (sSeq (sAsg (DE.e2 modD (DE.e2 fdivD (eCall (ar 2 (fns (k + 5) i__law_cell_at)) (aCons (eVar 0) (aCons (eC (.int 4)) aNil))) (eC (.int 4))) (eVar 3)) (gSetL (DE.e2 ixD (DE.e2 ixD (eVar 2) (eC (.int 0))) (eVar 4)) (eC (.int 0))))
      (sSeq (sIf (tOrM (tNotM (tVal (eCall (ar 5 (fns (k + 5) i__law_good)) (aCons (eVar 1) (aCons (eVar 2) (aCons (eVar 4) (aCons (eVar 5) (aCons (eVar 6) aNil)))))))) (tNotM (tVal (eCall (ar 3 (fns (k + 5) i__law_longest)) (aCons (eVar 1) (aCons (eVar 2) (aCons (eVar 5) aNil))))))) (sRet (eC (.bl false))) sPass)
      (sRet (eCall (ar 4 (fns (k + 5) i__law_refused)) (aCons (eVar 1) (aCons (eVar 2) (aCons (eVar 4) (aCons (DE.e2 modD (DE.e2 mulD (eCall absD (aCons (eCall (ar 2 (fns (k + 5) i__law_cell_at)) (aCons (eVar 0) (aCons (eC (.int 4)) aNil))) aNil)) (eC (.int 48271))) (eC (.int 1000003))) aNil)))))))))))
      [some (.scr ns), some (.str l), some MD, some (.int (n : Nat)), some (.int (a : Nat)), some (.int (b : Nat)), none] s1 = .ret (.bl true) s' by
    obtain ⟨b, hb, s', h⟩ : ∃ b, ∃ _ : b < n, ∃ s', sIf (tVal (DE.e2 (eqD false) (DE.e2 modD (eCall (ar 2 (fns (k + 5) i__law_cell_at)) (aCons (eVar 0) (aCons (eC (.int 4)) aNil))) (eC (.int 4))) (eC (.int 1)))) (sSet 5 (eVar 4)) sPass
        [some (.scr ns), some (.str l), some MD, some (.int (n : Nat)), some (.int (a : Nat)), some (.int (b0 : Nat)), none] s1 = .next [some (.scr ns), some (.str l), some MD, some (.int (n : Nat)), some (.int (a : Nat)), some (.int (b : Nat)), none] s1 ∧ s' = s1 := by
      have e4 : eqD false (.int (z4 % 4)) (.int 1) s1 = .ok (.bl (decide (z4 % 4 = 1))) s1 := eqD_int false _ _ _
      have m4 : modD (.int z4) (.int 4) s1 = .ok (.int (z4 % 4)) s1 := modD_int (by omega)
      have c4 := c4 s1
      by_cases q : z4 % 4 = 1
      · refine ⟨a, ha, s1, ?_, rfl⟩
        rw [show decide (z4 % 4 = 1) = true by simp [q]] at e4
        clear q
        generalize z4 % 4 = zz at *
        generalize fns (k + 5) = call at *
        generalize MD = MM at *
        simp [bodyF, env0, sSeq, sSet, sIf, sRet, sRetN, sExpr, sPass, sRaise, sBad, eVar, eC, eTup, eLst, aCons, aNil, eCall, ar, DE.e2, eAnd, eOr, eNot, eIf, eNeg, tVal, tAndM, tOrM, tNotM, tYesM, eChain, isiD, tyOf, isTy, eM1, oNone, oSome, eCut, R.bind_ok, R.bind_exc, R.bindS_ok, R.bindS_exc, RS.bind_next, RS.bind_ret, RS.bind_exc, LINE, ofS_inj, ofS_ok, eqD_int, eqD_ss, inD3_ss, inD2_ss, c4, m4, e4]
      · refine ⟨b0, hb0, s1, ?_, rfl⟩
        rw [show decide (z4 % 4 = 1) = false by simp [q]] at e4
        clear q
        generalize z4 % 4 = zz at *
        generalize fns (k + 5) = call at *
        generalize MD = MM at *
        simp [bodyF, env0, sSeq, sSet, sIf, sRet, sRetN, sExpr, sPass, sRaise, sBad, eVar, eC, eTup, eLst, aCons, aNil, eCall, ar, DE.e2, eAnd, eOr, eNot, eIf, eNeg, tVal, tAndM, tOrM, tNotM, tYesM, eChain, isiD, tyOf, isTy, eM1, oNone, oSome, eCut, R.bind_ok, R.bind_exc, R.bindS_ok, R.bindS_exc, RS.bind_next, RS.bind_ret, RS.bind_exc, LINE, ofS_inj, ofS_ok, eqD_int, eqD_ss, inD3_ss, inD2_ss, c4, m4, e4]
    obtain ⟨s2, H⟩ := H b hb
    refine ⟨s2, body_ret ?_⟩
    rw [seq_to (env1 := [some (.scr ns), some (.str l), none, none, none, none, none]) (s1 := []) (by
      generalize fns (k + 5) = call at *
      simp [bodyF, env0, sSeq, sSet, sIf, sRet, sRetN, sExpr, sPass, sRaise, sBad, eVar, eC, eTup, eLst, aCons, aNil, eCall, ar, DE.e2, eAnd, eOr, eNot, eIf, eNeg, tVal, tAndM, tOrM, tNotM, tYesM, eChain, isiD, tyOf, isTy, eM1, oNone, oSome, eCut, R.bind_ok, R.bind_exc, R.bindS_ok, R.bindS_exc, RS.bind_next, RS.bind_ret, RS.bind_exc, LINE, ofS_inj, ofS_ok, eqD_int, eqD_ss, inD3_ss, inD2_ss, c0, eL])]
    rw [seq_to (env1 := [some (.scr ns), some (.str l), some MD, none, none, none, none]) (s1 := s1) (by
      generalize fns (k + 5) = call at *
      generalize MD = MM at *
      simp [bodyF, env0, sSeq, sSet, sIf, sRet, sRetN, sExpr, sPass, sRaise, sBad, eVar, eC, eTup, eLst, aCons, aNil, eCall, ar, DE.e2, eAnd, eOr, eNot, eIf, eNeg, tVal, tAndM, tOrM, tNotM, tYesM, eChain, isiD, tyOf, isTy, eM1, oNone, oSome, eCut, R.bind_ok, R.bind_exc, R.bindS_ok, R.bindS_exc, RS.bind_next, RS.bind_ret, RS.bind_exc, LINE, ofS_inj, ofS_ok, eqD_int, eqD_ss, inD3_ss, inD2_ss, eM])]
    rw [seq_to (env1 := [some (.scr ns), some (.str l), some MD, some (.int (n : Nat)), none, none, none]) (s1 := s1) (by
      generalize MD = MM at *
      simp [bodyF, env0, sSeq, sSet, sIf, sRet, sRetN, sExpr, sPass, sRaise, sBad, eVar, eC, eTup, eLst, aCons, aNil, eCall, ar, DE.e2, eAnd, eOr, eNot, eIf, eNeg, tVal, tAndM, tOrM, tNotM, tYesM, eChain, isiD, tyOf, isTy, eM1, oNone, oSome, eCut, R.bind_ok, R.bind_exc, R.bindS_ok, R.bindS_exc, RS.bind_next, RS.bind_ret, RS.bind_exc, LINE, ofS_inj, ofS_ok, eqD_int, eqD_ss, inD3_ss, inD2_ss, h1, h2])]
    rw [seq_to (env1 := [some (.scr ns), some (.str l), some MD, some (.int (n : Nat)), some (.int (a : Nat)), none, none]) (s1 := s1) (by
      generalize fns (k + 5) = call at *
      generalize MD = MM at *
      simp [bodyF, env0, sSeq, sSet, sIf, sRet, sRetN, sExpr, sPass, sRaise, sBad, eVar, eC, eTup, eLst, aCons, aNil, eCall, ar, DE.e2, eAnd, eOr, eNot, eIf, eNeg, tVal, tAndM, tOrM, tNotM, tYesM, eChain, isiD, tyOf, isTy, eM1, oNone, oSome, eCut, R.bind_ok, R.bind_exc, R.bindS_ok, R.bindS_exc, RS.bind_next, RS.bind_ret, RS.bind_exc, LINE, ofS_inj, ofS_ok, eqD_int, eqD_ss, inD3_ss, inD2_ss, c2, m2])]
    rw [seq_to (env1 := [some (.scr ns), some (.str l), some MD, some (.int (n : Nat)), some (.int (a : Nat)), some (.int (b0 : Nat)), none]) (s1 := s1) (by
      generalize fns (k + 5) = call at *
      generalize MD = MM at *
      simp [bodyF, env0, sSeq, sSet, sIf, sRet, sRetN, sExpr, sPass, sRaise, sBad, eVar, eC, eTup, eLst, aCons, aNil, eCall, ar, DE.e2, eAnd, eOr, eNot, eIf, eNeg, tVal, tAndM, tOrM, tNotM, tYesM, eChain, isiD, tyOf, isTy, eM1, oNone, oSome, eCut, R.bind_ok, R.bind_exc, R.bindS_ok, R.bindS_exc, RS.bind_next, RS.bind_ret, RS.bind_exc, LINE, ofS_inj, ofS_ok, eqD_int, eqD_ss, inD3_ss, inD2_ss, c3, m3])]
    rw [seq_to h.1]
    exact H
  intro b hb
  have g1 := ev_good M1 hL k ha hb hw2 (by omega)
  obtain ⟨s2, hs2⟩ : ∃ s2, s2 = s1.set 1 (.lst (((List.range n).map fun r => .bl (e r)).set b (.bl (!e b)))) := ⟨_, rfl⟩
  have M2 : Mach n l.length t (fun r => if r = b then !e b else e r) s2 := by rw [hs2]; exact M1.setE hb (!e b)
  obtain ⟨s3, hs3⟩ : ∃ s3, s3 = s2.set (a + 2) (.lst (((List.range l.length).map fun k => .int ((t a k : Nat) : Int)).set 0 (.int (v : Nat)))) := ⟨_, rfl⟩
  have M3 : Mach n l.length (fun r k => if r = a ∧ k = 0 then v else t r k) (fun r => if r = b then !e b else e r) s3 := by rw [hs3]; exact M2.setT ha (by omega) hv
  have g2 := ev_good M3 hL k ha hb hw2 (by omega)
  have g3 := ev_longest M3 hL k hb
  obtain ⟨s4, g4⟩ := ev_refused M3 hL k ha ((if z4 < 0 then -z4 else z4) * 48271 % 1000003)
  have i1 := M1.ix_en hb
  have i2 := M1.en
  have i3 : ixN ((List.range n).map fun r => D.bl (e r)).length (b : Nat) = some b := by
    unfold ixN
    rw [if_pos (by omega), if_pos (by rw [List.length_map, List.length_range]; omega)]
    congr 1
  have j0 := MD0 s2
  have j1 := M2.ix_st ha
  have j2 := M2.row a ha
  have j3 : ixN ((List.range l.length).map fun k => D.int ((t a k : Nat) : Int)).length 0 = some 0 := by
    unfold ixN
    rw [if_pos (by omega), if_pos (by rw [List.length_map, List.length_range]; omega)]
    rfl
  have f1 : fdivD (.int z4) (.int 4) s2 = .ok (.int (z4 / 4)) s2 := fdivD_int (by omega)
  have f2 : modD (.int (z4 / 4)) (.int (n : Nat)) s2 = .ok (.int (v : Nat)) s2 := by rw [modD_int (by omega), hvv]
  have f3 : absD [.int z4] s3 = .ok (.int (if z4 < 0 then -z4 else z4)) s3 := rfl
  generalize hz : (if z4 < 0 then -z4 else z4) = az at *
  have f4 : mulD (.int az) (.int 48271) s3 = .ok (.int (az * 48271)) s3 := mulD_k (by omega) (by omega)
  have f5 : modD (.int (az * 48271)) (.int 1000003) s3 = .ok (.int (az * 48271 % 1000003)) s3 := modD_int (by omega)
  refine ⟨s4, ?_⟩
  rw [seq_to (env1 := [some (.scr ns), some (.str l), some MD, some (.int (n : Nat)), some (.int (a : Nat)), some (.int (b : Nat)), some (.str (txt l w))]) (s1 := s1) (by
    generalize fns (k + 5) = call at *
    generalize MD = MM at *
    simp [bodyF, env0, sSeq, sSet, sIf, sRet, sRetN, sExpr, sPass, sRaise, sBad, eVar, eC, eTup, eLst, aCons, aNil, eCall, ar, DE.e2, eAnd, eOr, eNot, eIf, eNeg, tVal, tAndM, tOrM, tNotM, tYesM, eChain, isiD, tyOf, isTy, eM1, oNone, oSome, eCut, R.bind_ok, R.bind_exc, R.bindS_ok, R.bindS_exc, RS.bind_next, RS.bind_ret, RS.bind_exc, LINE, ofS_inj, ofS_ok, eqD_int, eqD_ss, inD3_ss, inD2_ss, c5, eT])]
  rw [seq_to (env1 := [some (.scr ns), some (.str l), some MD, some (.int (n : Nat)), some (.int (a : Nat)), some (.int (b : Nat)), some (.str (txt l w))]) (s1 := s1) (by
    generalize fns (k + 5) = call at *
    generalize MD = MM at *
    generalize txt l w = T at *
    simp [bodyF, env0, sSeq, sSet, sIf, sRet, sRetN, sExpr, sPass, sRaise, sBad, eVar, eC, eTup, eLst, aCons, aNil, eCall, ar, DE.e2, eAnd, eOr, eNot, eIf, eNeg, tVal, tAndM, tOrM, tNotM, tYesM, eChain, isiD, tyOf, isTy, eM1, oNone, oSome, eCut, R.bind_ok, R.bind_exc, R.bindS_ok, R.bindS_exc, RS.bind_next, RS.bind_ret, RS.bind_exc, LINE, ofS_inj, ofS_ok, eqD_int, eqD_ss, inD3_ss, inD2_ss, g1])]
  rw [seq_to (env1 := [some (.scr ns), some (.str l), some MD, some (.int (n : Nat)), some (.int (a : Nat)), some (.int (b : Nat)), some (.str (txt l w))]) (s1 := s2) (by
    clear g1 g2 g3 g4 eT c5 M2 M3 hs3
    generalize (List.range n).map (fun r => D.bl (e r)) = BL at *
    generalize MD = MM at *
    generalize txt l w = T at *
    generalize e b = eb at *
    simp [bodyF, env0, sSeq, sSet, sIf, sRet, sRetN, sExpr, sPass, sRaise, sBad, eVar, eC, eTup, eLst, aCons, aNil, eCall, ar, DE.e2, eAnd, eOr, eNot, eIf, eNeg, tVal, tAndM, tOrM, tNotM, tYesM, eChain, isiD, tyOf, isTy, eM1, oNone, oSome, eCut, R.bind_ok, R.bind_exc, R.bindS_ok, R.bindS_exc, RS.bind_next, RS.bind_ret, RS.bind_exc, LINE, ofS_inj, ofS_ok, eqD_int, eqD_ss, inD3_ss, inD2_ss, sAsg, gSetL, h1, i1, i2, i3, hs2])]
  have c4' := c4 s2
  rw [seq_to (env1 := [some (.scr ns), some (.str l), some MD, some (.int (n : Nat)), some (.int (a : Nat)), some (.int (b : Nat)), some (.str (txt l w))]) (s1 := s3) (by
    clear g1 g2 g3 g4 eT c5 M2 M3 hs2
    generalize (List.range l.length).map (fun k => D.int ((t a k : Nat) : Int)) = RW at *
    generalize fns (k + 5) = call at *
    generalize MD = MM at *
    generalize txt l w = T at *
    generalize z4 / 4 = z44 at *
    simp [bodyF, env0, sSeq, sSet, sIf, sRet, sRetN, sExpr, sPass, sRaise, sBad, eVar, eC, eTup, eLst, aCons, aNil, eCall, ar, DE.e2, eAnd, eOr, eNot, eIf, eNeg, tVal, tAndM, tOrM, tNotM, tYesM, eChain, isiD, tyOf, isTy, eM1, oNone, oSome, eCut, R.bind_ok, R.bind_exc, R.bindS_ok, R.bindS_exc, RS.bind_next, RS.bind_ret, RS.bind_exc, LINE, ofS_inj, ofS_ok, eqD_int, eqD_ss, inD3_ss, inD2_ss, sAsg, gSetL, c4', f1, f2, j0, j1, j2, j3, hs3])]
  rw [seq_to (env1 := [some (.scr ns), some (.str l), some MD, some (.int (n : Nat)), some (.int (a : Nat)), some (.int (b : Nat)), some (.str (txt l w))]) (s1 := s3) (by
    clear hs2 hs3
    generalize fns (k + 5) = call at *
    generalize MD = MM at *
    generalize txt l w = T at *
    simp [bodyF, env0, sSeq, sSet, sIf, sRet, sRetN, sExpr, sPass, sRaise, sBad, eVar, eC, eTup, eLst, aCons, aNil, eCall, ar, DE.e2, eAnd, eOr, eNot, eIf, eNeg, tVal, tAndM, tOrM, tNotM, tYesM, eChain, isiD, tyOf, isTy, eM1, oNone, oSome, eCut, R.bind_ok, R.bind_exc, R.bindS_ok, R.bindS_exc, RS.bind_next, RS.bind_ret, RS.bind_exc, LINE, ofS_inj, ofS_ok, eqD_int, eqD_ss, inD3_ss, inD2_ss, g2, g3])]
  have c4'' := c4 s3
  clear hs2 hs3 g1 g2 g3 c4' c4 eT eM
  generalize az * 48271 % 1000003 = zq at *
  generalize az * 48271 = zp at *
  generalize fns (k + 5) = call at *
  generalize MD = MM at *
  generalize txt l w = T at *
  simp [bodyF, env0, sSeq, sSet, sIf, sRet, sRetN, sExpr, sPass, sRaise, sBad, eVar, eC, eTup, eLst, aCons, aNil, eCall, ar, DE.e2, eAnd, eOr, eNot, eIf, eNeg, tVal, tAndM, tOrM, tNotM, tYesM, eChain, isiD, tyOf, isTy, eM1, oNone, oSome, eCut, R.bind_ok, R.bind_exc, R.bindS_ok, R.bindS_exc, RS.bind_next, RS.bind_ret, RS.bind_exc, LINE, ofS_inj, ofS_ok, eqD_int, eqD_ss, inD3_ss, inD2_ss, c4'', f3, f4, f5, g4]
end G
namespace G
open PySem PySem.Spec PyProof.Rows L2 DE
theorem kit_ref {K : PySem.W.Frag} {a c : Addr} {b : Bool} (h1 : PySem.W.isClsIn K c = true) (h2 : PySem.W.typeIn K (.ref c) = some (.type "type")) (hc : PySem.W.subIn K (.ref c) (.ref c) = some true) (hs : PySem.W.subIn K (.ref a) (.ref c) = some b) : PySem.W.kitOne K (.ref a) (.ref c) = some b := by
  unfold PySem.W.kitOne
  by_cases h : a = c
  · subst h
    rw [if_pos (by simp), ← hc, hs]
  · rw [if_neg (by simpa using h)]
    unfold PySem.W.kitCls
    have e2 : ((PySem.W.clsIn K c).isSome && PySem.W.typeIn K (.ref c) == some (.type "type")) = true := by
      have h1' : (PySem.W.clsIn K c).isSome = true := h1
      rw [h1', h2] <;> rfl
    simp only
    rw [if_pos e2, hs]
theorem kit_ve {K : PySem.W.Frag} {a : Addr} (hs : PySem.W.subIn K (.ref a) (.type "ValueError") = some true) : PySem.W.kitOne K (.ref a) (.type "ValueError") = some true := by
  unfold PySem.W.kitOne
  rw [if_neg (by simp)]
  unfold PySem.W.kitCls
  simp only
  rw [if_pos (by decide +kernel), hs]
theorem exm_ref {K : PySem.W.Frag} {a c : Addr} (h1 : PySem.W.isClsIn K c = true) (h2 : PySem.W.typeIn K (.ref c) = some (.type "type")) (hb : PySem.W.subIn K (.ref c) (.type "BaseException") = some true) (hs : PySem.W.subIn K (.ref a) (.ref c) = some true) : PySem.W.exmOne K (.ref a) (.ref c) = some true := by
  unfold PySem.W.exmOne
  rw [if_pos (by rw [hb] <;> rfl)]
  unfold PySem.W.kitCls
  have e2 : ((PySem.W.clsIn K c).isSome && PySem.W.typeIn K (.ref c) == some (.type "type")) = true := by
    have h1' : (PySem.W.clsIn K c).isSome = true := h1
    rw [h1', h2] <;> rfl
  simp only
  rw [if_pos e2, hs]
def spLaw (K : PySem.W.Frag) : Sp := fun vs H Q _ => ∃ (a : Addr) (ns : List Int), vs = [.ref a] ∧ ns.length ≤ 63 ∧ Only H ∧ SqL K H a (ns.map V.int) ∧ ∀ H', Q (.bl true) H'
theorem sp_law {K : PySem.W.Frag} {ca : Nat → Addr} (fn : Fn) (h : ∀ ns : List Int, ns.length ≤ 63 → ∃ s', fn [.scr ns] [] = .ok (.bl true) s') : ∀ vs H Q E, spLaw K vs H Q E → spOf K ca 1 fn vs H Q E := by
  rintro vs H Q E ⟨a, ns, rfl, hl, hO, hS, hQ⟩
  obtain ⟨s', e⟩ := h ns hl
  refine ⟨⟨[], []⟩, [.scr ns], [], rfl, ⟨rfl, List.nodup_nil, fun l a c e1 _ => by simp at e1, fun b hb => by simp at hb⟩, .cons ?_ .nil, ?_⟩
  · simp only [RD]
    refine ⟨a, rfl, ?_⟩
    rcases hS with h | h
    · exact .inl ⟨by simp, by simp, h⟩
    · exact .inr h
  · rw [e]
    intro L' v H' k S r
    simp only [RD] at r
    subst r
    exact hQ H'
theorem all_mk {P : Program} {w : World} {K : PySem.W.Frag} {h : Heap} {mg : Str → Option Value} {fa : Addr} (X : K.In h) (G : h.Ns mainGlobals mg) (hfa : mg "law" = some (.ref fa))
    {f0 f1 f2 f3 f4 f5 f6 f7 f8 f9 f10 f11 f12 f13 f14 f15 f16 f17 f18 f19 C0 C1 C2 C3 C4 C5 : Addr} {od0 an0 od1 an1 od2 an2 od3 an3 od4 an4 od5 an5 od6 an6 od7 an7 od8 an8 od9 an9 od10 an10 od11 an11 od12 an12 od13 an13 od14 an14 od15 an15 od16 an16 od17 an17 od18 an18 od19 an19 : Option Addr} {sl0 sl1 sl2 sl3 sl4 sl5 sl6 sl7 sl8 sl9 sl10 sl11 sl12 sl13 sl14 sl15 sl16 sl17 sl18 sl19 : Array (Option Value)} {oc0 kV0 dc0 pm0 cd0 ct0 oc1 kV1 dc1 pm1 cd1 ct1 oc2 kV2 dc2 pm2 cd2 ct2 oc3 kV3 dc3 pm3 cd3 ct3 oc4 kV4 dc4 pm4 cd4 ct4 oc5 kV5 dc5 pm5 cd5 ct5 oc6 kV6 dc6 pm6 cd6 ct6 oc7 kV7 dc7 pm7 cd7 ct7 oc8 kV8 dc8 pm8 cd8 ct8 oc9 kV9 dc9 pm9 cd9 ct9 oc10 kV10 dc10 pm10 cd10 ct10 oc11 kV11 dc11 pm11 cd11 ct11 oc12 kV12 dc12 pm12 cd12 ct12 oc13 kV13 dc13 pm13 cd13 ct13 oc14 kV14 dc14 pm14 cd14 ct14 oc15 kV15 dc15 pm15 cd15 ct15 oc16 kV16 dc16 pm16 cd16 ct16 oc17 kV17 dc17 pm17 cd17 ct17 oc18 kV18 dc18 pm18 cd18 ct18 oc19 kV19 dc19 pm19 cd19 ct19 : Value} {t_SMALL t_MOST_LETTERS t_MOST_SIGNS : Tok}
    (a0 : PySem.W.nsIn K mainGlobals "are_letters" = some (some (.ref f0)))
    (l0 : K.lookup f0 = some ⟨oc0, od0, .func (PySem.W.fnOf "are_letters" "are_letters" (defArgs s_are_letters) (defBody s_are_letters) (defScope s_are_letters) .none kV0 dc0 pm0 an0 cd0 ct0), sl0⟩)
    (c0 : PySem.W.codeIn K cd0 "are_letters" = true)
    (k0 : PySem.W.keepIn K (.ref f0) = true)
    (a1 : PySem.W.nsIn K mainGlobals "need_letters" = some (some (.ref f1)))
    (l1 : K.lookup f1 = some ⟨oc1, od1, .func (PySem.W.fnOf "need_letters" "need_letters" (defArgs s_need_letters) (defBody s_need_letters) (defScope s_need_letters) .none kV1 dc1 pm1 an1 cd1 ct1), sl1⟩)
    (c1 : PySem.W.codeIn K cd1 "need_letters" = true)
    (k1 : PySem.W.keepIn K (.ref f1) = true)
    (a2 : PySem.W.nsIn K mainGlobals "is_sign" = some (some (.ref f2)))
    (l2 : K.lookup f2 = some ⟨oc2, od2, .func (PySem.W.fnOf "is_sign" "is_sign" (defArgs s_is_sign) (defBody s_is_sign) (defScope s_is_sign) .none kV2 dc2 pm2 an2 cd2 ct2), sl2⟩)
    (c2 : PySem.W.codeIn K cd2 "is_sign" = true)
    (k2 : PySem.W.keepIn K (.ref f2) = true)
    (a3 : PySem.W.nsIn K mainGlobals "need_text" = some (some (.ref f3)))
    (l3 : K.lookup f3 = some ⟨oc3, od3, .func (PySem.W.fnOf "need_text" "need_text" (defArgs s_need_text) (defBody s_need_text) (defScope s_need_text) .none kV3 dc3 pm3 an3 cd3 ct3), sl3⟩)
    (c3 : PySem.W.codeIn K cd3 "need_text" = true)
    (k3 : PySem.W.keepIn K (.ref f3) = true)
    (a4 : PySem.W.nsIn K mainGlobals "need_room" = some (some (.ref f4)))
    (l4 : K.lookup f4 = some ⟨oc4, od4, .func (PySem.W.fnOf "need_room" "need_room" (defArgs s_need_room) (defBody s_need_room) (defScope s_need_room) .none kV4 dc4 pm4 an4 cd4 ct4), sl4⟩)
    (c4 : PySem.W.codeIn K cd4 "need_room" = true)
    (k4 : PySem.W.keepIn K (.ref f4) = true)
    (a5 : PySem.W.nsIn K mainGlobals "room_of" = some (some (.ref f5)))
    (l5 : K.lookup f5 = some ⟨oc5, od5, .func (PySem.W.fnOf "room_of" "room_of" (defArgs s_room_of) (defBody s_room_of) (defScope s_room_of) .none kV5 dc5 pm5 an5 cd5 ct5), sl5⟩)
    (c5 : PySem.W.codeIn K cd5 "room_of" = true)
    (k5 : PySem.W.keepIn K (.ref f5) = true)
    (a6 : PySem.W.nsIn K mainGlobals "parting" = some (some (.ref f6)))
    (l6 : K.lookup f6 = some ⟨oc6, od6, .func (PySem.W.fnOf "parting" "parting" (defArgs s_parting) (defBody s_parting) (defScope s_parting) .none kV6 dc6 pm6 an6 cd6 ct6), sl6⟩)
    (c6 : PySem.W.codeIn K cd6 "parting" = true)
    (k6 : PySem.W.keepIn K (.ref f6) = true)
    (a7 : PySem.W.nsIn K mainGlobals "_law_cell_at" = some (some (.ref f7)))
    (l7 : K.lookup f7 = some ⟨oc7, od7, .func (PySem.W.fnOf "_law_cell_at" "_law_cell_at" (defArgs s__law_cell_at) (defBody s__law_cell_at) (defScope s__law_cell_at) .none kV7 dc7 pm7 an7 cd7 ct7), sl7⟩)
    (c7 : PySem.W.codeIn K cd7 "_law_cell_at" = true)
    (k7 : PySem.W.keepIn K (.ref f7) = true)
    (a8 : PySem.W.nsIn K mainGlobals "_law_letters" = some (some (.ref f8)))
    (l8 : K.lookup f8 = some ⟨oc8, od8, .func (PySem.W.fnOf "_law_letters" "_law_letters" (defArgs s__law_letters) (defBody s__law_letters) (defScope s__law_letters) .none kV8 dc8 pm8 an8 cd8 ct8), sl8⟩)
    (c8 : PySem.W.codeIn K cd8 "_law_letters" = true)
    (k8 : PySem.W.keepIn K (.ref f8) = true)
    (a9 : PySem.W.nsIn K mainGlobals "_law_text" = some (some (.ref f9)))
    (l9 : K.lookup f9 = some ⟨oc9, od9, .func (PySem.W.fnOf "_law_text" "_law_text" (defArgs s__law_text) (defBody s__law_text) (defScope s__law_text) .none kV9 dc9 pm9 an9 cd9 ct9), sl9⟩)
    (c9 : PySem.W.codeIn K cd9 "_law_text" = true)
    (k9 : PySem.W.keepIn K (.ref f9) = true)
    (a10 : PySem.W.nsIn K mainGlobals "_law_machine" = some (some (.ref f10)))
    (l10 : K.lookup f10 = some ⟨oc10, od10, .func (PySem.W.fnOf "_law_machine" "_law_machine" (defArgs s__law_machine) (defBody s__law_machine) (defScope s__law_machine) .none kV10 dc10 pm10 an10 cd10 ct10), sl10⟩)
    (c10 : PySem.W.codeIn K cd10 "_law_machine" = true)
    (k10 : PySem.W.keepIn K (.ref f10) = true)
    (a11 : PySem.W.nsIn K mainGlobals "_law_far" = some (some (.ref f11)))
    (l11 : K.lookup f11 = some ⟨oc11, od11, .func (PySem.W.fnOf "_law_far" "_law_far" (defArgs s__law_far) (defBody s__law_far) (defScope s__law_far) .none kV11 dc11 pm11 an11 cd11 ct11), sl11⟩)
    (c11 : PySem.W.codeIn K cd11 "_law_far" = true)
    (k11 : PySem.W.keepIn K (.ref f11) = true)
    (a12 : PySem.W.nsIn K mainGlobals "_law_due" = some (some (.ref f12)))
    (l12 : K.lookup f12 = some ⟨oc12, od12, .func (PySem.W.fnOf "_law_due" "_law_due" (defArgs s__law_due) (defBody s__law_due) (defScope s__law_due) .none kV12 dc12 pm12 an12 cd12 ct12), sl12⟩)
    (c12 : PySem.W.codeIn K cd12 "_law_due" = true)
    (k12 : PySem.W.keepIn K (.ref f12) = true)
    (a13 : PySem.W.nsIn K mainGlobals "_law_told" = some (some (.ref f13)))
    (l13 : K.lookup f13 = some ⟨oc13, od13, .func (PySem.W.fnOf "_law_told" "_law_told" (defArgs s__law_told) (defBody s__law_told) (defScope s__law_told) .none kV13 dc13 pm13 an13 cd13 ct13), sl13⟩)
    (c13 : PySem.W.codeIn K cd13 "_law_told" = true)
    (k13 : PySem.W.keepIn K (.ref f13) = true)
    (a14 : PySem.W.nsIn K mainGlobals "_law_no_text" = some (some (.ref f14)))
    (l14 : K.lookup f14 = some ⟨oc14, od14, .func (PySem.W.fnOf "_law_no_text" "_law_no_text" (defArgs s__law_no_text) (defBody s__law_no_text) (defScope s__law_no_text) .none kV14 dc14 pm14 an14 cd14 ct14), sl14⟩)
    (c14 : PySem.W.codeIn K cd14 "_law_no_text" = true)
    (k14 : PySem.W.keepIn K (.ref f14) = true)
    (a15 : PySem.W.nsIn K mainGlobals "_law_longest" = some (some (.ref f15)))
    (l15 : K.lookup f15 = some ⟨oc15, od15, .func (PySem.W.fnOf "_law_longest" "_law_longest" (defArgs s__law_longest) (defBody s__law_longest) (defScope s__law_longest) .none kV15 dc15 pm15 an15 cd15 ct15), sl15⟩)
    (c15 : PySem.W.codeIn K cd15 "_law_longest" = true)
    (k15 : PySem.W.keepIn K (.ref f15) = true)
    (a16 : PySem.W.nsIn K mainGlobals "_law_refused" = some (some (.ref f16)))
    (l16 : K.lookup f16 = some ⟨oc16, od16, .func (PySem.W.fnOf "_law_refused" "_law_refused" (defArgs s__law_refused) (defBody s__law_refused) (defScope s__law_refused) .none kV16 dc16 pm16 an16 cd16 ct16), sl16⟩)
    (c16 : PySem.W.codeIn K cd16 "_law_refused" = true)
    (k16 : PySem.W.keepIn K (.ref f16) = true)
    (a17 : PySem.W.nsIn K mainGlobals "_law_good" = some (some (.ref f17)))
    (l17 : K.lookup f17 = some ⟨oc17, od17, .func (PySem.W.fnOf "_law_good" "_law_good" (defArgs s__law_good) (defBody s__law_good) (defScope s__law_good) .none kV17 dc17 pm17 an17 cd17 ct17), sl17⟩)
    (c17 : PySem.W.codeIn K cd17 "_law_good" = true)
    (k17 : PySem.W.keepIn K (.ref f17) = true)
    (a18 : PySem.W.nsIn K mainGlobals "law" = some (some (.ref f18)))
    (l18 : K.lookup f18 = some ⟨oc18, od18, .func (PySem.W.fnOf "law" "law" (defArgs s_law) (defBody s_law) (defScope s_law) .none kV18 dc18 pm18 an18 cd18 ct18), sl18⟩)
    (c18 : PySem.W.codeIn K cd18 "law" = true)
    (k18 : PySem.W.keepIn K (.ref f18) = true)
    (a19 : PySem.W.nsIn K mainGlobals "_law_kind" = some (some (.ref f19)))
    (l19 : K.lookup f19 = some ⟨oc19, od19, .func (PySem.W.fnOf "_law_kind" "_law_kind" (defArgs s__law_kind) (defBody s__law_kind) (defScope s__law_kind) .none kV19 dc19 pm19 an19 cd19 ct19), sl19⟩)
    (c19 : PySem.W.codeIn K cd19 "_law_kind" = true)
    (k19 : PySem.W.keepIn K (.ref f19) = true)
    (n_ValueError : PySem.W.nsIn K mainGlobals "ValueError" = some none)
    (n_abs : PySem.W.nsIn K mainGlobals "abs" = some none)
    (n_all : PySem.W.nsIn K mainGlobals "all" = some none)
    (n_bool : PySem.W.nsIn K mainGlobals "bool" = some none)
    (n_enumerate : PySem.W.nsIn K mainGlobals "enumerate" = some none)
    (n_int : PySem.W.nsIn K mainGlobals "int" = some none)
    (n_isinstance : PySem.W.nsIn K mainGlobals "isinstance" = some none)
    (n_len : PySem.W.nsIn K mainGlobals "len" = some none)
    (n_list : PySem.W.nsIn K mainGlobals "list" = some none)
    (n_range : PySem.W.nsIn K mainGlobals "range" = some none)
    (n_str : PySem.W.nsIn K mainGlobals "str" = some none)
    (n_zip : PySem.W.nsIn K mainGlobals "zip" = some none)
    (s_SMALL : PySem.W.nsIn K mainGlobals "SMALL" = some (some (.str "abcdefghijklmnopqrstuvwxyz" t_SMALL)))
    (s_MOST_LETTERS : PySem.W.nsIn K mainGlobals "MOST_LETTERS" = some (some (.int 4 t_MOST_LETTERS)))
    (s_MOST_SIGNS : PySem.W.nsIn K mainGlobals "MOST_SIGNS" = some (some (.int 200 t_MOST_SIGNS)))
    (xg0 : PySem.W.nsIn K mainGlobals "PatternError" = some (some (.ref C0)))
    (xx0 : PySem.W.excIn K C0 [.type "ValueError", .type "Exception", .type "BaseException", .type "object"] "ValueError.__new__" = true)
    (xk0 : PySem.W.keepIn K (.ref C0) = true)
    (xb0 : PySem.W.subIn K (.ref C0) (.type "BaseException") = some true)
    (xt0 : PySem.W.typeIn K (.ref C0) = some (.type "type"))
    (xg1 : PySem.W.nsIn K mainGlobals "NoLetters" = some (some (.ref C1)))
    (xx1 : PySem.W.excIn K C1 [.type "ValueError", .type "Exception", .type "BaseException", .type "object"] "ValueError.__new__" = true)
    (xk1 : PySem.W.keepIn K (.ref C1) = true)
    (xb1 : PySem.W.subIn K (.ref C1) (.type "BaseException") = some true)
    (xt1 : PySem.W.typeIn K (.ref C1) = some (.type "type"))
    (xg2 : PySem.W.nsIn K mainGlobals "NoPattern" = some (some (.ref C2)))
    (xx2 : PySem.W.excIn K C2 [.type "ValueError", .type "Exception", .type "BaseException", .type "object"] "ValueError.__new__" = true)
    (xk2 : PySem.W.keepIn K (.ref C2) = true)
    (xb2 : PySem.W.subIn K (.ref C2) (.type "BaseException") = some true)
    (xt2 : PySem.W.typeIn K (.ref C2) = some (.type "type"))
    (xg3 : PySem.W.nsIn K mainGlobals "TooGreat" = some (some (.ref C3)))
    (xx3 : PySem.W.excIn K C3 [.type "ValueError", .type "Exception", .type "BaseException", .type "object"] "ValueError.__new__" = true)
    (xk3 : PySem.W.keepIn K (.ref C3) = true)
    (xb3 : PySem.W.subIn K (.ref C3) (.type "BaseException") = some true)
    (xt3 : PySem.W.typeIn K (.ref C3) = some (.type "type"))
    (xg4 : PySem.W.nsIn K mainGlobals "NoText" = some (some (.ref C4)))
    (xx4 : PySem.W.excIn K C4 [.type "ValueError", .type "Exception", .type "BaseException", .type "object"] "ValueError.__new__" = true)
    (xk4 : PySem.W.keepIn K (.ref C4) = true)
    (xb4 : PySem.W.subIn K (.ref C4) (.type "BaseException") = some true)
    (xt4 : PySem.W.typeIn K (.ref C4) = some (.type "type"))
    (xg5 : PySem.W.nsIn K mainGlobals "NoRoom" = some (some (.ref C5)))
    (xx5 : PySem.W.excIn K C5 [.type "ValueError", .type "Exception", .type "BaseException", .type "object"] "ValueError.__new__" = true)
    (xk5 : PySem.W.keepIn K (.ref C5) = true)
    (xb5 : PySem.W.subIn K (.ref C5) (.type "BaseException") = some true)
    (xt5 : PySem.W.typeIn K (.ref C5) = some (.type "type"))
    (eg1 : PySem.W.findIn K (.ref C1) "__getattribute__" = some (some (.builtin "BaseException.__getattribute__")))
    (ek1 : PySem.W.findIn K (.ref C1) "__getattr__" = some none)
    (ed1 : PySem.W.hasDictIn K C1 = true)
    (ea1 : PySem.W.findIn K (.ref C1) "__class__" = some (some (.builtin "object.__class__")))
    (em1 : PySem.W.mroIn K C1 (.type "object") = some true)
    (ev1 : PySem.W.subIn K (.ref C1) (.type "ValueError") = some true)
    (ex1 : PySem.W.subIn K (.ref C1) (.ref C0) = some true)
    (eo11 : PySem.W.subIn K (.ref C1) (.ref C1) = some true)
    (eo12 : PySem.W.subIn K (.ref C1) (.ref C2) = some false)
    (eo13 : PySem.W.subIn K (.ref C1) (.ref C3) = some false)
    (eo14 : PySem.W.subIn K (.ref C1) (.ref C4) = some false)
    (eo15 : PySem.W.subIn K (.ref C1) (.ref C5) = some false)
    (eg2 : PySem.W.findIn K (.ref C2) "__getattribute__" = some (some (.builtin "BaseException.__getattribute__")))
    (ek2 : PySem.W.findIn K (.ref C2) "__getattr__" = some none)
    (ed2 : PySem.W.hasDictIn K C2 = true)
    (ea2 : PySem.W.findIn K (.ref C2) "__class__" = some (some (.builtin "object.__class__")))
    (em2 : PySem.W.mroIn K C2 (.type "object") = some true)
    (ev2 : PySem.W.subIn K (.ref C2) (.type "ValueError") = some true)
    (ex2 : PySem.W.subIn K (.ref C2) (.ref C0) = some true)
    (eo21 : PySem.W.subIn K (.ref C2) (.ref C1) = some false)
    (eo22 : PySem.W.subIn K (.ref C2) (.ref C2) = some true)
    (eo23 : PySem.W.subIn K (.ref C2) (.ref C3) = some false)
    (eo24 : PySem.W.subIn K (.ref C2) (.ref C4) = some false)
    (eo25 : PySem.W.subIn K (.ref C2) (.ref C5) = some false)
    (eg3 : PySem.W.findIn K (.ref C3) "__getattribute__" = some (some (.builtin "BaseException.__getattribute__")))
    (ek3 : PySem.W.findIn K (.ref C3) "__getattr__" = some none)
    (ed3 : PySem.W.hasDictIn K C3 = true)
    (ea3 : PySem.W.findIn K (.ref C3) "__class__" = some (some (.builtin "object.__class__")))
    (em3 : PySem.W.mroIn K C3 (.type "object") = some true)
    (ev3 : PySem.W.subIn K (.ref C3) (.type "ValueError") = some true)
    (ex3 : PySem.W.subIn K (.ref C3) (.ref C0) = some true)
    (eo31 : PySem.W.subIn K (.ref C3) (.ref C1) = some false)
    (eo32 : PySem.W.subIn K (.ref C3) (.ref C2) = some false)
    (eo33 : PySem.W.subIn K (.ref C3) (.ref C3) = some true)
    (eo34 : PySem.W.subIn K (.ref C3) (.ref C4) = some false)
    (eo35 : PySem.W.subIn K (.ref C3) (.ref C5) = some false)
    (eg4 : PySem.W.findIn K (.ref C4) "__getattribute__" = some (some (.builtin "BaseException.__getattribute__")))
    (ek4 : PySem.W.findIn K (.ref C4) "__getattr__" = some none)
    (ed4 : PySem.W.hasDictIn K C4 = true)
    (ea4 : PySem.W.findIn K (.ref C4) "__class__" = some (some (.builtin "object.__class__")))
    (em4 : PySem.W.mroIn K C4 (.type "object") = some true)
    (ev4 : PySem.W.subIn K (.ref C4) (.type "ValueError") = some true)
    (ex4 : PySem.W.subIn K (.ref C4) (.ref C0) = some true)
    (eo41 : PySem.W.subIn K (.ref C4) (.ref C1) = some false)
    (eo42 : PySem.W.subIn K (.ref C4) (.ref C2) = some false)
    (eo43 : PySem.W.subIn K (.ref C4) (.ref C3) = some false)
    (eo44 : PySem.W.subIn K (.ref C4) (.ref C4) = some true)
    (eo45 : PySem.W.subIn K (.ref C4) (.ref C5) = some false)
    (eg5 : PySem.W.findIn K (.ref C5) "__getattribute__" = some (some (.builtin "BaseException.__getattribute__")))
    (ek5 : PySem.W.findIn K (.ref C5) "__getattr__" = some none)
    (ed5 : PySem.W.hasDictIn K C5 = true)
    (ea5 : PySem.W.findIn K (.ref C5) "__class__" = some (some (.builtin "object.__class__")))
    (em5 : PySem.W.mroIn K C5 (.type "object") = some true)
    (ev5 : PySem.W.subIn K (.ref C5) (.type "ValueError") = some true)
    (ex5 : PySem.W.subIn K (.ref C5) (.ref C0) = some true)
    (eo51 : PySem.W.subIn K (.ref C5) (.ref C1) = some false)
    (eo52 : PySem.W.subIn K (.ref C5) (.ref C2) = some false)
    (eo53 : PySem.W.subIn K (.ref C5) (.ref C3) = some false)
    (eo54 : PySem.W.subIn K (.ref C5) (.ref C4) = some false)
    (eo55 : PySem.W.subIn K (.ref C5) (.ref C5) = some true)
    (ei0 : PySem.W.isClsIn K C0 = true)
    (ei1 : PySem.W.isClsIn K C1 = true)
    (ei2 : PySem.W.isClsIn K C2 = true)
    (ei3 : PySem.W.isClsIn K C3 = true)
    (ei4 : PySem.W.isClsIn K C4 = true)
    (ei5 : PySem.W.isClsIn K C5 = true)
    (en : PySem.W.specialIn K (.builtin "object.__class__") "__get__" = some (some (.builtin "getset_descriptor.__get__")))
    (et : PySem.W.takesIn K (.builtin "object.__class__") = some true) :
    ∃ fd : FuncData, (∀ (s : Shared) (v : Value), BindsTo s fd ⟨[v], []⟩ [("_law_script", v)]) ∧ ∀ base : Heap, K.In base → base.Ns mainGlobals mg → FnOk P w K mg base (L2N.CX P w) 105 fa fd ["_law_script"] (spLaw K) := by
  have e := hfa.symm.trans (PySem.W.mg_of X G a18)
  cases e
  have F0 := fun_mk (st := s_are_letters) l0 c0 k0
  have b0 := F0.binds (ps := ["thing"]) fun _ _ _ _ _ _ us hl => match us, hl with | [_], _ => rfl
  have F1 := fun_mk (st := s_need_letters) l1 c1 k1
  have b1 := F1.binds (ps := ["letters"]) fun _ _ _ _ _ _ us hl => match us, hl with | [_], _ => rfl
  have F2 := fun_mk (st := s_is_sign) l2 c2 k2
  have b2 := F2.binds (ps := ["letters", "thing"]) fun _ _ _ _ _ _ us hl => match us, hl with | [_, _], _ => rfl
  have F3 := fun_mk (st := s_need_text) l3 c3 k3
  have b3 := F3.binds (ps := ["letters", "text"]) fun _ _ _ _ _ _ us hl => match us, hl with | [_, _], _ => rfl
  have F4 := fun_mk (st := s_need_room) l4 c4 k4
  have b4 := F4.binds (ps := ["machine", "room"]) fun _ _ _ _ _ _ us hl => match us, hl with | [_, _], _ => rfl
  have F5 := fun_mk (st := s_room_of) l5 c5 k5
  have b5 := F5.binds (ps := ["letters", "machine", "room", "text"]) fun _ _ _ _ _ _ us hl => match us, hl with | [_, _, _, _], _ => rfl
  have F6 := fun_mk (st := s_parting) l6 c6 k6
  have b6 := F6.binds (ps := ["letters", "machine", "room", "other"]) fun _ _ _ _ _ _ us hl => match us, hl with | [_, _, _, _], _ => rfl
  have F7 := fun_mk (st := s__law_cell_at) l7 c7 k7
  have b7 := F7.binds (ps := ["_law_script", "_law_k"]) fun _ _ _ _ _ _ us hl => match us, hl with | [_, _], _ => rfl
  have F8 := fun_mk (st := s__law_letters) l8 c8 k8
  have b8 := F8.binds (ps := ["_law_cell"]) fun _ _ _ _ _ _ us hl => match us, hl with | [_], _ => rfl
  have F9 := fun_mk (st := s__law_text) l9 c9 k9
  have b9 := F9.binds (ps := ["_law_letters_here", "_law_cell", "_law_most"]) fun _ _ _ _ _ _ us hl => match us, hl with | [_, _, _], _ => rfl
  have F10 := fun_mk (st := s__law_machine) l10 c10 k10
  have b10 := F10.binds (ps := ["_law_letters_here", "_law_script"]) fun _ _ _ _ _ _ us hl => match us, hl with | [_, _], _ => rfl
  have F11 := fun_mk (st := s__law_far) l11 c11 k11
  have b11 := F11.binds (ps := ["_law_steps", "_law_ends"]) fun _ _ _ _ _ _ us hl => match us, hl with | [_, _], _ => rfl
  have F12 := fun_mk (st := s__law_due) l12 c12 k12
  have b12 := F12.binds (ps := ["_law_letters_here", "_law_machine_here", "_law_one", "_law_two"]) fun _ _ _ _ _ _ us hl => match us, hl with | [_, _, _, _], _ => rfl
  have F13 := fun_mk (st := s__law_told) l13 c13 k13
  have b13 := F13.binds (ps := ["_law_way", "_law_letters_here", "_law_machine_here", "_law_room", "_law_thing"]) fun _ _ _ _ _ _ us hl => match us, hl with | [_, _, _, _, _], _ => rfl
  have F14 := fun_mk (st := s__law_no_text) l14 c14 k14
  have b14 := F14.binds (ps := ["_law_letters_here", "_law_cell"]) fun _ _ _ _ _ _ us hl => match us, hl with | [_, _], _ => rfl
  have F15 := fun_mk (st := s__law_longest) l15 c15 k15
  have b15 := F15.binds (ps := ["_law_letters_here", "_law_machine_here", "_law_room"]) fun _ _ _ _ _ _ us hl => match us, hl with | [_, _, _], _ => rfl
  have F16 := fun_mk (st := s__law_refused) l16 c16 k16
  have b16 := F16.binds (ps := ["_law_letters_here", "_law_machine_here", "_law_room", "_law_cell"]) fun _ _ _ _ _ _ us hl => match us, hl with | [_, _, _, _], _ => rfl
  have F17 := fun_mk (st := s__law_good) l17 c17 k17
  have b17 := F17.binds (ps := ["_law_letters_here", "_law_machine_here", "_law_one", "_law_two", "_law_text_here"]) fun _ _ _ _ _ _ us hl => match us, hl with | [_, _, _, _, _], _ => rfl
  have F18 := fun_mk (st := s_law) l18 c18 k18
  have b18 := F18.binds (ps := ["_law_script"]) fun _ _ _ _ _ _ us hl => match us, hl with | [_], _ => rfl
  have F19 := fun_mk (st := s__law_kind) l19 c19 k19
  have b19 := F19.binds (ps := ["_law_error"]) fun _ _ _ _ _ _ us hl => match us, hl with | [_], _ => rfl
  have X0 : ExT K mg "PatternError" C0 := ⟨PySem.W.mg_of X G xg0, xx0, xk0, xb0, xt0⟩
  have X1 : ExT K mg "NoLetters" C1 := ⟨PySem.W.mg_of X G xg1, xx1, xk1, xb1, xt1⟩
  have X2 : ExT K mg "NoPattern" C2 := ⟨PySem.W.mg_of X G xg2, xx2, xk2, xb2, xt2⟩
  have X3 : ExT K mg "TooGreat" C3 := ⟨PySem.W.mg_of X G xg3, xx3, xk3, xb3, xt3⟩
  have X4 : ExT K mg "NoText" C4 := ⟨PySem.W.mg_of X G xg4, xx4, xk4, xb4, xt4⟩
  have X5 : ExT K mg "NoRoom" C5 := ⟨PySem.W.mg_of X G xg5, xx5, xk5, xb5, xt5⟩
  have Y1 : ExcC K C1 := ⟨eg1, ek1, xb1, ed1, ea1, en, et, em1⟩
  have Y2 : ExcC K C2 := ⟨eg2, ek2, xb2, ed2, ea2, en, et, em2⟩
  have Y3 : ExcC K C3 := ⟨eg3, ek3, xb3, ed3, ea3, en, et, em3⟩
  have Y4 : ExcC K C4 := ⟨eg4, ek4, xb4, ed4, ea4, en, et, em4⟩
  have Y5 : ExcC K C5 := ⟨eg5, ek5, xb5, ed5, ea5, en, et, em5⟩
  let ca : Nat → Addr := fun | 0 => C0 | 1 => C1 | 2 => C2 | 3 => C3 | 4 => C4 | 5 => C5 | _ => C0
  let T : Tx K mg := {
    a := fun | 0 => f0 | 1 => f1 | 2 => f2 | 3 => f3 | 4 => f4 | 5 => f5 | 6 => f6 | 7 => f7 | 8 => f8 | 9 => f9 | 10 => f10 | 11 => f11 | 12 => f12 | 13 => f13 | 14 => f14 | 15 => f15 | 16 => f16 | 17 => f17 | 18 => fa | _ => f0,
    fd := fun | 0 => PySem.W.fnOf "are_letters" "are_letters" (defArgs s_are_letters) (defBody s_are_letters) (defScope s_are_letters) .none kV0 dc0 pm0 an0 cd0 ct0 | 1 => PySem.W.fnOf "need_letters" "need_letters" (defArgs s_need_letters) (defBody s_need_letters) (defScope s_need_letters) .none kV1 dc1 pm1 an1 cd1 ct1 | 2 => PySem.W.fnOf "is_sign" "is_sign" (defArgs s_is_sign) (defBody s_is_sign) (defScope s_is_sign) .none kV2 dc2 pm2 an2 cd2 ct2 | 3 => PySem.W.fnOf "need_text" "need_text" (defArgs s_need_text) (defBody s_need_text) (defScope s_need_text) .none kV3 dc3 pm3 an3 cd3 ct3 | 4 => PySem.W.fnOf "need_room" "need_room" (defArgs s_need_room) (defBody s_need_room) (defScope s_need_room) .none kV4 dc4 pm4 an4 cd4 ct4 | 5 => PySem.W.fnOf "room_of" "room_of" (defArgs s_room_of) (defBody s_room_of) (defScope s_room_of) .none kV5 dc5 pm5 an5 cd5 ct5 | 6 => PySem.W.fnOf "parting" "parting" (defArgs s_parting) (defBody s_parting) (defScope s_parting) .none kV6 dc6 pm6 an6 cd6 ct6 | 7 => PySem.W.fnOf "_law_cell_at" "_law_cell_at" (defArgs s__law_cell_at) (defBody s__law_cell_at) (defScope s__law_cell_at) .none kV7 dc7 pm7 an7 cd7 ct7 | 8 => PySem.W.fnOf "_law_letters" "_law_letters" (defArgs s__law_letters) (defBody s__law_letters) (defScope s__law_letters) .none kV8 dc8 pm8 an8 cd8 ct8 | 9 => PySem.W.fnOf "_law_text" "_law_text" (defArgs s__law_text) (defBody s__law_text) (defScope s__law_text) .none kV9 dc9 pm9 an9 cd9 ct9 | 10 => PySem.W.fnOf "_law_machine" "_law_machine" (defArgs s__law_machine) (defBody s__law_machine) (defScope s__law_machine) .none kV10 dc10 pm10 an10 cd10 ct10 | 11 => PySem.W.fnOf "_law_far" "_law_far" (defArgs s__law_far) (defBody s__law_far) (defScope s__law_far) .none kV11 dc11 pm11 an11 cd11 ct11 | 12 => PySem.W.fnOf "_law_due" "_law_due" (defArgs s__law_due) (defBody s__law_due) (defScope s__law_due) .none kV12 dc12 pm12 an12 cd12 ct12 | 13 => PySem.W.fnOf "_law_told" "_law_told" (defArgs s__law_told) (defBody s__law_told) (defScope s__law_told) .none kV13 dc13 pm13 an13 cd13 ct13 | 14 => PySem.W.fnOf "_law_no_text" "_law_no_text" (defArgs s__law_no_text) (defBody s__law_no_text) (defScope s__law_no_text) .none kV14 dc14 pm14 an14 cd14 ct14 | 15 => PySem.W.fnOf "_law_longest" "_law_longest" (defArgs s__law_longest) (defBody s__law_longest) (defScope s__law_longest) .none kV15 dc15 pm15 an15 cd15 ct15 | 16 => PySem.W.fnOf "_law_refused" "_law_refused" (defArgs s__law_refused) (defBody s__law_refused) (defScope s__law_refused) .none kV16 dc16 pm16 an16 cd16 ct16 | 17 => PySem.W.fnOf "_law_good" "_law_good" (defArgs s__law_good) (defBody s__law_good) (defScope s__law_good) .none kV17 dc17 pm17 an17 cd17 ct17 | 18 => PySem.W.fnOf "law" "law" (defArgs s_law) (defBody s_law) (defScope s_law) .none kV18 dc18 pm18 an18 cd18 ct18 | _ => PySem.W.fnOf "are_letters" "are_letters" (defArgs s_are_letters) (defBody s_are_letters) (defScope s_are_letters) .none kV0 dc0 pm0 an0 cd0 ct0,
    ca := ca,
    F0 := F0,
    b0 := b0,
    g0 := PySem.W.mg_of X G a0,
    F1 := F1,
    b1 := b1,
    g1 := PySem.W.mg_of X G a1,
    F2 := F2,
    b2 := b2,
    g2 := PySem.W.mg_of X G a2,
    F3 := F3,
    b3 := b3,
    g3 := PySem.W.mg_of X G a3,
    F4 := F4,
    b4 := b4,
    g4 := PySem.W.mg_of X G a4,
    F5 := F5,
    b5 := b5,
    g5 := PySem.W.mg_of X G a5,
    F6 := F6,
    b6 := b6,
    g6 := PySem.W.mg_of X G a6,
    F7 := F7,
    b7 := b7,
    g7 := PySem.W.mg_of X G a7,
    F8 := F8,
    b8 := b8,
    g8 := PySem.W.mg_of X G a8,
    F9 := F9,
    b9 := b9,
    g9 := PySem.W.mg_of X G a9,
    F10 := F10,
    b10 := b10,
    g10 := PySem.W.mg_of X G a10,
    F11 := F11,
    b11 := b11,
    g11 := PySem.W.mg_of X G a11,
    F12 := F12,
    b12 := b12,
    g12 := PySem.W.mg_of X G a12,
    F13 := F13,
    b13 := b13,
    g13 := PySem.W.mg_of X G a13,
    F14 := F14,
    b14 := b14,
    g14 := PySem.W.mg_of X G a14,
    F15 := F15,
    b15 := b15,
    g15 := PySem.W.mg_of X G a15,
    F16 := F16,
    b16 := b16,
    g16 := PySem.W.mg_of X G a16,
    F17 := F17,
    b17 := b17,
    g17 := PySem.W.mg_of X G a17,
    F18 := F18,
    b18 := b18,
    g18 := PySem.W.mg_of X G a18,
    n_ValueError := PySem.W.mg_none_of X G n_ValueError,
    n_abs := PySem.W.mg_none_of X G n_abs,
    n_all := PySem.W.mg_none_of X G n_all,
    n_bool := PySem.W.mg_none_of X G n_bool,
    n_enumerate := PySem.W.mg_none_of X G n_enumerate,
    n_int := PySem.W.mg_none_of X G n_int,
    n_isinstance := PySem.W.mg_none_of X G n_isinstance,
    n_len := PySem.W.mg_none_of X G n_len,
    n_list := PySem.W.mg_none_of X G n_list,
    n_range := PySem.W.mg_none_of X G n_range,
    n_str := PySem.W.mg_none_of X G n_str,
    n_zip := PySem.W.mg_none_of X G n_zip,
    k_SMALL := ⟨_, (V.str "abcdefghijklmnopqrstuvwxyz"), PySem.W.mg_of X G s_SMALL, ⟨_, rfl⟩, fun _ _ => by simp only [RD]⟩,
    k_MOST_LETTERS := ⟨_, (V.int 4), PySem.W.mg_of X G s_MOST_LETTERS, ⟨_, rfl⟩, fun _ _ => by simp only [RD]⟩,
    k_MOST_SIGNS := ⟨_, (V.int 200), PySem.W.mg_of X G s_MOST_SIGNS, ⟨_, rfl⟩, fun _ _ => by simp only [RD]⟩,
    x0 := X0,
    x1 := X1,
    x2 := X2,
    x3 := X3,
    x4 := X4,
    x5 := X5,
    ak := f19,
    fdk := PySem.W.fnOf "_law_kind" "_law_kind" (defArgs s__law_kind) (defBody s__law_kind) (defScope s__law_kind) .none kV19 dc19 pm19 an19 cd19 ct19,
    F_kind := F19,
    g_kind := PySem.W.mg_of X G a19,
    b_kind := b19,
    xk := ⟨fun i h1 h5 => (match i, h1, h5 with | 1, _, _ => Y1 | 2, _, _ => Y2 | 3, _, _ => Y3 | 4, _, _ => Y4 | 5, _, _ => Y5 | 0, h, _ => absurd h (by decide) | (k + 6), _, h => absurd h (by omega)), fun i j h1 h5 g1 g5 => (match i, h1, h5, j, g1, g5 with | 1, _, _, 1, _, _ => kit_ref ei1 xt1 eo11 eo11 | 1, _, _, 2, _, _ => kit_ref ei2 xt2 eo22 eo12 | 1, _, _, 3, _, _ => kit_ref ei3 xt3 eo33 eo13 | 1, _, _, 4, _, _ => kit_ref ei4 xt4 eo44 eo14 | 1, _, _, 5, _, _ => kit_ref ei5 xt5 eo55 eo15 | 2, _, _, 1, _, _ => kit_ref ei1 xt1 eo11 eo21 | 2, _, _, 2, _, _ => kit_ref ei2 xt2 eo22 eo22 | 2, _, _, 3, _, _ => kit_ref ei3 xt3 eo33 eo23 | 2, _, _, 4, _, _ => kit_ref ei4 xt4 eo44 eo24 | 2, _, _, 5, _, _ => kit_ref ei5 xt5 eo55 eo25 | 3, _, _, 1, _, _ => kit_ref ei1 xt1 eo11 eo31 | 3, _, _, 2, _, _ => kit_ref ei2 xt2 eo22 eo32 | 3, _, _, 3, _, _ => kit_ref ei3 xt3 eo33 eo33 | 3, _, _, 4, _, _ => kit_ref ei4 xt4 eo44 eo34 | 3, _, _, 5, _, _ => kit_ref ei5 xt5 eo55 eo35 | 4, _, _, 1, _, _ => kit_ref ei1 xt1 eo11 eo41 | 4, _, _, 2, _, _ => kit_ref ei2 xt2 eo22 eo42 | 4, _, _, 3, _, _ => kit_ref ei3 xt3 eo33 eo43 | 4, _, _, 4, _, _ => kit_ref ei4 xt4 eo44 eo44 | 4, _, _, 5, _, _ => kit_ref ei5 xt5 eo55 eo45 | 5, _, _, 1, _, _ => kit_ref ei1 xt1 eo11 eo51 | 5, _, _, 2, _, _ => kit_ref ei2 xt2 eo22 eo52 | 5, _, _, 3, _, _ => kit_ref ei3 xt3 eo33 eo53 | 5, _, _, 4, _, _ => kit_ref ei4 xt4 eo44 eo54 | 5, _, _, 5, _, _ => kit_ref ei5 xt5 eo55 eo55 | 0, h, _, _, _, _ => absurd h (by decide) | (k + 6), _, h, _, _, _ => absurd h (by omega) | _, _, _, 0, h, _ => absurd h (by decide) | _, _, _, (k + 6), _, h => absurd h (by omega)), fun i h1 h5 => (match i, h1, h5 with | 1, _, _ => kit_ve ev1 | 2, _, _ => kit_ve ev2 | 3, _, _ => kit_ve ev3 | 4, _, _ => kit_ve ev4 | 5, _, _ => kit_ve ev5 | 0, h, _ => absurd h (by decide) | (k + 6), _, h => absurd h (by omega)), fun i h1 h5 => (match i, h1, h5 with | 1, _, _ => exm_ref ei0 xt0 xb0 ex1 | 2, _, _ => exm_ref ei0 xt0 xb0 ex2 | 3, _, _ => exm_ref ei0 xt0 xb0 ex3 | 4, _, _ => exm_ref ei0 xt0 xb0 ex4 | 5, _, _ => exm_ref ei0 xt0 xb0 ex5 | 0, h, _ => absurd h (by decide) | (k + 6), _, h => absurd h (by omega))⟩ }
  exact ⟨_, fun s v => .of_eq rfl, fun base _ _ => (ok_all (P := P) (w := w) (base := base) T 104).o18.imp (sp_law _ (fun ns _ => law_true 103 (by decide) ns [] rfl))⟩
end G
open PySem PySem.W PyProof.Rows
set_option maxRecDepth 100000 in
set_option maxHeartbeats 0 in
theorem PySem.Challenge.cw_bothreed_k06_rooms_and_partings_holds : PySem.Challenge.rw_bothreed_k06_rooms_and_partings.Holds := by
  w_on; o_law; k_head; (case hw => w_witness2)
  k_fill
  refine L2.walk_of (l := PySem.Challenge.rw_bothreed_k06_rooms_and_partings) (n := 63) (k := 105) (x := "_law_script") (CX := fun w => L2N.CX (PySem.Challenge.rw_bothreed_k06_rooms_and_partings).prog w) (sp := fun w => G.spLaw _) rfl (by decide) rfl ⟨rfl, by decide, by decide⟩ (fun w h Y => PySem.W.kIn_of Y) ?F (fun w H a ns hl hO hS => ⟨a, ns, rfl, hl, hO, hS, fun _ => rfl⟩) (fun w H s e s' c => by obtain ⟨_, _, _, _, _, _, _, _, _, _, _, _, z⟩ := c; exact z.elim)
  case F =>
    intro w mg fa h KX NsH hmg
    refine' G.all_mk KX NsH hmg ?a0 ?l0 ?c0 ?k0 ?a1 ?l1 ?c1 ?k1 ?a2 ?l2 ?c2 ?k2 ?a3 ?l3 ?c3 ?k3 ?a4 ?l4 ?c4 ?k4 ?a5 ?l5 ?c5 ?k5 ?a6 ?l6 ?c6 ?k6 ?a7 ?l7 ?c7 ?k7 ?a8 ?l8 ?c8 ?k8 ?a9 ?l9 ?c9 ?k9 ?a10 ?l10 ?c10 ?k10 ?a11 ?l11 ?c11 ?k11 ?a12 ?l12 ?c12 ?k12 ?a13 ?l13 ?c13 ?k13 ?a14 ?l14 ?c14 ?k14 ?a15 ?l15 ?c15 ?k15 ?a16 ?l16 ?c16 ?k16 ?a17 ?l17 ?c17 ?k17 ?a18 ?l18 ?c18 ?k18 ?a19 ?l19 ?c19 ?k19 ?n_ValueError ?n_abs ?n_all ?n_bool ?n_enumerate ?n_int ?n_isinstance ?n_len ?n_list ?n_range ?n_str ?n_zip ?s_SMALL ?s_MOST_LETTERS ?s_MOST_SIGNS ?xg0 ?xx0 ?xk0 ?xb0 ?xt0 ?xg1 ?xx1 ?xk1 ?xb1 ?xt1 ?xg2 ?xx2 ?xk2 ?xb2 ?xt2 ?xg3 ?xx3 ?xk3 ?xb3 ?xt3 ?xg4 ?xx4 ?xk4 ?xb4 ?xt4 ?xg5 ?xx5 ?xk5 ?xb5 ?xt5 ?eg1 ?ek1 ?ed1 ?ea1 ?em1 ?ev1 ?ex1 ?eo11 ?eo12 ?eo13 ?eo14 ?eo15 ?eg2 ?ek2 ?ed2 ?ea2 ?em2 ?ev2 ?ex2 ?eo21 ?eo22 ?eo23 ?eo24 ?eo25 ?eg3 ?ek3 ?ed3 ?ea3 ?em3 ?ev3 ?ex3 ?eo31 ?eo32 ?eo33 ?eo34 ?eo35 ?eg4 ?ek4 ?ed4 ?ea4 ?em4 ?ev4 ?ex4 ?eo41 ?eo42 ?eo43 ?eo44 ?eo45 ?eg5 ?ek5 ?ed5 ?ea5 ?em5 ?ev5 ?ex5 ?eo51 ?eo52 ?eo53 ?eo54 ?eo55 ?ei0 ?ei1 ?ei2 ?ei3 ?ei4 ?ei5 ?en ?et
    (case a0 => k_is)
    (case l0 => k_is)
    (case c0 => k_is)
    (case k0 => k_is)
    (case a1 => k_is)
    (case l1 => k_is)
    (case c1 => k_is)
    (case k1 => k_is)
    (case a2 => k_is)
    (case l2 => k_is)
    (case c2 => k_is)
    (case k2 => k_is)
    (case a3 => k_is)
    (case l3 => k_is)
    (case c3 => k_is)
    (case k3 => k_is)
    (case a4 => k_is)
    (case l4 => k_is)
    (case c4 => k_is)
    (case k4 => k_is)
    (case a5 => k_is)
    (case l5 => k_is)
    (case c5 => k_is)
    (case k5 => k_is)
    (case a6 => k_is)
    (case l6 => k_is)
    (case c6 => k_is)
    (case k6 => k_is)
    (case a7 => k_is)
    (case l7 => k_is)
    (case c7 => k_is)
    (case k7 => k_is)
    (case a8 => k_is)
    (case l8 => k_is)
    (case c8 => k_is)
    (case k8 => k_is)
    (case a9 => k_is)
    (case l9 => k_is)
    (case c9 => k_is)
    (case k9 => k_is)
    (case a10 => k_is)
    (case l10 => k_is)
    (case c10 => k_is)
    (case k10 => k_is)
    (case a11 => k_is)
    (case l11 => k_is)
    (case c11 => k_is)
    (case k11 => k_is)
    (case a12 => k_is)
    (case l12 => k_is)
    (case c12 => k_is)
    (case k12 => k_is)
    (case a13 => k_is)
    (case l13 => k_is)
    (case c13 => k_is)
    (case k13 => k_is)
    (case a14 => k_is)
    (case l14 => k_is)
    (case c14 => k_is)
    (case k14 => k_is)
    (case a15 => k_is)
    (case l15 => k_is)
    (case c15 => k_is)
    (case k15 => k_is)
    (case a16 => k_is)
    (case l16 => k_is)
    (case c16 => k_is)
    (case k16 => k_is)
    (case a17 => k_is)
    (case l17 => k_is)
    (case c17 => k_is)
    (case k17 => k_is)
    (case a18 => k_is)
    (case l18 => k_is)
    (case c18 => k_is)
    (case k18 => k_is)
    (case a19 => k_is)
    (case l19 => k_is)
    (case c19 => k_is)
    (case k19 => k_is)
    (case n_ValueError => k_is)
    (case n_abs => k_is)
    (case n_all => k_is)
    (case n_bool => k_is)
    (case n_enumerate => k_is)
    (case n_int => k_is)
    (case n_isinstance => k_is)
    (case n_len => k_is)
    (case n_list => k_is)
    (case n_range => k_is)
    (case n_str => k_is)
    (case n_zip => k_is)
    (case s_SMALL => k_is)
    (case s_MOST_LETTERS => k_is)
    (case s_MOST_SIGNS => k_is)
    (case xg0 => k_is)
    (case xx0 => k_exc)
    (case xk0 => k_is)
    (case xb0 => k_is)
    (case xt0 => k_is)
    (case xg1 => k_is)
    (case xx1 => k_exc)
    (case xk1 => k_is)
    (case xb1 => k_is)
    (case xt1 => k_is)
    (case xg2 => k_is)
    (case xx2 => k_exc)
    (case xk2 => k_is)
    (case xb2 => k_is)
    (case xt2 => k_is)
    (case xg3 => k_is)
    (case xx3 => k_exc)
    (case xk3 => k_is)
    (case xb3 => k_is)
    (case xt3 => k_is)
    (case xg4 => k_is)
    (case xx4 => k_exc)
    (case xk4 => k_is)
    (case xb4 => k_is)
    (case xt4 => k_is)
    (case xg5 => k_is)
    (case xx5 => k_exc)
    (case xk5 => k_is)
    (case xb5 => k_is)
    (case xt5 => k_is)
    (case eg1 => k_is)
    (case ek1 => k_is)
    (case ed1 => k_is)
    (case ea1 => k_is)
    (case em1 => k_is)
    (case ev1 => k_is)
    (case ex1 => k_is)
    (case eo11 => k_is)
    (case eo12 => k_is)
    (case eo13 => k_is)
    (case eo14 => k_is)
    (case eo15 => k_is)
    (case eg2 => k_is)
    (case ek2 => k_is)
    (case ed2 => k_is)
    (case ea2 => k_is)
    (case em2 => k_is)
    (case ev2 => k_is)
    (case ex2 => k_is)
    (case eo21 => k_is)
    (case eo22 => k_is)
    (case eo23 => k_is)
    (case eo24 => k_is)
    (case eo25 => k_is)
    (case eg3 => k_is)
    (case ek3 => k_is)
    (case ed3 => k_is)
    (case ea3 => k_is)
    (case em3 => k_is)
    (case ev3 => k_is)
    (case ex3 => k_is)
    (case eo31 => k_is)
    (case eo32 => k_is)
    (case eo33 => k_is)
    (case eo34 => k_is)
    (case eo35 => k_is)
    (case eg4 => k_is)
    (case ek4 => k_is)
    (case ed4 => k_is)
    (case ea4 => k_is)
    (case em4 => k_is)
    (case ev4 => k_is)
    (case ex4 => k_is)
    (case eo41 => k_is)
    (case eo42 => k_is)
    (case eo43 => k_is)
    (case eo44 => k_is)
    (case eo45 => k_is)
    (case eg5 => k_is)
    (case ek5 => k_is)
    (case ed5 => k_is)
    (case ea5 => k_is)
    (case em5 => k_is)
    (case ev5 => k_is)
    (case ex5 => k_is)
    (case eo51 => k_is)
    (case eo52 => k_is)
    (case eo53 => k_is)
    (case eo54 => k_is)
    (case eo55 => k_is)
    (case ei0 => k_is)
    (case ei1 => k_is)
    (case ei2 => k_is)
    (case ei3 => k_is)
    (case ei4 => k_is)
    (case ei5 => k_is)
    (case en => k_is)
    (case et => k_is)
