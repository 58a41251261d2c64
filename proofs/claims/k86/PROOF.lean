import PyProof.Rows.All
import Wide.All
import OpenK.AllK
import Wide.FinOn
import HandS.ForMost
import HandS.Evl
import HandS.IsInst
import HandS.Deep
import HandS.DictTup
import KE.SortData
import KE.KDictCopyH
import KE.KDictSum
import HandS.TupLen
import KE.DataFind
import KE.KDictWalk
import HandS.DictComp
import HandS.Text
import PySem.Challenge.RW_planstead_k86_differences_of_rows
set_option Elab.async false
set_option linter.all false
set_option maxRecDepth 100000
set_option maxHeartbeats 4000000
/-! Vf0: data by value, owned objects by number, the relation to the abstract heap. -/
namespace Vf
open PySem L2 Evl

/-- data that never changes, by value -/
inductive D where
  | s (v : V) | t (xs : List D) | l (xs : List D)
/-- what an owned object is, but for its contents -/
inductive Hd where
  | lst | dK (ks : List Key) | dT (ks : List (List Key)) | ins (C : Addr) (ns : List Str)
/-- a value: data; the owned object n; a tuple; an owned object by value; anything -/
inductive W where
  | d (x : D) | o (n : Nat) | t (ws : List W) | n (h : Hd) (ws : List W) | x
abbrev OO := Hd × List W
abbrev Ob := List (Option OO)

def Hd.is : Hd → List V → HO → Prop
  | .lst, vs, ho => ho = .lst vs
  | .dK ks, vs, ho => ks.length = vs.length ∧ ho = .dK (ks.zip vs)
  | .dT ks, vs, ho => ks.length = vs.length ∧ ho = .dT (ks.zip vs)
  | .ins C ns, vs, ho => ns.length = vs.length ∧ ∃ dx, ho = .ins C dx (ns.zip vs)

section
variable (K : PySem.W.Frag)
mutual
def RD (B : Hp) : D → V → Prop
  | .s v, u => u = v
  | .t xs, u => ∃ a vs, u = V.ref a ∧ B a = some (.tup vs) ∧ RDs B xs vs
  | .l xs, u => ∃ a vs, u = V.ref a ∧ SqL K B a vs ∧ RDs B xs vs
def RDs (B : Hp) : List D → List V → Prop
  | [], vs => vs = []
  | x :: xs, vs => ∃ v r, vs = v :: r ∧ RD B x v ∧ RDs B xs r
end
mutual
def RWf (B : Hp) (ρ : List Addr) (H : Hp) : W → V → List Addr → Prop
  | .d x, v, fp => RD K B x v ∧ fp = []
  | .o n, v, fp => (∃ a, ρ[n]? = some a ∧ v = .ref a) ∧ fp = []
  | .t ws, v, fp => ∃ a vs, v = .ref a ∧ B a = some (.tup vs) ∧ RWfs B ρ H ws vs fp
  | .n h ws, v, fp => ∃ a vs ho f, v = .ref a ∧ fp = a :: f ∧ H a = some ho ∧ h.is vs ho ∧ RWfs B ρ H ws vs f
  | .x, _, fp => fp = []
def RWfs (B : Hp) (ρ : List Addr) (H : Hp) : List W → List V → List Addr → Prop
  | [], vs, fp => vs = [] ∧ fp = []
  | w :: ws, vs, fp => ∃ v r f1 f2, vs = v :: r ∧ fp = f1 ++ f2 ∧ RWf B ρ H w v f1 ∧ RWfs B ρ H ws r f2
end
/-- a value that owns nothing -/
abbrev RW (B : Hp) (ρ : List Addr) (H : Hp) (w : W) (v : V) : Prop := RWf K B ρ H w v []
abbrev RWs (B : Hp) (ρ : List Addr) (H : Hp) (ws : List W) (vs : List V) : Prop := RWfs K B ρ H ws vs []
end
section
variable {K : PySem.W.Frag} {B B' F H H' : Hp} {ρ ρ' : List Addr}

mutual
theorem RD.mono (e : Ex B B') : ∀ (x : D) (v : V), RD K B x v → RD K B' x v
  | .s w, u, h => by simp only [RD] at h ⊢; exact h
  | .t xs, u, h => by
    simp only [RD] at h ⊢
    obtain ⟨a, vs, h1, h2, h3⟩ := h
    exact ⟨a, vs, h1, e _ _ h2, RDs.mono e xs vs h3⟩
  | .l xs, u, h => by
    simp only [RD] at h ⊢
    obtain ⟨a, vs, h1, h2, h3⟩ := h
    exact ⟨a, vs, h1, ex_l e h2, RDs.mono e xs vs h3⟩
theorem RDs.mono (e : Ex B B') : ∀ (xs : List D) (vs : List V), RDs K B xs vs → RDs K B' xs vs
  | [], vs, h => by simp only [RDs] at h ⊢; exact h
  | x :: xs, vs, h => by
    simp only [RDs] at h ⊢
    obtain ⟨v, r, h1, h2, h3⟩ := h
    exact ⟨v, r, h1, RD.mono e x v h2, RDs.mono e xs r h3⟩
end
theorem pre_get {α : Type} {l l' : List α} (h : l <+: l') {n : Nat} {a : α} (e : l[n]? = some a) : l'[n]? = some a := by
  obtain ⟨t, rfl⟩ := h
  have hn : n < l.length := (List.getElem?_eq_some_iff.mp e).1
  rw [List.getElem?_append_left hn]; exact e
mutual
/-- what a value says stands where data grow, names grow, and what it owns stands -/
theorem RWf.mono (e : Ex B B') (p : ∀ (n : Nat) (a : Addr), ρ[n]? = some a → ρ'[n]? = some a) : ∀ (w : W) (v : V) (fp : List Addr), (∀ a ∈ fp, ∀ o, H a = some o → H' a = some o) → RWf K B ρ H w v fp → RWf K B' ρ' H' w v fp
  | .d x, v, fp, k, h => by
    simp only [RWf] at h ⊢
    exact ⟨RD.mono e x v h.1, h.2⟩
  | .o n, v, fp, k, h => by
    simp only [RWf] at h ⊢
    obtain ⟨⟨a, h1, h2⟩, h3⟩ := h
    exact ⟨⟨a, p _ _ h1, h2⟩, h3⟩
  | .t ws, v, fp, k, h => by
    simp only [RWf] at h ⊢
    obtain ⟨a, vs, h1, h2, h3⟩ := h
    exact ⟨a, vs, h1, e _ _ h2, RWfs.mono e p ws vs fp k h3⟩
  | .n hd ws, v, fp, k, h => by
    simp only [RWf] at h ⊢
    obtain ⟨a, vs, ho, f, h1, h2, h3, h4, h5⟩ := h
    subst h2
    exact ⟨a, vs, ho, f, h1, rfl, k a List.mem_cons_self _ h3, h4, RWfs.mono e p ws vs f (fun b hb => k b (List.mem_cons_of_mem _ hb)) h5⟩
  | .x, v, fp, k, h => by
    simp only [RWf] at h ⊢
    exact h
theorem RWfs.mono (e : Ex B B') (p : ∀ (n : Nat) (a : Addr), ρ[n]? = some a → ρ'[n]? = some a) : ∀ (ws : List W) (vs : List V) (fp : List Addr), (∀ a ∈ fp, ∀ o, H a = some o → H' a = some o) → RWfs K B ρ H ws vs fp → RWfs K B' ρ' H' ws vs fp
  | [], vs, fp, k, h => by
    simp only [RWfs] at h ⊢
    exact h
  | w :: ws, vs, fp, k, h => by
    simp only [RWfs] at h ⊢
    obtain ⟨v, r, f1, f2, h1, h2, h3, h4⟩ := h
    subst h2
    exact ⟨v, r, f1, f2, h1, rfl, RWf.mono e p w v f1 (fun a ha => k a (List.mem_append_left _ ha)) h3, RWfs.mono e p ws r f2 (fun a ha => k a (List.mem_append_right _ ha)) h4⟩
end
theorem RW.mono' {w : W} {v : V} (e : Ex B B') (p : ρ <+: ρ') (h : RW K B ρ H w v) : RW K B' ρ' H' w v :=
  RWf.mono e (fun n a => pre_get p) w v [] (fun a ha => by cases ha) h
theorem RWs.mono' {ws : List W} {vs : List V} (e : Ex B B') (p : ρ <+: ρ') (h : RWs K B ρ H ws vs) : RWs K B' ρ' H' ws vs :=
  RWfs.mono e (fun n a => pre_get p) ws vs [] (fun a ha => by cases ha) h

theorem upd_out {H : Hp} {a b : Addr} {o : HO} {l : List Addr} (hb : b ∈ l) (ha : a ∉ l) : upd H a o b = H b := upd_ne fun z => ha (z ▸ hb)
/-- slots -/
def RS1 (K : PySem.W.Frag) (B : Hp) (ρ : List Addr) : Option W → Option V → Prop
  | some .x, _ => True
  | none, v => v = none
  | some w, v => ∃ u, v = some u ∧ RW K B ρ B w u
def RS (K : PySem.W.Frag) (B : Hp) (ρ : List Addr) : List (Option W) → L2.St → Prop
  | [], vs => vs = []
  | w :: ws, vs => ∃ v r, vs = v :: r ∧ RS1 K B ρ w v ∧ RS K B ρ ws r
theorem RS1.mono (e : Ex B B') (p : ρ <+: ρ') : ∀ {w : Option W} {v : Option V}, RS1 K B ρ w v → RS1 K B' ρ' w v
  | some .x, _, _ => True.intro
  | none, _, h => h
  | some (.d x), _, h => let ⟨u, h1, h2⟩ := h; ⟨u, h1, RW.mono' e p h2⟩
  | some (.o x), _, h => let ⟨u, h1, h2⟩ := h; ⟨u, h1, RW.mono' e p h2⟩
  | some (.t x), _, h => let ⟨u, h1, h2⟩ := h; ⟨u, h1, RW.mono' e p h2⟩
  | some (.n x y), _, h => let ⟨u, h1, h2⟩ := h; ⟨u, h1, RW.mono' e p h2⟩
theorem RS.mono (e : Ex B B') (p : ρ <+: ρ') : ∀ {ws : List (Option W)} {vs : L2.St}, RS K B ρ ws vs → RS K B' ρ' ws vs
  | [], _, h => h
  | _ :: _, _, h => let ⟨v, r, h1, h2, h3⟩ := h; ⟨v, r, h1, RS1.mono e p h2, RS.mono e p h3⟩
theorem RS.len : ∀ {ws : List (Option W)} {vs : L2.St}, RS K B ρ ws vs → vs.length = ws.length
  | [], _, h => by rw [show _ = [] from h]; rfl
  | _ :: _, _, h => by obtain ⟨v, r, h1, h2, h3⟩ := h; rw [h1, List.length_cons, List.length_cons, RS.len h3]
theorem RS1.asn {w : W} {v : Option V} (h : RS1 K B ρ (some w) v) (hx : w ≠ .x) : ∃ u, v = some u ∧ RW K B ρ B w u := by
  cases w with
  | x => exact absurd rfl hx
  | d x => exact h
  | o x => exact h
  | t x => exact h
  | n x y => exact h
theorem RS1.of {w : W} {u : V} (h : RW K B ρ B w u) : RS1 K B ρ (some w) (some u) := by
  cases w with
  | x => exact True.intro
  | d x => exact ⟨u, rfl, h⟩
  | o x => exact ⟨u, rfl, h⟩
  | t x => exact ⟨u, rfl, h⟩
  | n x y => exact ⟨u, rfl, h⟩
theorem RS.get : ∀ {ws : List (Option W)} {vs : L2.St} {i : Nat} {w : Option W}, RS K B ρ ws vs → ws[i]? = some w → ∃ v, vs[i]? = some v ∧ RS1 K B ρ w v
  | [], _, _, _, _, e => by simp at e
  | _ :: _, _, 0, _, h, e => by
    obtain ⟨v, r, rfl, h2, h3⟩ := h
    simp at e
    subst e
    exact ⟨v, rfl, h2⟩
  | _ :: _, _, i + 1, _, h, e => by
    obtain ⟨v, r, rfl, h2, h3⟩ := h
    have := RS.get (i := i) h3 (by simpa using e)
    simpa using this
theorem RS.set : ∀ {ws : List (Option W)} {vs : L2.St} {i : Nat} {w : Option W} {v : Option V}, RS K B ρ ws vs → RS1 K B ρ w v → RS K B ρ (ws.set i w) (vs.set i v)
  | [], _, _, _, _, h, _ => by rw [show _ = [] from h]; rfl
  | _ :: _, _, 0, _, _, h, q => by
    obtain ⟨v, r, rfl, h2, h3⟩ := h
    exact ⟨_, _, rfl, q, h3⟩
  | _ :: _, _, i + 1, _, _, h, q => by
    obtain ⟨v, r, rfl, h2, h3⟩ := h
    exact ⟨_, _, rfl, h2, RS.set h3 q⟩

/-- data grow: by what is not the frame's, by tuples -/
structure Gr (F B B' : Hp) : Prop where
  ex : Ex B B'
  out : ∀ a o, B' a = some o → B a = some o ∨ F a = none ∨ ∃ vs, o = .tup vs
theorem Gr.refl : Gr F B B := ⟨Ex.refl B, fun _ _ h => .inl h⟩
theorem Gr.trans {B1 B2 : Hp} (h : Gr F B B1) (h' : Gr F B1 B2) : Gr F B B2 := ⟨h.ex.trans h'.ex, fun a o e => by
  rcases h'.out a o e with q | q | q
  · exact h.out a o q
  · exact .inr (.inl q)
  · exact .inr (.inr q)⟩

/-- the heap: data at B, the frame F stands, the objects of O are owned -/
structure HRo (K : PySem.W.Frag) (B F : Hp) (ρ : List Addr) (O : Ob) (H : Hp) (fps : Nat → List Addr) : Prop where
  rd : ∀ n x, O[n]? = some (some x) → ∃ a, ρ[n]? = some a ∧ RWf K B ρ H (.n x.1 x.2) (.ref a) (fps n)
  nd : ∀ n x, O[n]? = some (some x) → (fps n).Nodup
  dj : ∀ n m x y, n ≠ m → O[n]? = some (some x) → O[m]? = some (some y) → ∀ a ∈ fps n, a ∉ fps m
  fr : ∀ n x, O[n]? = some (some x) → ∀ a ∈ fps n, B a = none ∧ F a = none ∧ (∃ o, H a = some o)
structure HR (K : PySem.W.Frag) (B F : Hp) (ρ : List Addr) (O : Ob) (H : Hp) : Prop where
  exB : Ex B H
  exF : Ex F H
  len : ρ.length = O.length
  ow : ∃ fps, HRo K B F ρ O H fps

/-- one object: what it is, and how it is written -/
theorem HR.get {O : Ob} {n : Nat} {h : Hd} {ws : List W} (r : HR K B F ρ O H) (e : O[n]? = some (some (h, ws))) :
    ∃ a vs ho f, ρ[n]? = some a ∧ H a = some ho ∧ h.is vs ho ∧ RWfs K B ρ H ws vs f ∧ B a = none ∧ F a = none ∧ a ∉ f ∧ f.Nodup ∧
      ∀ (h' : Hd) (ws' : List W) (vs' : List V) (ho' : HO) (f' : List Addr), h'.is vs' ho' → RWfs K B ρ H ws' vs' f' → (∀ b ∈ f', b ∈ f) → f'.Nodup → HR K B F ρ (O.set n (some (h', ws'))) (upd H a ho') := by
  obtain ⟨fps, q⟩ := r.ow
  obtain ⟨a, h1, h2⟩ := q.rd n _ e
  simp only [RWf] at h2
  obtain ⟨a', vs, ho, f, h3, h4, h5, h6, h7⟩ := h2
  cases h3
  have hnd := q.nd n _ e
  rw [h4] at hnd
  have haf : a ∉ f := (List.nodup_cons.mp hnd).1
  have hfn : f.Nodup := (List.nodup_cons.mp hnd).2
  have hfr := q.fr n _ e
  rw [h4] at hfr
  have ha := hfr a List.mem_cons_self
  refine ⟨a, vs, ho, f, h1, h5, h6, h7, ha.1, ha.2.1, haf, hfn, ?_⟩
  intro h' ws' vs' ho' f' i1 i2 i3 i4
  have hn : n < O.length := (List.getElem?_eq_some_iff.mp e).1
  refine ⟨r.exB.mut ha.1, r.exF.mut ha.2.1, by rw [List.length_set]; exact r.len, fun k => if k = n then a :: f' else fps k, ?_⟩
  have live : ∀ (k : Nat) x, (O.set n (some (h', ws')))[k]? = some (some x) → k ≠ n → O[k]? = some (some x) := fun k x ek hk => by
    rw [List.getElem?_set_ne (Ne.symm hk)] at ek; exact ek
  have anf : ∀ (k : Nat) x, O[k]? = some (some x) → k ≠ n → a ∉ fps k := fun k x ek hk => by
    refine q.dj n k _ x (Ne.symm hk) e ek a ?_
    rw [h4]; exact List.mem_cons_self
  have out : ∀ b ∈ f', b ≠ a := fun b hb z => haf (z ▸ i3 b hb)
  constructor
  · intro k x ek
    by_cases hk : k = n
    · subst hk
      rw [List.getElem?_set_self hn] at ek
      cases ek
      refine ⟨a, h1, ?_⟩
      simp only [RWf, if_pos]
      refine ⟨a, vs', ho', f', rfl, rfl, upd_same, i1, ?_⟩
      exact RWfs.mono (Ex.refl B) (fun _ _ z => z) ws' vs' f' (fun b hb o ho => by rw [upd_ne (out b hb)]; exact ho) i2
    · have ek' := live k x ek hk
      obtain ⟨b, hb1, hb2⟩ := q.rd k x ek'
      refine ⟨b, hb1, ?_⟩
      simp only [if_neg hk]
      exact RWf.mono (Ex.refl B) (fun _ _ z => z) _ _ _ (fun c hc o ho => by rw [upd_out hc (anf k x ek' hk)]; exact ho) hb2
  · intro k x ek
    by_cases hk : k = n
    · subst hk
      simp only [if_pos]
      exact List.nodup_cons.mpr ⟨fun z => out a z rfl, i4⟩
    · simp only [if_neg hk]
      exact q.nd k x (live k x ek hk)
  · intro k m x y hkm ek em c hc
    by_cases hk : k = n
    · subst hk
      simp only [if_pos] at hc
      have em' := live m y em (Ne.symm hkm)
      simp only [if_neg (Ne.symm hkm)]
      refine q.dj k m _ y hkm e em' c ?_
      rw [h4]
      rcases List.mem_cons.mp hc with z | z
      · rw [z]; exact List.mem_cons_self
      · exact List.mem_cons_of_mem _ (i3 c z)
    · simp only [if_neg hk] at hc
      have ek' := live k x ek hk
      by_cases hm : m = n
      · subst hm
        simp only [if_pos]
        have z := q.dj k m x _ hkm ek' e c hc
        rw [h4] at z
        intro z'
        rcases List.mem_cons.mp z' with z' | z'
        · exact z (z' ▸ List.mem_cons_self)
        · exact z (List.mem_cons_of_mem _ (i3 c z'))
      · simp only [if_neg hm]
        exact q.dj k m x y hkm ek' (live m y em hm) c hc
  · intro k x ek c hc
    by_cases hk : k = n
    · subst hk
      simp only [if_pos] at hc
      rcases List.mem_cons.mp hc with z | z
      · subst z; exact ⟨ha.1, ha.2.1, _, upd_same⟩
      · obtain ⟨z1, z2, o, z3⟩ := hfr c (List.mem_cons_of_mem _ (i3 c z))
        exact ⟨z1, z2, o, by rw [upd_ne (out c z)]; exact z3⟩
    · simp only [if_neg hk] at hc
      have ek' := live k x ek hk
      obtain ⟨z1, z2, o, z3⟩ := q.fr k x ek' c hc
      exact ⟨z1, z2, o, by rw [upd_out hc (anf k x ek' hk)]; exact z3⟩

/-- a new object -/
theorem HR.new {O : Ob} {p : Addr} {h : Hd} {ws : List W} {vs : List V} {ho : HO} (r : HR K B F ρ O H) (hp : H p = none) (i1 : h.is vs ho) (i2 : RWs K B ρ H ws vs) : HR K B F (ρ ++ [p]) (O ++ [some (h, ws)]) (upd H p ho) := by
  obtain ⟨fps, q⟩ := r.ow
  have hB : B p = none := fresh_back r.exB hp
  have hF : F p = none := fresh_back r.exF hp
  refine ⟨r.exB.mut hB, r.exF.mut hF, by simp [r.len], fun k => if k = O.length then [p] else fps k, ?_⟩
  have old : ∀ (k : Nat) x, (O ++ [some (h, ws)])[k]? = some (some x) → k ≠ O.length → O[k]? = some (some x) := fun k x ek hk => by
    have : k < (O ++ [some (h, ws)]).length := (List.getElem?_eq_some_iff.mp ek).1
    rw [List.length_append, List.length_singleton] at this
    rw [List.getElem?_append_left (by omega)] at ek
    exact ek
  have pnf : ∀ (k : Nat) x, O[k]? = some (some x) → p ∉ fps k := fun k x ek hk => by
    obtain ⟨_, _, o, z⟩ := q.fr k x ek p hk
    rw [hp] at z; cases z
  have grow : ∀ (n : Nat) (a : Addr), ρ[n]? = some a → (ρ ++ [p])[n]? = some a := fun n a e => pre_get (List.prefix_append _ _) e
  constructor
  · intro k x ek
    by_cases hk : k = O.length
    · subst hk
      rw [List.getElem?_append_right (Nat.le_refl _), Nat.sub_self] at ek
      cases ek
      refine ⟨p, by rw [← r.len, List.getElem?_append_right (Nat.le_refl _), Nat.sub_self]; rfl, ?_⟩
      simp only [RWf, if_pos]
      exact ⟨p, vs, ho, [], rfl, rfl, upd_same, i1, RWfs.mono (Ex.refl B) grow ws vs [] (fun _ z => by cases z) i2⟩
    · have ek' := old k x ek hk
      obtain ⟨b, hb1, hb2⟩ := q.rd k x ek'
      refine ⟨b, grow _ _ hb1, ?_⟩
      simp only [if_neg hk]
      exact RWf.mono (Ex.refl B) grow _ _ _ (fun c hc o ho => by rw [upd_out hc (pnf k x ek')]; exact ho) hb2
  · intro k x ek
    by_cases hk : k = O.length
    · simp only [if_pos hk]; exact List.nodup_cons.mpr ⟨by simp, List.nodup_nil⟩
    · simp only [if_neg hk]; exact q.nd k x (old k x ek hk)
  · intro k m x y hkm ek em c hc
    by_cases hk : k = O.length
    · simp only [if_pos hk] at hc
      have hm : m ≠ O.length := fun z => hkm (hk.trans z.symm)
      simp only [if_neg hm]
      rcases List.mem_singleton.mp hc with rfl
      exact pnf m y (old m y em hm)
    · simp only [if_neg hk] at hc
      by_cases hm : m = O.length
      · simp only [if_pos hm]
        intro z
        rcases List.mem_singleton.mp z with rfl
        exact pnf k x (old k x ek hk) hc
      · simp only [if_neg hm]
        exact q.dj k m x y hkm (old k x ek hk) (old m y em hm) c hc
  · intro k x ek c hc
    by_cases hk : k = O.length
    · simp only [if_pos hk] at hc
      rcases List.mem_singleton.mp hc with rfl
      exact ⟨hB, hF, _, upd_same⟩
    · simp only [if_neg hk] at hc
      have ek' := old k x ek hk
      obtain ⟨z1, z2, o, z3⟩ := q.fr k x ek' c hc
      exact ⟨z1, z2, o, by rw [upd_out hc (pnf k x ek')]; exact z3⟩

/-- the heap goes on, what is owned and data and the frame stand, data grow by what is not owned -/
theorem HR.on {O : Ob} (r : HR K B F ρ O H) (e : Ex B B') (eb : Ex B' H') (ef : Ex F H') (k : ∀ a o, B a = none → F a = none → H a = some o → (∃ n x fps, O[n]? = some (some x) ∧ HRo K B F ρ O H fps ∧ a ∈ fps n) → H' a = some o ∧ B' a = none) : HR K B' F ρ O H' := by
  obtain ⟨fps, q⟩ := r.ow
  refine ⟨eb, ef, r.len, fps, ?_⟩
  have st : ∀ n x, O[n]? = some (some x) → ∀ a ∈ fps n, ∀ o, H a = some o → H' a = some o ∧ B' a = none := fun n x en a ha o ho =>
    have z := q.fr n x en a ha
    k a o z.1 z.2.1 ho ⟨n, x, fps, en, q, ha⟩
  constructor
  · intro n x en
    obtain ⟨a, h1, h2⟩ := q.rd n x en
    exact ⟨a, h1, RWf.mono e (fun _ _ z => z) _ _ _ (fun b hb o ho => (st n x en b hb o ho).1) h2⟩
  · exact q.nd
  · exact q.dj
  · intro n x en a ha
    obtain ⟨z1, z2, o, z3⟩ := q.fr n x en a ha
    exact ⟨(st n x en a ha o z3).2, z2, o, (st n x en a ha o z3).1⟩
/-- a new object that will never change -/
theorem HR.frz {O : Ob} {p : Addr} {ho : HO} (r : HR K B F ρ O H) (hp : H p = none) : HR K (upd B p ho) F ρ O (upd H p ho) ∧ Gr F B (upd B p ho) := by
  have hB : B p = none := fresh_back r.exB hp
  have hF : F p = none := fresh_back r.exF hp
  have hne : ∀ (a : Addr) o, H a = some o → a ≠ p := fun a o h z => by rw [z, hp] at h; cases h
  refine ⟨r.on (Ex.new hB) (fun a o h => ?_) (r.exF.mut hF) (fun a o h1 h2 h3 _ => ⟨?_, ?_⟩), Ex.new hB, fun a o h => ?_⟩
  · by_cases z : a = p
    · subst z; rw [upd_same] at h ⊢; exact h
    · rw [upd_ne z] at h ⊢; exact r.exB a o h
  · rw [upd_ne (hne a o h3)]; exact h3
  · rw [upd_ne (hne a o h3)]; exact h1
  · by_cases z : a = p
    · exact .inr (.inl (z ▸ hF))
    · rw [upd_ne z] at h; exact .inl h
/-- a new object that is not named -/
theorem HR.junk {O : Ob} {p : Addr} {ho : HO} (r : HR K B F ρ O H) (hp : H p = none) : HR K B F ρ O (upd H p ho) := by
  have hB : B p = none := fresh_back r.exB hp
  have hF : F p = none := fresh_back r.exF hp
  exact r.on (Ex.refl B) (r.exB.mut hB) (r.exF.mut hF) (fun a o h1 h2 h3 _ => ⟨by rw [upd_ne (fun z => by rw [z, hp] at h3; cases h3)]; exact h3, h1⟩)
mutual
/-- what is owned is no tuple -/
theorem RWf.owned : ∀ (w : W) (v : V) (fp : List Addr), RWf K B ρ H w v fp → ∀ a ∈ fp, ∃ h vs ho, H a = some ho ∧ Hd.is h vs ho
  | .d x, v, fp, h => by simp only [RWf] at h; rw [h.2]; intro a ha; cases ha
  | .o n, v, fp, h => by simp only [RWf] at h; rw [h.2]; intro a ha; cases ha
  | .t ws, v, fp, h => by
    simp only [RWf] at h
    obtain ⟨a, vs, h1, h2, h3⟩ := h
    exact RWfs.owned ws vs fp h3
  | .n hd ws, v, fp, h => by
    simp only [RWf] at h
    obtain ⟨a, vs, ho, f, h1, h2, h3, h4, h5⟩ := h
    subst h2
    intro b hb
    rcases List.mem_cons.mp hb with z | z
    · subst z; exact ⟨hd, vs, ho, h3, h4⟩
    · exact RWfs.owned ws vs f h5 b z
  | .x, v, fp, h => by simp only [RWf] at h; rw [h]; intro a ha; cases ha
theorem RWfs.owned : ∀ (ws : List W) (vs : List V) (fp : List Addr), RWfs K B ρ H ws vs fp → ∀ a ∈ fp, ∃ h vs ho, H a = some ho ∧ Hd.is h vs ho
  | [], vs, fp, h => by simp only [RWfs] at h; rw [h.2]; intro a ha; cases ha
  | w :: ws, vs, fp, h => by
    simp only [RWfs] at h
    obtain ⟨v, r, f1, f2, h1, h2, h3, h4⟩ := h
    subst h2
    intro a ha
    rcases List.mem_append.mp ha with z | z
    · exact RWf.owned w v f1 h3 a z
    · exact RWfs.owned ws r f2 h4 a z
end
theorem Hd.is_ne {h : Hd} {vs us : List V} {ho : HO} (i : h.is vs ho) : ho ≠ .tup us := by
  cases h with
  | lst => rw [show ho = .lst vs from i]; intro z; cases z
  | dK ks => rw [i.2]; intro z; cases z
  | dT ks => rw [i.2]; intro z; cases z
  | ins C ns => obtain ⟨_, dx, e⟩ := i; rw [e]; intro z; cases z
theorem HRo.no_tup {O : Ob} {fps : Nat → List Addr} (q : HRo K B F ρ O H fps) {n : Nat} {x : OO} (e : O[n]? = some (some x)) {a : Addr} (ha : a ∈ fps n) {us : List V} : H a ≠ some (.tup us) := fun z => by
  obtain ⟨b, h1, h2⟩ := q.rd n x e
  obtain ⟨h, vs, ho, h3, h4⟩ := RWf.owned _ _ _ h2 a ha
  rw [z] at h3
  cases h3
  exact Hd.is_ne h4 rfl
/-- a tuple that stands is data -/
theorem HR.addT {O : Ob} {a : Addr} {us : List V} (r : HR K B F ρ O H) (h : H a = some (.tup us)) : HR K (upd B a (.tup us)) F ρ O H ∧ Gr F B (upd B a (.tup us)) := by
  have e : Ex B (upd B a (.tup us)) := fun b o hb => by
    by_cases z : b = a
    · subst z
      have := r.exB b o hb
      rw [h] at this
      rw [upd_same]; exact this
    · rw [upd_ne z]; exact hb
  refine ⟨?_, e, fun b o hb => ?_⟩
  · obtain ⟨fps, q⟩ := r.ow
    refine ⟨fun b o hb => ?_, r.exF, r.len, fps, ?_⟩
    · by_cases z : b = a
      · subst z; rw [upd_same] at hb; cases hb; exact h
      · rw [upd_ne z] at hb; exact r.exB b o hb
    · refine ⟨fun n x en => ?_, q.nd, q.dj, fun n x en b hb => ?_⟩
      · obtain ⟨b, h1, h2⟩ := q.rd n x en
        exact ⟨b, h1, RWf.mono e (fun _ _ z => z) _ _ _ (fun _ _ _ z => z) h2⟩
      · obtain ⟨z1, z2, z3⟩ := q.fr n x en b hb
        refine ⟨?_, z2, z3⟩
        rw [upd_ne fun z => q.no_tup en hb (z ▸ h)]
        exact z1
  · by_cases z : b = a
    · subst z; rw [upd_same] at hb; cases hb; exact .inr (.inr ⟨us, rfl⟩)
    · rw [upd_ne z] at hb; exact .inl hb
end
end Vf

/-! Vf1: readings by meaning, what an expression, a test, a statement is worth over owned objects; names, constants, operators, blocks. -/
namespace Vf
open PySem L2 Evl

/-! ### readings by meaning -/
section
variable (X : Cx)
def SE (e : Expr) : TE := fun σ H Q => ∀ pins s, Inv X pins σ H s → wpAny (model X.prog X.w) X.A (eval e X.env) (EP X pins σ Q) X.xe s
def ST (e : Expr) : TT := fun σ H Q => ∀ pins s, Inv X pins σ H s → wpAny (model X.prog X.w) X.A (isTrue e X.env (eval e X.env)) (TP X pins σ Q) X.xe s
def SW (e : Expr) : TT := fun σ H Q => ∀ whole pins s, Inv X pins σ H s → wpAny (model X.prog X.w) X.A (isTrue e X.env whole) (TP X pins σ Q) X.xe s
def SA (es : List Expr) : TA := fun σ H Q => ∀ pos pins s, Inv X pins σ H s → wpAny (model X.prog X.w) X.A (spliced (backTo pos (starEach es X.env))) (AP X pins σ Q) X.xe s
def SS (st : Stmt) : TS := fun D σ H => ∀ pins s, Inv X pins σ H s → wpAny (model X.prog X.w) X.A (exec st X.env) (SP X pins D) X.xe s
def SSs (st : List Stmt) : TS := fun D σ H => ∀ pins s, Inv X pins σ H s → wpAny (model X.prog X.w) X.A (execs st X.env) (SP X pins D) X.xe s
/-- a two-place operation, a one-place one, a call, a method, a subscript on values -/
def S2 (f : Value → Value → Sem Value) : R2 := fun x y H Q => ∀ pins s σ v u, Inv X pins σ H s → RelV x v → RelV y u → wpAny (model X.prog X.w) X.A (f v u) (EP X pins σ Q) X.xe s
def S1 (f : Value → Sem Value) : V → Hp → VK → Prop := fun x H Q => ∀ pins s σ v, Inv X pins σ H s → RelV x v → wpAny (model X.prog X.w) X.A (f v) (EP X pins σ Q) X.xe s
def SC (f : Value) : List V → Hp → VK → Prop := fun xs H Q => ∀ pins s σ us, Inv X pins σ H s → Vals xs us → wpAny (model X.prog X.w) X.A (call f us) (EP X pins σ Q) X.xe s
def SM (id : String) : V → List V → Hp → VK → Prop := fun x xs H Q => ∀ pins s σ v us, Inv X pins σ H s → RelV x v → Vals xs us → wpAny (model X.prog X.w) X.A (call (.builtin id) (v :: us)) (EP X pins σ Q) X.xe s
def SI : R2 := fun x y H Q => ∀ value slice pins s σ v u, Inv X pins σ H s → RelV x v → RelV y u → subscripted slice false v u = operate [v, u] (getItem v u) → wpAny (model X.prog X.w) X.A (PyProof.Rows.subscriptTail value slice v u) (EP X pins σ Q) X.xe s
def STr : V → Hp → (Bool → Hp → Prop) → Prop := fun x H Q => ∀ pins s σ v, Inv X pins σ H s → RelV x v → wpAny (model X.prog X.w) X.A (truthy v) (TP X pins σ Q) X.xe s
def SSet : TSet := fun o i v H Q => ∀ pins s σ ov iv u, Inv X pins σ H s → RelV o ov → RelV i iv → RelV v u → wpAny (model X.prog X.w) X.A (setItem ov iv u) (fun _ s' => ∃ H', Inv X pins σ H' s' ∧ Q H') X.xe s
end
section
variable {X : Cx} {e : Expr} {es : List Expr} {st : Stmt} {sts : List Stmt} {σ : L2.St} {H : Hp}
theorem pe_se : PE X e (SE X e) := ⟨fun pins s _ _ _ I h => h pins s I⟩
theorem pt_st : PT X e (ST X e) := ⟨fun pins s _ _ _ I h => h pins s I⟩
theorem pw_sw : PW X e (SW X e) := ⟨fun wh pins s _ _ _ I h => h wh pins s I⟩
theorem pa_sa : PA X es (SA X es) := ⟨fun pos pins s _ _ _ I h => h pos pins s I⟩
theorem ps_ss : PS X st (SS X st) := ⟨fun pins s _ _ _ I h => h pins s I⟩
theorem pss_sss : PSs X sts (SSs X sts) := ⟨fun pins s _ _ _ I h => h pins s I⟩
theorem op_s2 {f : Value → Value → Sem Value} : OpR X f (S2 X f) := fun pins s σ _ _ _ v u _ I r1 r2 h => h pins s σ v u I r1 r2
theorem un_s1 {f : Value → Sem Value} : UnR X f (S1 X f) := fun pins s σ _ _ v _ I r1 h => h pins s σ v I r1
theorem call_sc {f : Value} : CallR X f (SC X f) := fun pins s σ _ _ us _ I r h => h pins s σ us I r
theorem mt_sm {id : String} : MtR X id (SM X id) := fun pins s σ _ _ _ v us _ I r1 r2 h => h pins s σ v us I r1 r2
theorem ix_si : IxR X (SI X) := fun a b pins s σ _ _ _ v u _ I r1 r2 h hs => h a b pins s σ v u I r1 r2 hs
theorem tru_str : TruR X (STr X) := fun pins s σ _ _ v _ I r h => h pins s σ v I r
theorem set_sset : PSet X (SSet X) := fun pins s σ _ _ _ _ ov iv u _ I r1 r2 r3 h => h pins s σ ov iv u I r1 r2 r3
theorem SE.of {t : TE} {Q : VK} (h : PE X e t) (q : t σ H Q) : SE X e σ H Q := fun pins s I => h.run pins s σ H Q I q
theorem ST.of {t : TT} {Q : Bool → Hp → Prop} (h : PT X e t) (q : t σ H Q) : ST X e σ H Q := fun pins s I => h.run pins s σ H Q I q
theorem SW.of {t : TT} {Q : Bool → Hp → Prop} (h : PW X e t) (q : t σ H Q) : SW X e σ H Q := fun wh pins s I => h.run wh pins s σ H Q I q
theorem SA.of {t : TA} {Q : List V → Hp → Prop} (h : PA X es t) (q : t σ H Q) : SA X es σ H Q := fun pos pins s I => h.run pos pins s σ H Q I q
theorem SS.of {t : TS} {D : Ends} (h : PS X st t) (q : t D σ H) : SS X st D σ H := fun pins s I => h.run pins s σ H D I q
theorem SSs.of {t : TS} {D : Ends} (h : PSs X sts t) (q : t D σ H) : SSs X sts D σ H := fun pins s I => h.run pins s σ H D I q
theorem S2.of {f : Value → Value → Sem Value} {r : R2} {x y : V} {Q : VK} (h : OpR X f r) (q : r x y H Q) : S2 X f x y H Q := fun pins s σ v u I r1 r2 => h pins s σ H x y v u Q I r1 r2 q
theorem S1.of {f : Value → Sem Value} {r : V → Hp → VK → Prop} {x : V} {Q : VK} (h : UnR X f r) (q : r x H Q) : S1 X f x H Q := fun pins s σ v I r1 => h pins s σ H x v Q I r1 q
theorem SC.of {f : Value} {r : List V → Hp → VK → Prop} {xs : List V} {Q : VK} (h : CallR X f r) (q : r xs H Q) : SC X f xs H Q := fun pins s σ us I r1 => h pins s σ H xs us Q I r1 q
theorem SM.of {id : String} {r : V → List V → Hp → VK → Prop} {x : V} {xs : List V} {Q : VK} (h : MtR X id r) (q : r x xs H Q) : SM X id x xs H Q := fun pins s σ v us I r1 r2 => h pins s σ H x xs v us Q I r1 r2 q
theorem SI.of {r : R2} {x y : V} {Q : VK} (h : IxR X r) (q : r x y H Q) : SI X x y H Q := fun a b pins s σ v u I r1 r2 hs => h a b pins s σ H x y v u Q I r1 r2 q hs
theorem STr.of {r : V → Hp → (Bool → Hp → Prop) → Prop} {x : V} {Q : Bool → Hp → Prop} (h : TruR X r) (q : r x H Q) : STr X x H Q := fun pins s σ v I r1 => h pins s σ H x v Q I r1 q
theorem SSet.of {t : TSet} {o i v : V} {Q : Hp → Prop} (h : PSet X t) (q : t o i v H Q) : SSet X o i v H Q := fun pins s σ ov iv u I r1 r2 r3 => h pins s σ H o i v ov iv u Q I r1 r2 r3 q
theorem SE.mono {Q Q' : VK} (h : SE X e σ H Q) (k : ∀ v H', Q v H' → Q' v H') : SE X e σ H Q' := fun pins s I => thn (h pins s I) fun _ _ ⟨v, H', I', r, q⟩ => ⟨v, H', I', r, k v H' q⟩
theorem ST.mono {Q Q' : Bool → Hp → Prop} (h : ST X e σ H Q) (k : ∀ v H', Q v H' → Q' v H') : ST X e σ H Q' := fun pins s I => thn (h pins s I) fun b _ ⟨H', I', q⟩ => ⟨H', I', k b H' q⟩
theorem SW.mono {Q Q' : Bool → Hp → Prop} (h : SW X e σ H Q) (k : ∀ v H', Q v H' → Q' v H') : SW X e σ H Q' := fun wh pins s I => thn (h wh pins s I) fun b _ ⟨H', I', q⟩ => ⟨H', I', k b H' q⟩
theorem SA.mono {Q Q' : List V → Hp → Prop} (h : SA X es σ H Q) (k : ∀ v H', Q v H' → Q' v H') : SA X es σ H Q' := fun pos pins s I => thn (h pos pins s I) fun _ _ ⟨v, H', I', r, q⟩ => ⟨v, H', I', r, k v H' q⟩
structure Ends.Le (D D' : Ends) : Prop where
  nx : ∀ σ H, D.nx σ H → D'.nx σ H
  rt : ∀ v H, D.rt v H → D'.rt v H
  bk : ∀ σ H, D.bk σ H → D'.bk σ H
  ct : ∀ σ H, D.ct σ H → D'.ct σ H
theorem SP.mono {D D' : Ends} {pins : List (Addr × Obj)} {f : Flow} {s : Shared} (k : Ends.Le D D') (h : SP X pins D f s) : SP X pins D' f s := by
  cases f with
  | next => obtain ⟨σ', H', I, q⟩ := h; exact ⟨σ', H', I, k.nx _ _ q⟩
  | brk => obtain ⟨σ', H', I, q⟩ := h; exact ⟨σ', H', I, k.bk _ _ q⟩
  | cont => obtain ⟨σ', H', I, q⟩ := h; exact ⟨σ', H', I, k.ct _ _ q⟩
  | ret u => obtain ⟨v, σ', H', I, r, q⟩ := h; exact ⟨v, σ', H', I, r, k.rt _ _ q⟩
theorem SS.mono {D D' : Ends} (h : SS X st D σ H) (k : Ends.Le D D') : SS X st D' σ H := fun pins s I => thn (h pins s I) fun _ _ q => Vf.SP.mono k q
theorem SSs.mono {D D' : Ends} (h : SSs X sts D σ H) (k : Ends.Le D D') : SSs X sts D' σ H := fun pins s I => thn (h pins s I) fun _ _ q => Vf.SP.mono k q
end

/-! ### what is left behind -/
def Post (K : PySem.W.Frag) (F B : Hp) (ρ : List Addr) (Q : W → Ob → Prop) : VK := fun v H => ∃ B' ρ' w O', Gr F B B' ∧ ρ <+: ρ' ∧ HR K B' F ρ' O' H ∧ RW K B' ρ' B' w v ∧ Q w O'
def PostB (K : PySem.W.Frag) (F B : Hp) (ρ : List Addr) (Q : Bool → Ob → Prop) : Bool → Hp → Prop := fun b H => ∃ B' ρ' O', Gr F B B' ∧ ρ <+: ρ' ∧ HR K B' F ρ' O' H ∧ Q b O'
def PostA (K : PySem.W.Frag) (F B : Hp) (ρ : List Addr) (Q : List W → Ob → Prop) : List V → Hp → Prop := fun vs H => ∃ B' ρ' ws O', Gr F B B' ∧ ρ <+: ρ' ∧ HR K B' F ρ' O' H ∧ RWs K B' ρ' B' ws vs ∧ Q ws O'
section
variable {K : PySem.W.Frag} {F B B1 H : Hp} {ρ ρ1 : List Addr} {O : Ob}
theorem Post.here {Q : W → Ob → Prop} {w : W} {v : V} (r : HR K B F ρ O H) (rw : RW K B ρ B w v) (q : Q w O) : Post K F B ρ Q v H := ⟨B, ρ, w, O, Gr.refl, List.prefix_refl _, r, rw, q⟩
theorem PostB.here {Q : Bool → Ob → Prop} {b : Bool} (r : HR K B F ρ O H) (q : Q b O) : PostB K F B ρ Q b H := ⟨B, ρ, O, Gr.refl, List.prefix_refl _, r, q⟩
theorem Post.back {Q : W → Ob → Prop} {v : V} (g : Gr F B B1) (p : ρ <+: ρ1) (h : Post K F B1 ρ1 Q v H) : Post K F B ρ Q v H := let ⟨B', ρ', w, O', g', p', r⟩ := h; ⟨B', ρ', w, O', g.trans g', p.trans p', r⟩
theorem PostB.back {Q : Bool → Ob → Prop} {v : Bool} (g : Gr F B B1) (p : ρ <+: ρ1) (h : PostB K F B1 ρ1 Q v H) : PostB K F B ρ Q v H := let ⟨B', ρ', O', g', p', r⟩ := h; ⟨B', ρ', O', g.trans g', p.trans p', r⟩
theorem PostA.back {Q : List W → Ob → Prop} {v : List V} (g : Gr F B B1) (p : ρ <+: ρ1) (h : PostA K F B1 ρ1 Q v H) : PostA K F B ρ Q v H := let ⟨B', ρ', ws, O', g', p', r⟩ := h; ⟨B', ρ', ws, O', g.trans g', p.trans p', r⟩
/-- the value's reading does not lean on the heap -/
theorem RW.any {w : W} {v : V} {H H' : Hp} (h : RW K B ρ H w v) : RW K B ρ H' w v := RW.mono' (Ex.refl B) (List.prefix_refl _) h
theorem RWs.any {ws : List W} {vs : List V} {H H' : Hp} (h : RWs K B ρ H ws vs) : RWs K B ρ H' ws vs := RWs.mono' (Ex.refl B) (List.prefix_refl _) h
end

/-! ### the calculus -/
def WE (X : Cx) (e : Expr) (σ : List (Option W)) (O : Ob) (Q : W → Ob → Prop) : Prop :=
  ∀ F B ρ σc H, HR X.K B F ρ O H → RS X.K B ρ σ σc → SE X e σc H (Post X.K F B ρ Q)
def WT (X : Cx) (e : Expr) (σ : List (Option W)) (O : Ob) (Q : Bool → Ob → Prop) : Prop :=
  ∀ F B ρ σc H, HR X.K B F ρ O H → RS X.K B ρ σ σc → ST X e σc H (PostB X.K F B ρ Q)
def WW (X : Cx) (e : Expr) (σ : List (Option W)) (O : Ob) (Q : Bool → Ob → Prop) : Prop :=
  ∀ F B ρ σc H, HR X.K B F ρ O H → RS X.K B ρ σ σc → SW X e σc H (PostB X.K F B ρ Q)
def WA (X : Cx) (es : List Expr) (σ : List (Option W)) (O : Ob) (Q : List W → Ob → Prop) : Prop :=
  ∀ F B ρ σc H, HR X.K B F ρ O H → RS X.K B ρ σ σc → SA X es σc H (PostA X.K F B ρ Q)
/-- operations on values -/
def O2 (X : Cx) (f : Value → Value → Sem Value) (x y : W) (O : Ob) (Q : W → Ob → Prop) : Prop :=
  ∀ F B ρ a b H, HR X.K B F ρ O H → RW X.K B ρ B x a → RW X.K B ρ B y b → S2 X f a b H (Post X.K F B ρ Q)
def O1 (X : Cx) (f : Value → Sem Value) (x : W) (O : Ob) (Q : W → Ob → Prop) : Prop :=
  ∀ F B ρ a H, HR X.K B F ρ O H → RW X.K B ρ B x a → S1 X f a H (Post X.K F B ρ Q)
def OC (X : Cx) (f : Value) (xs : List W) (O : Ob) (Q : W → Ob → Prop) : Prop :=
  ∀ F B ρ as H, HR X.K B F ρ O H → RWs X.K B ρ B xs as → SC X f as H (Post X.K F B ρ Q)
def OI (X : Cx) (x y : W) (O : Ob) (Q : W → Ob → Prop) : Prop :=
  ∀ F B ρ a b H, HR X.K B F ρ O H → RW X.K B ρ B x a → RW X.K B ρ B y b → SI X a b H (Post X.K F B ρ Q)
def OTr (X : Cx) (x : W) (O : Ob) (Q : Bool → Ob → Prop) : Prop :=
  ∀ F B ρ a H, HR X.K B F ρ O H → RW X.K B ρ B x a → STr X a H (PostB X.K F B ρ Q)
/-- a built-in type's method: T its receiver's type -/
def OM (X : Cx) (T : String) (id : String) (x : W) (xs : List W) (O : Ob) (Q : W → Ob → Prop) : Prop :=
  ∀ F B ρ a as H, HR X.K B F ρ O H → RW X.K B ρ B x a → RWs X.K B ρ B xs as → SM X id a as H (Post X.K F B ρ Q)
def Ty (K : PySem.W.Frag) (T : String) (x : W) (O : Ob) : Prop := ∀ F B ρ a H, HR K B F ρ O H → RW K B ρ B x a → tyV K T a H
def OSet (X : Cx) (o i v : W) (O : Ob) (Q : Ob → Prop) : Prop :=
  ∀ F B ρ a b c H, HR X.K B F ρ O H → RW X.K B ρ B o a → RW X.K B ρ B i b → RW X.K B ρ B v c → SSet X a b c H (fun H' => ∃ B' O', Gr F B B' ∧ HR X.K B' F ρ O' H' ∧ Q O')

structure EW where
  nx : List (Option W) → Ob → Prop
  rt : W → Ob → Prop
  bk : List (Option W) → Ob → Prop := fun _ _ => False
  ct : List (Option W) → Ob → Prop := fun _ _ => False
/-- over the def's own names of the objects that are handed in (ρ0) and the data at its entry (B0) -/
def LS (K : PySem.W.Frag) (F B0 : Hp) (ρ0 : List Addr) (P : List (Option W) → Ob → Prop) : L2.St → Hp → Prop :=
  fun σc H => ∃ B ρ σ O, Gr F B0 B ∧ ρ0 <+: ρ ∧ HR K B F ρ O H ∧ RS K B ρ σ σc ∧ P σ O
def LV (K : PySem.W.Frag) (F B0 : Hp) (ρ0 : List Addr) (P : W → Ob → Prop) : VK :=
  fun v H => ∃ B ρ w O, Gr F B0 B ∧ ρ0 <+: ρ ∧ HR K B F ρ O H ∧ RW K B ρ B w v ∧ P w O
def EL (K : PySem.W.Frag) (F B0 : Hp) (ρ0 : List Addr) (E : EW) : Ends := ⟨LS K F B0 ρ0 E.nx, LV K F B0 ρ0 E.rt, LS K F B0 ρ0 E.bk, LS K F B0 ρ0 E.ct⟩
def WS (X : Cx) (n0 : Nat) (st : Stmt) (σ : List (Option W)) (O : Ob) (E : EW) : Prop :=
  ∀ F B0 ρ0 B ρ σc H, ρ0.length = n0 → Gr F B0 B → ρ0 <+: ρ → HR X.K B F ρ O H → RS X.K B ρ σ σc → SS X st (EL X.K F B0 ρ0 E) σc H
def WSs (X : Cx) (n0 : Nat) (st : List Stmt) (σ : List (Option W)) (O : Ob) (E : EW) : Prop :=
  ∀ F B0 ρ0 B ρ σc H, ρ0.length = n0 → Gr F B0 B → ρ0 <+: ρ → HR X.K B F ρ O H → RS X.K B ρ σ σc → SSs X st (EL X.K F B0 ρ0 E) σc H
structure EW.Le (E E' : EW) : Prop where
  nx : ∀ σ O, E.nx σ O → E'.nx σ O
  rt : ∀ w O, E.rt w O → E'.rt w O
  bk : ∀ σ O, E.bk σ O → E'.bk σ O
  ct : ∀ σ O, E.ct σ O → E'.ct σ O

section
variable {X : Cx} {σ : List (Option W)} {O : Ob} {Q : W → Ob → Prop} {pos p : Pos} {e a b : Expr} {es : List Expr}

theorem WE.mono {Q' : W → Ob → Prop} (h : WE X e σ O Q) (k : ∀ w O, Q w O → Q' w O) : WE X e σ O Q' := fun F B ρ σc H r s => (h F B ρ σc H r s).mono fun v H' ⟨B', ρ', w, O', g, p, r, rw, q⟩ => ⟨B', ρ', w, O', g, p, r, rw, k w O' q⟩
theorem WT.mono {Q Q' : Bool → Ob → Prop} (h : WT X e σ O Q) (k : ∀ w O, Q w O → Q' w O) : WT X e σ O Q' := fun F B ρ σc H r s => (h F B ρ σc H r s).mono fun v H' ⟨B', ρ', O', g, p, r, q⟩ => ⟨B', ρ', O', g, p, r, k v O' q⟩
/-- after a first expression -/
theorem WE.then {R : VK} {B : Hp} {ρ : List Addr} {F : Hp} {σc : L2.St} {H : Hp} (h : WE X e σ O Q) (r : HR X.K B F ρ O H) (s : RS X.K B ρ σ σc)
    (k : ∀ B1 ρ1 w O1 v H1, Gr F B B1 → ρ <+: ρ1 → HR X.K B1 F ρ1 O1 H1 → RS X.K B1 ρ1 σ σc → RW X.K B1 ρ1 B1 w v → Q w O1 → R v H1) : SE X e σc H R :=
  (h F B ρ σc H r s).mono fun v H' ⟨B', ρ', w, O', g, p, r, rw, q⟩ => k B' ρ' w O' v H' g p r (s.mono g.ex p) rw q
theorem WT.then {Q : Bool → Ob → Prop} {R : Bool → Hp → Prop} {B : Hp} {ρ : List Addr} {F : Hp} {σc : L2.St} {H : Hp} (h : WT X e σ O Q) (r : HR X.K B F ρ O H) (s : RS X.K B ρ σ σc)
    (k : ∀ B1 ρ1 b O1 H1, Gr F B B1 → ρ <+: ρ1 → HR X.K B1 F ρ1 O1 H1 → RS X.K B1 ρ1 σ σc → Q b O1 → R b H1) : ST X e σc H R :=
  (h F B ρ σc H r s).mono fun v H' ⟨B', ρ', O', g, p, r, q⟩ => k B' ρ' v O' H' g p r (s.mono g.ex p) q
theorem WA.then {Q : List W → Ob → Prop} {R : List V → Hp → Prop} {B : Hp} {ρ : List Addr} {F : Hp} {σc : L2.St} {H : Hp} (h : WA X es σ O Q) (r : HR X.K B F ρ O H) (s : RS X.K B ρ σ σc)
    (k : ∀ B1 ρ1 ws O1 vs H1, Gr F B B1 → ρ <+: ρ1 → HR X.K B1 F ρ1 O1 H1 → RS X.K B1 ρ1 σ σc → RWs X.K B1 ρ1 B1 ws vs → Q ws O1 → R vs H1) : SA X es σc H R :=
  (h F B ρ σc H r s).mono fun v H' ⟨B', ρ', w, O', g, p, r, rw, q⟩ => k B' ρ' w O' v H' g p r (s.mono g.ex p) rw q

/-! names, constants -/
theorem we_var (i : Nat) {x : Str} {w : W} (hs : σ[i]? = some (some w)) (q : Q w O) (hw : w ≠ .x := by first | exact (fun h => nomatch h) | assumption) (hN : X.N[i]? = some x := by rfl) (hv : Vis X.env.scope x := by first | exact Or.inl rfl | exact Or.inr (Or.inl rfl) | exact Or.inr (Or.inr rfl)) (hd : (x == ("__debug__" : Str)) = false := by decide)
    (hcd : (x == ("__classdict__" : Str)) = false := by decide) : WE X (.Name x pos) σ O Q := fun F B ρ σc H r s => by
  obtain ⟨v, h1, h2⟩ := s.get hs
  obtain ⟨u, rfl, h3⟩ := h2.asn hw
  exact SE.of (pe_var hN hv hd hcd) ⟨u, h1, Post.here r h3 q⟩
theorem rd_s {K : PySem.W.Frag} {B H : Hp} {ρ : List Addr} {v : V} : RW K B ρ H (.d (.s v)) v := by simp only [RWf, RD]; exact ⟨trivial, trivial⟩
theorem we_c {v : V} (h : PE X e (tC v)) (q : Q (.d (.s v)) O) : WE X e σ O Q := fun F B ρ σc H r s => SE.of h (Post.here r rd_s q)
theorem we_int {i j} (q : Q (.d (.s (.int i))) O) : WE X (.Constant (.int i) j pos) σ O Q := we_c pe_int q
theorem we_bl {i j} (q : Q (.d (.s (.bl i))) O) : WE X (.Constant (.bool i) j pos) σ O Q := we_c pe_bl q
theorem we_non {j} (q : Q (.d (.s .non)) O) : WE X (.Constant .none j pos) σ O Q := we_c pe_non q
theorem we_str {i j} (q : Q (.d (.s (.str i))) O) : WE X (.Constant (.str i) j pos) σ O Q := we_c pe_str q
theorem we_glob {x : Str} {v : V} {u : Value} (hm : X.mg x = some u) (hr : RelV v u) (q : Q (.d (.s v)) O) (hg : Gl X x := by rfl) (hd : (x == ("__debug__" : Str)) = false := by rfl) : WE X (.Name x pos) σ O Q := we_c (pe_glob hg hm hr hd) q

/-! operators -/
theorem we_op {op : Operator} (h : WE X a σ O fun x O1 => WE X b σ O1 fun y O2' => O2 X (binaryOp op) x y O2' Q) : WE X (.BinOp a op b pos) σ O Q := fun F B ρ σc H r s =>
  SE.of (pe_op op_s2 pe_se pe_se) (h.then r s fun B1 ρ1 w O1 v H1 g1 p1 r1 s1 rw1 h1 => h1.then r1 s1 fun B2 ρ2 w2 O2' v2 H2 g2 p2 r2 s2 rw2 h2 => by
    have := h2 F B2 ρ2 v v2 H2 r2 (RW.mono' g2.ex p2 rw1) rw2
    exact fun pins s σ v u I a b => thn (this pins s σ v u I a b) fun _ _ ⟨v, H', I', r, q⟩ => ⟨v, H', I', r, q.back (g1.trans g2) (p1.trans p2)⟩)
theorem we_cmp {op : CmpOp} (h : WE X a σ O fun x O1 => WE X b σ O1 fun y O2' => O2 X (compareOp op) x y O2' Q) (hm : behindInMarks op b = false := by first | rfl | exact nobehind _ (by decide) (by decide)) : WE X (.Compare a [op] [b] pos) σ O Q := fun F B ρ σc H r s =>
  SE.of (pe_cmpR op_s2 pe_se pe_se hm) (h.then r s fun B1 ρ1 w O1 v H1 g1 p1 r1 s1 rw1 h1 => h1.then r1 s1 fun B2 ρ2 w2 O2' v2 H2 g2 p2 r2 s2 rw2 h2 => by
    have := h2 F B2 ρ2 v v2 H2 r2 (RW.mono' g2.ex p2 rw1) rw2
    exact fun pins s σ v u I a b => thn (this pins s σ v u I a b) fun _ _ ⟨v, H', I', r, q⟩ => ⟨v, H', I', r, q.back (g1.trans g2) (p1.trans p2)⟩)
theorem we_un {op : UnaryOp} (h : WE X a σ O fun x O1 => Vf.O1 X (unaryOp op) x O1 Q) : WE X (.UnaryOp op a pos) σ O Q := fun F B ρ σc H r s =>
  SE.of (pe_un un_s1 pe_se) (h.then r s fun B1 ρ1 w O1 v H1 g1 p1 r1 s1 rw1 h1 => by
    have := h1 F B1 ρ1 v H1 r1 rw1
    exact fun pins s σ v I a => thn (this pins s σ v I a) fun _ _ ⟨v, H', I', r, q⟩ => ⟨v, H', I', r, q.back g1 p1⟩)
end
end Vf

/-! Vf2: argument lists, displays, subscripts, slices, tests, and, or, not, statements. -/
namespace Vf
open PySem L2 Evl

theorem thnE {X : Cx} {α : Sem Value} {pins : List (Addr × Obj)} {σ : L2.St} {Q Q' : VK} {s : Shared} (h : wpAny (model X.prog X.w) X.A α (EP X pins σ Q) X.xe s) (k : ∀ v H', Q v H' → Q' v H') : wpAny (model X.prog X.w) X.A α (EP X pins σ Q') X.xe s :=
  thn h fun _ _ ⟨v, H', I', r, q⟩ => ⟨v, H', I', r, k v H' q⟩
theorem S2.mono {X : Cx} {f : Value → Value → Sem Value} {x y : V} {H : Hp} {Q Q' : VK} (h : S2 X f x y H Q) (k : ∀ v H', Q v H' → Q' v H') : S2 X f x y H Q' := fun pins s σ v u I a b => thnE (h pins s σ v u I a b) k
theorem S1.mono {X : Cx} {f : Value → Sem Value} {x : V} {H : Hp} {Q Q' : VK} (h : S1 X f x H Q) (k : ∀ v H', Q v H' → Q' v H') : S1 X f x H Q' := fun pins s σ v I a => thnE (h pins s σ v I a) k
theorem SC.mono {X : Cx} {f : Value} {x : List V} {H : Hp} {Q Q' : VK} (h : SC X f x H Q) (k : ∀ v H', Q v H' → Q' v H') : SC X f x H Q' := fun pins s σ v I a => thnE (h pins s σ v I a) k
theorem SM.mono {X : Cx} {id : String} {a : V} {x : List V} {H : Hp} {Q Q' : VK} (h : SM X id a x H Q) (k : ∀ v H', Q v H' → Q' v H') : SM X id a x H Q' := fun pins s σ v us I r1 r2 => thnE (h pins s σ v us I r1 r2) k
theorem SI.mono {X : Cx} {x y : V} {H : Hp} {Q Q' : VK} (h : SI X x y H Q) (k : ∀ v H', Q v H' → Q' v H') : SI X x y H Q' := fun a b pins s σ v u I r1 r2 hs => thnE (h a b pins s σ v u I r1 r2 hs) k
theorem STr.mono {X : Cx} {x : V} {H : Hp} {Q Q' : Bool → Hp → Prop} (h : STr X x H Q) (k : ∀ v H', Q v H' → Q' v H') : STr X x H Q' := fun pins s σ v I r1 => thn (h pins s σ v I r1) fun b _ ⟨H', I', q⟩ => ⟨H', I', k b H' q⟩
theorem SSet.mono {X : Cx} {o i v : V} {H : Hp} {Q Q' : Hp → Prop} (h : SSet X o i v H Q) (k : ∀ H', Q H' → Q' H') : SSet X o i v H Q' := fun pins s σ a b c I r1 r2 r3 => thn (h pins s σ a b c I r1 r2 r3) fun _ _ ⟨H', I', q⟩ => ⟨H', I', k H' q⟩

theorem rws_nil {K : PySem.W.Frag} {B H : Hp} {ρ : List Addr} : RWs K B ρ H [] [] := by simp [RWfs]
theorem RWfs.length {K : PySem.W.Frag} {B H : Hp} {ρ : List Addr} : ∀ {ws : List W} {vs : List V} {fp : List Addr}, RWfs K B ρ H ws vs fp → vs.length = ws.length
  | [], vs, fp, h => by
    simp only [RWfs] at h
    rw [h.1]
    rfl
  | w :: ws, vs, fp, h => by
    simp only [RWfs] at h
    obtain ⟨v, r, f1, f2, h1, h2, h3, h4⟩ := h
    rw [h1, List.length_cons, List.length_cons, RWfs.length h4]
section
variable {X : Cx} {σ : List (Option W)} {O : Ob} {Q : W → Ob → Prop} {pos p : Pos} {e a b : Expr} {es : List Expr}

/-! argument lists -/
theorem wa_nil {Q : List W → Ob → Prop} (q : Q [] O) : WA X [] σ O Q := fun F B ρ σc H r s =>
  SA.of pa_nil ⟨B, ρ, [], O, Gr.refl, List.prefix_refl _, r, rws_nil, q⟩
theorem wa_cons {Q : List W → Ob → Prop} (h : WE X e σ O fun w O1 => WA X es σ O1 fun ws O2 => Q (w :: ws) O2) (hs : starEach (e :: es) X.env = (false, eval e X.env) :: starEach es X.env := by rfl) : WA X (e :: es) σ O Q := fun F B ρ σc H r s =>
  SA.of (pa_cons pe_se pa_sa hs) (h.then r s fun B1 ρ1 w O1 v H1 g1 p1 r1 s1 rw1 h1 => h1.then r1 s1 fun B2 ρ2 ws O2 vs H2 g2 p2 r2 s2 rw2 q =>
    ⟨B2, ρ2, w :: ws, O2, g1.trans g2, p1.trans p2, r2, by
      simp only [RWfs]
      exact ⟨v, vs, [], [], rfl, rfl, RW.mono' g2.ex p2 rw1, rw2⟩, q⟩)

/-! displays -/
inductive PureL : List W → List D → Prop where
  | nil : PureL [] []
  | cons {x ws xs} : PureL ws xs → PureL (.d x :: ws) (x :: xs)
theorem PureL.map : ∀ xs : List D, PureL (xs.map W.d) xs
  | [] => .nil
  | _ :: xs => .cons (PureL.map xs)
theorem PureL.eq {ws : List W} {xs : List D} (h : PureL ws xs) : ws = xs.map W.d := by
  induction h with
  | nil => rfl
  | cons _ ih => rw [ih]; rfl
theorem PureL.rds {K : PySem.W.Frag} {B H : Hp} {ρ : List Addr} {ws : List W} {xs : List D} (h : PureL ws xs) : ∀ {vs : List V} {fp : List Addr}, RWfs K B ρ H ws vs fp → RDs K B xs vs ∧ fp = [] := by
  induction h with
  | nil => intro vs fp h; simp only [RWfs, RDs] at h ⊢; exact h
  | cons _ ih =>
    intro vs fp h
    simp only [RWfs, RDs, RWf] at h ⊢
    obtain ⟨v, r, f1, f2, h1, h2, h3, h4⟩ := h
    obtain ⟨i1, i2⟩ := ih h4
    exact ⟨⟨v, r, h1, h3.1, i1⟩, by rw [h2, h3.2, i2]; rfl⟩
theorem rws_of_rds {K : PySem.W.Frag} {B H : Hp} {ρ : List Addr} : ∀ {xs : List D} {vs : List V}, RDs K B xs vs → RWs K B ρ H (xs.map W.d) vs
  | [], vs, h => by simp only [RDs] at h; subst h; simp [RWfs]
  | x :: xs, vs, h => by
    simp only [RDs] at h
    obtain ⟨v, r, h1, h2, h3⟩ := h
    subst h1
    simp only [List.map_cons, RWfs, RWf]
    exact ⟨v, r, [], [], rfl, rfl, ⟨h2, rfl⟩, rws_of_rds h3⟩
theorem we_tup {k : _} (h : WA X es σ O fun ws O' => ws.length ≤ 1000 ∧ ∃ xs, PureL ws xs ∧ Q (.d (.t xs)) O') : WE X (.Tuple es k pos) σ O Q := fun F B ρ σc H r s =>
  SE.of (pe_tup pa_sa) (h.then r s fun B1 ρ1 ws O1 vs H1 g1 p1 r1 s1 rw1 ⟨hl, xs, pl, q⟩ => by
    refine ⟨by rw [rw1.length]; exact Nat.le_trans hl (by decide), fun p hp => ?_⟩
    obtain ⟨r2, g2⟩ := r1.frz (ho := .tup vs) hp
    obtain ⟨rd, _⟩ := pl.rds rw1
    refine ⟨_, ρ1, .d (.t xs), O1, g1.trans g2, p1, r2, ?_, q⟩
    simp only [RWf, RD]
    exact ⟨⟨p, vs, rfl, upd_same, RDs.mono g2.ex _ _ rd⟩, trivial⟩)
/-- a tuple with owned things in it -/
theorem we_tupW {k : _} (h : WA X es σ O fun ws O' => ws.length ≤ 1000 ∧ Q (.t ws) O') : WE X (.Tuple es k pos) σ O Q := fun F B ρ σc H r s =>
  SE.of (pe_tup pa_sa) (h.then r s fun B1 ρ1 ws O1 vs H1 g1 p1 r1 s1 rw1 ⟨hl, q⟩ => by
    refine ⟨by rw [rw1.length]; exact Nat.le_trans hl (by decide), fun p hp => ?_⟩
    obtain ⟨r2, g2⟩ := r1.frz (ho := .tup vs) hp
    refine ⟨_, ρ1, .t ws, O1, g1.trans g2, p1, r2, ?_, q⟩
    simp only [RWf]
    exact ⟨p, vs, rfl, upd_same, RWs.mono' g2.ex (List.prefix_refl _) rw1⟩)
theorem len_get {α : Type} (l : List α) (x : α) : (l ++ [x])[l.length]? = some x := by rw [List.getElem?_append_right (Nat.le_refl _), Nat.sub_self]; rfl
theorem rw_new {K : PySem.W.Frag} {B H : Hp} {ρ : List Addr} {O : Ob} {p : Addr} (hl : ρ.length = O.length) : RW K B (ρ ++ [p]) H (.o O.length) (.ref p) := by
  simp only [RWf]
  exact ⟨⟨p, by rw [← hl]; exact len_get _ _, rfl⟩, trivial⟩
theorem we_lst (h : WA X es σ O fun ws O' => ws.length ≤ 1000 ∧ Q (.o O'.length) (O' ++ [some (.lst, ws)])) : WE X (.List es pos) σ O Q := fun F B ρ σc H r s =>
  SE.of (pe_lst pa_sa) (h.then r s fun B1 ρ1 ws O1 vs H1 g1 p1 r1 s1 rw1 ⟨hl, q⟩ => by
    refine ⟨by rw [rw1.length]; exact Nat.le_trans hl (by decide), fun p hp => ?_⟩
    exact ⟨B1, ρ1 ++ [p], .o O1.length, _, g1, p1.trans (List.prefix_append _ _), r1.new (h := .lst) hp rfl rw1.any, rw_new r1.len, q⟩)

/-! subscripts -/
theorem we_ix (h : WE X a σ O fun x O1 => WE X b σ O1 fun y O2' => OI X x y O2' Q) (hs : PlainIx b := by exact fun _ _ => rfl) : WE X (.Subscript a b pos) σ O Q := fun F B ρ σc H r s =>
  SE.of (pe_ix ix_si pe_se pe_se hs) (h.then r s fun B1 ρ1 w O1 v H1 g1 p1 r1 s1 rw1 h1 => h1.then r1 s1 fun B2 ρ2 w2 O2' v2 H2 g2 p2 r2 s2 rw2 h2 =>
    (h2 F B2 ρ2 v v2 H2 r2 (RW.mono' g2.ex p2 rw1) rw2).mono fun _ _ q => q.back (g1.trans g2) (p1.trans p2))

/-! calls of built-ins -/
theorem we_callB {x : Str} {id : String} (h : WA X (e :: es) σ O fun ws O' => OC X (.builtin id) ws O' Q) (hm : X.mg x = none) (hv : bootBuiltins x = some (.builtin id) := by decide +kernel) (hg : Gl X x := by rfl) (hn : x ≠ "__name__" := by decide) (hdb : (x == ("__debug__" : Str)) = false := by decide)
    (he : starEach (e :: es) X.env = (false, eval e X.env) :: starEach es X.env := by rfl) (hpl : (backTo pos (starEach es X.env)).any (·.1) = false := by rfl) : WE X (.Call (.Name x p) (e :: es) [] pos) σ O Q := fun F B ρ σc H r s =>
  SE.of (pe_callB call_sc hg hm hv pa_sa hn hdb he hpl) (h.then r s fun B1 ρ1 ws O1 vs H1 g1 p1 r1 s1 rw1 h1 => (h1 F B1 ρ1 vs H1 r1 rw1).mono fun _ _ q => q.back g1 p1)
theorem we_callTy {x : Str} {T : String} (h : WA X (e :: es) σ O fun ws O' => OC X (.type T) ws O' Q) (hm : X.mg x = none) (hv : bootBuiltins x = some (.type T) := by decide +kernel) (hg : Gl X x := by rfl) (hn : x ≠ "__name__" := by decide) (hdb : (x == ("__debug__" : Str)) = false := by decide)
    (he : starEach (e :: es) X.env = (false, eval e X.env) :: starEach es X.env := by rfl) (hpl : (backTo pos (starEach es X.env)).any (·.1) = false := by rfl) : WE X (.Call (.Name x p) (e :: es) [] pos) σ O Q := fun F B ρ σc H r s =>
  SE.of (pe_callTy call_sc hg hm hv pa_sa hn hdb he hpl) (h.then r s fun B1 ρ1 ws O1 vs H1 g1 p1 r1 s1 rw1 h1 => (h1 F B1 ρ1 vs H1 r1 rw1).mono fun _ _ q => q.back g1 p1)
/-- a method of a built-in type -/
theorem we_bm {T id : String} {name : Str} {apos cpos : Pos} (pa : PlainAttrs T) (slot : Slot T name id) (hty : typeOf (.builtin id) = pure (.type "method_descriptor"))
    (h : WE X a σ O fun x O1 => Ty X.K T x O1 ∧ WA X (e :: es) σ O1 fun ws O2 => OM X T id x ws O2 Q)
    (hbase : attributeBase a name X.env (eval a X.env) = eval a X.env := by rfl)
    (hfew : ((backTo cpos (starEach (e :: es) X.env)).all (fun x => !x.1) && (backToKw cpos (keywordEach [] X.env)).all (fun x => x.1.isSome)
      && decide ((e :: es).length + ([] : List Keyword).length + (if ([] : List Keyword).isEmpty then 0 else 1) < 30)) = true := by rfl)
    (hline : (apos.endLine == cpos.line) = true := by rfl) (hs : starEach (e :: es) X.env = (false, eval e X.env) :: starEach es X.env := by rfl) (hplain : (backTo cpos (starEach es X.env)).any (·.1) = false := by rfl) :
    WE X (.Call (.Attribute a name apos) (e :: es) [] cpos) σ O Q := fun F B ρ σc H r s =>
  SE.of (pe_bm pa slot hty mt_sm pe_se pa_sa hbase hfew hline hs hplain) (h.then r s fun B1 ρ1 w O1 v H1 g1 p1 r1 s1 rw1 ⟨ty, h1⟩ => ⟨ty F B1 ρ1 v H1 r1 rw1, h1.then r1 s1 fun B2 ρ2 ws O2 vs H2 g2 p2 r2 s2 rw2 h2 =>
    (h2 F B2 ρ2 v vs H2 r2 (RW.mono' g2.ex p2 rw1) rw2).mono fun _ _ q => q.back (g1.trans g2) (p1.trans p2)⟩)
theorem we_bm0 {T id : String} {name : Str} {apos cpos : Pos} (pa : PlainAttrs T) (slot : Slot T name id) (hty : typeOf (.builtin id) = pure (.type "method_descriptor"))
    (h : WE X a σ O fun x O1 => Ty X.K T x O1 ∧ OM X T id x [] O1 Q)
    (hbase : attributeBase a name X.env (eval a X.env) = eval a X.env := by rfl) (hline : (apos.endLine == cpos.line) = true := by rfl) : WE X (.Call (.Attribute a name apos) [] [] cpos) σ O Q := fun F B ρ σc H r s =>
  SE.of (pe_bm0 pa slot hty mt_sm pe_se hbase hline) (h.then r s fun B1 ρ1 w O1 v H1 g1 p1 r1 s1 rw1 ⟨ty, h1⟩ => ⟨ty F B1 ρ1 v H1 r1 rw1, (h1 F B1 ρ1 v [] H1 r1 rw1 rws_nil).mono fun _ _ q => q.back g1 p1⟩)

/-! tests -/
theorem wt_val {Q : Bool → Ob → Prop} (h : WE X e σ O fun w O' => ∃ b, w = .d (.s (.bl b)) ∧ Q b O') (he : ∀ whole, isTrue e X.env whole = (do let v ← whole; standAt e.pos; holding [v] (truthy v)) := by intro _; rfl) : WT X e σ O Q := fun F B ρ σc H r s =>
  ST.of (pt_val pe_se he) (h.then r s fun B1 ρ1 w O1 v H1 g1 p1 r1 s1 rw1 ⟨b, e, q⟩ => by
    subst e
    simp only [RWf, RD] at rw1
    exact ⟨b, rw1.1, B1, ρ1, O1, g1, p1, r1, q⟩)
theorem wt_cmp {op : CmpOp} {Q : Bool → Ob → Prop} (h : WE X a σ O fun x O1 => WE X b σ O1 fun y O2' => O2 X (compareOp op) x y O2' fun w O' => ∃ b, w = .d (.s (.bl b)) ∧ Q b O') (hm : behindInMarks op b = false := by first | rfl | exact nobehind _ (by decide) (by decide)) : WT X (.Compare a [op] [b] pos) σ O Q := fun F B ρ σc H r s =>
  ST.of (pt_cmpR op_s2 pe_se pe_se hm) (h.then r s fun B1 ρ1 w O1 v H1 g1 p1 r1 s1 rw1 h1 => h1.then r1 s1 fun B2 ρ2 w2 O2' v2 H2 g2 p2 r2 s2 rw2 h2 =>
    (h2 F B2 ρ2 v v2 H2 r2 (RW.mono' g2.ex p2 rw1) rw2).mono fun v' H' q => by
      obtain ⟨B3, ρ3, w3, O3, g3, p3, r3, rw3, b, e, q⟩ := q
      subst e
      simp only [RWf, RD] at rw3
      exact ⟨b, rw3.1, B3, ρ3, O3, (g1.trans g2).trans g3, (p1.trans p2).trans p3, r3, q⟩)
theorem ww_and1 {Q : Bool → Ob → Prop} (h : WT X a σ O Q) : WW X (.BoolOp .And [a] pos) σ O Q := fun F B ρ σc H r s => SW.of (pw_and1 pt_st) (h F B ρ σc H r s)
theorem ww_or1 {Q : Bool → Ob → Prop} (h : WT X a σ O Q) : WW X (.BoolOp .Or [a] pos) σ O Q := fun F B ρ σc H r s => SW.of (pw_or1 pt_st) (h F B ρ σc H r s)
theorem ww_and {rest : List Expr} {Q : Bool → Ob → Prop} (h : WT X a σ O fun c O1 => (c = true → WW X (.BoolOp .And (b :: rest) pos) σ O1 Q) ∧ (c = false → Q false O1)) : WW X (.BoolOp .And (a :: b :: rest) pos) σ O Q := fun F B ρ σc H r s =>
  SW.of (pw_and pt_st pw_sw) (h.then r s fun B1 ρ1 c O1 H1 g1 p1 r1 s1 h1 => by
    cases c with
    | true => exact iteT ((h1.1 rfl F B1 ρ1 σc H1 r1 s1).mono fun _ _ q => q.back g1 p1)
    | false => exact iteF ⟨B1, ρ1, O1, g1, p1, r1, h1.2 rfl⟩)
theorem ww_or {rest : List Expr} {Q : Bool → Ob → Prop} (h : WT X a σ O fun c O1 => (c = false → WW X (.BoolOp .Or (b :: rest) pos) σ O1 Q) ∧ (c = true → Q true O1)) : WW X (.BoolOp .Or (a :: b :: rest) pos) σ O Q := fun F B ρ σc H r s =>
  SW.of (pw_or pt_st pw_sw) (h.then r s fun B1 ρ1 c O1 H1 g1 p1 r1 s1 h1 => by
    cases c with
    | true => exact iteT ⟨B1, ρ1, O1, g1, p1, r1, h1.2 rfl⟩
    | false => exact iteF ((h1.1 rfl F B1 ρ1 σc H1 r1 s1).mono fun _ _ q => q.back g1 p1))
theorem wt_bool {op : PySem.BoolOp} {l : List Expr} {Q : Bool → Ob → Prop} (h : WW X (.BoolOp op l pos) σ O Q) : WT X (.BoolOp op l pos) σ O Q := fun F B ρ σc H r s => ST.of (PW.pt pw_sw) (h F B ρ σc H r s)
theorem wt_not {Q : Bool → Ob → Prop} (h : WT X a σ O fun c O1 => Q (!c) O1) : WT X (.UnaryOp .Not a pos) σ O Q := fun F B ρ σc H r s =>
  ST.of (pt_not pt_st) (h F B ρ σc H r s)
/-- and, or, not as values, of truths -/
theorem we_and1 {op : PySem.BoolOp} (h : WE X a σ O Q) : WE X (.BoolOp op [a] pos) σ O Q := fun F B ρ σc H r s => SE.of (pe_one pe_se) (h F B ρ σc H r s)
theorem we_and {rest : List Expr} (h : WE X a σ O fun w O1 => ∃ c, w = .d (.s (.bl c)) ∧ (c = true → WE X (.BoolOp .And (b :: rest) pos) σ O1 Q) ∧ (c = false → Q (.d (.s (.bl false))) O1)) : WE X (.BoolOp .And (a :: b :: rest) pos) σ O Q := fun F B ρ σc H r s =>
  SE.of (pe_and pe_se pe_se) (h.then r s fun B1 ρ1 w O1 v H1 g1 p1 r1 s1 rw1 ⟨c, e, h1⟩ => by
    subst e
    simp only [RWf, RD] at rw1
    refine ⟨c, rw1.1, ?_⟩
    cases c with
    | true => exact iteT ((h1.1 rfl F B1 ρ1 σc H1 r1 s1).mono fun _ _ q => q.back g1 p1)
    | false => exact iteF ⟨B1, ρ1, _, O1, g1, p1, r1, rd_s, h1.2 rfl⟩)
theorem we_or {rest : List Expr} (h : WE X a σ O fun w O1 => ∃ c, w = .d (.s (.bl c)) ∧ (c = false → WE X (.BoolOp .Or (b :: rest) pos) σ O1 Q) ∧ (c = true → Q (.d (.s (.bl true))) O1)) : WE X (.BoolOp .Or (a :: b :: rest) pos) σ O Q := fun F B ρ σc H r s =>
  SE.of (pe_or pe_se pe_se) (h.then r s fun B1 ρ1 w O1 v H1 g1 p1 r1 s1 rw1 ⟨c, e, h1⟩ => by
    subst e
    simp only [RWf, RD] at rw1
    refine ⟨c, rw1.1, ?_⟩
    cases c with
    | true => exact iteT ⟨B1, ρ1, _, O1, g1, p1, r1, rd_s, h1.2 rfl⟩
    | false => exact iteF ((h1.1 rfl F B1 ρ1 σc H1 r1 s1).mono fun _ _ q => q.back g1 p1))
theorem we_not (h : WE X a σ O fun w O1 => ∃ c, w = .d (.s (.bl c)) ∧ Q (.d (.s (.bl (!c)))) O1) : WE X (.UnaryOp .Not a pos) σ O Q := fun F B ρ σc H r s =>
  SE.of (pe_not pe_se) (h.then r s fun B1 ρ1 w O1 v H1 g1 p1 r1 s1 rw1 ⟨c, e, h1⟩ => by
    subst e
    simp only [RWf, RD] at rw1
    exact ⟨c, rw1.1, B1, ρ1, _, O1, g1, p1, r1, rd_s, h1⟩)
theorem we_ifExp {c : Expr} (h : WT X c σ O fun k O1 => (k = true → WE X a σ O1 Q) ∧ (k = false → WE X b σ O1 Q)) : WE X (.IfExp c a b pos) σ O Q := fun F B ρ σc H r s =>
  SE.of (pe_ifExp pt_st pe_se pe_se) (h.then r s fun B1 ρ1 c O1 H1 g1 p1 r1 s1 h1 => by
    cases c with
    | true => exact iteT ((h1.1 rfl F B1 ρ1 σc H1 r1 s1).mono fun _ _ q => q.back g1 p1)
    | false => exact iteF ((h1.2 rfl F B1 ρ1 σc H1 r1 s1).mono fun _ _ q => q.back g1 p1))
/-- a chain of two comparisons -/
theorem we_chain {op op' : CmpOp} {c : Expr} (h : WE X a σ O fun x O1 => WE X b σ O1 fun y O2' => O2 X (compareOp op) x y O2' fun w O3 => ∃ k, w = .d (.s (.bl k)) ∧ (k = true → WE X c σ O3 fun z O4 => O2 X (compareOp op') y z O4 Q) ∧ (k = false → Q (.d (.s (.bl false))) O3))
    (hm : lastMarks [op, op'] [b, c] = false := by with_unfolding_all rfl) : WE X (.Compare a [op, op'] [b, c] pos) σ O Q := fun F B ρ σc H r s =>
  SE.of (pe_chain op_s2 op_s2 pe_se pe_se pe_se hm) (h.then r s fun B1 ρ1 w O1 v H1 g1 p1 r1 s1 rw1 h1 => h1.then r1 s1 fun B2 ρ2 w2 O2' v2 H2 g2 p2 r2 s2 rw2 h2 =>
    (h2 F B2 ρ2 v v2 H2 r2 (RW.mono' g2.ex p2 rw1) rw2).mono fun v' H' q => by
      obtain ⟨B3, ρ3, w3, O3, g3, p3, r3, rw3, k, e, h3⟩ := q
      subst e
      simp only [RWf, RD] at rw3
      refine ⟨k, rw3.1, ?_⟩
      have g := (g1.trans g2).trans g3
      have p := (p1.trans p2).trans p3
      cases k with
      | true =>
        refine iteT ((h3.1 rfl).then r3 (s2.mono g3.ex p3) fun B4 ρ4 w4 O4 v4 H4 g4 p4 r4 s4 rw4 h4 => ?_)
        exact (h4 F B4 ρ4 v2 v4 H4 r4 (RW.mono' (g3.trans g4).ex (p3.trans p4) rw2) rw4).mono fun _ _ q => q.back (g.trans g4) (p.trans p4)
      | false => exact iteF ⟨B3, ρ3, _, O3, g, p, r3, rd_s, h3.2 rfl⟩)
theorem wt_chain {Q : Bool → Ob → Prop} {op op' : CmpOp} {c : Expr} (h : WE X a σ O fun x O1 => WE X b σ O1 fun y O2' => O2 X (compareOp op) x y O2' fun w O3 => ∃ k, w = .d (.s (.bl k)) ∧ (k = true → WE X c σ O3 fun z O4 => O2 X (compareOp op') y z O4 fun w O5 => ∃ k, w = .d (.s (.bl k)) ∧ Q k O5) ∧ (k = false → Q false O3))
    (hm : lastMarks [op, op'] [b, c] = false := by with_unfolding_all rfl) : WT X (.Compare a [op, op'] [b, c] pos) σ O Q := fun F B ρ σc H r s =>
  ST.of (pt_chain op_s2 op_s2 pe_se pe_se pe_se hm) (h.then r s fun B1 ρ1 w O1 v H1 g1 p1 r1 s1 rw1 h1 => h1.then r1 s1 fun B2 ρ2 w2 O2' v2 H2 g2 p2 r2 s2 rw2 h2 =>
    (h2 F B2 ρ2 v v2 H2 r2 (RW.mono' g2.ex p2 rw1) rw2).mono fun v' H' q => by
      obtain ⟨B3, ρ3, w3, O3, g3, p3, r3, rw3, k, e, h3⟩ := q
      subst e
      simp only [RWf, RD] at rw3
      refine ⟨k, rw3.1, ?_⟩
      have g := (g1.trans g2).trans g3
      have p := (p1.trans p2).trans p3
      cases k with
      | true =>
        refine iteT ((h3.1 rfl).then r3 (s2.mono g3.ex p3) fun B4 ρ4 w4 O4 v4 H4 g4 p4 r4 s4 rw4 h4 => ?_)
        refine (h4 F B4 ρ4 v2 v4 H4 r4 (RW.mono' (g3.trans g4).ex (p3.trans p4) rw2) rw4).mono fun _ _ q => ?_
        obtain ⟨B5, ρ5, w5, O5, g5, p5, r5, rw5, k5, e5, h5⟩ := q
        subst e5
        simp only [RWf, RD] at rw5
        exact ⟨k5, rw5.1, B5, ρ5, O5, (g.trans g4).trans g5, (p.trans p4).trans p5, r5, h5⟩
      | false => exact iteF ⟨false, rfl, B3, ρ3, O3, g, p, r3, h3.2 rfl⟩)
/-- by truth -/
theorem wt_tru {Q : Bool → Ob → Prop} (h : WE X e σ O fun w O1 => OTr X w O1 Q) (he : ∀ whole, isTrue e X.env whole = (do let v ← whole; standAt e.pos; holding [v] (truthy v)) := by intro _; rfl) : WT X e σ O Q := fun F B ρ σc H r s =>
  fun pins s' I => PyProof.Rows.isTrue_plain (thn (h.then r s (R := fun v H' => ∃ B1 ρ1 w O1, Gr F B B1 ∧ ρ <+: ρ1 ∧ HR X.K B1 F ρ1 O1 H' ∧ RW X.K B1 ρ1 B1 w v ∧ OTr X w O1 Q) (fun B1 ρ1 w O1 v H1 g1 p1 r1 s1 rw1 h1 => ⟨B1, ρ1, w, O1, g1, p1, r1, rw1, h1⟩) pins s' I) fun v s1 ⟨x, H1, I1, rx, B1, ρ1, w, O1, g1, p1, r1, rw1, h1⟩ =>
    thn (h1 F B1 ρ1 x H1 r1 rw1 pins s1 _ v I1 rx) fun b s2 ⟨H', I', q⟩ => ⟨H', I', q.back g1 p1⟩) (he _)
end
end Vf

/-! Vf3: forgetting; statements; loops. -/
namespace Vf
open PySem L2 Evl

/-! ### what names only objects below m -/
mutual
def W.bel (m : Nat) : W → Bool
  | .d _ => true
  | .o k => decide (k < m)
  | .t ws => W.bels m ws
  | .n _ ws => W.bels m ws
  | .x => true
def W.bels (m : Nat) : List W → Bool
  | [] => true
  | w :: ws => W.bel m w && W.bels m ws
end
theorem belows_d (m : Nat) : ∀ xs : List D, W.bels m (xs.map W.d) = true
  | [] => rfl
  | x :: xs => by simp only [List.map_cons, W.bels, W.bel, belows_d m xs, Bool.and_self]
theorem take_get {α : Type} {l : List α} {m n : Nat} {a : α} (e : l[n]? = some a) (h : n < m) : (l.take m)[n]? = some a := by rw [List.getElem?_take_of_lt h]; exact e
section
variable {K : PySem.W.Frag} {B F H : Hp} {ρ : List Addr} {m : Nat}
mutual
theorem RWf.below : ∀ (w : W) (v : V) (fp : List Addr), w.bel m = true → RWf K B ρ H w v fp → RWf K B (ρ.take m) H w v fp
  | .d x, v, fp, hb, h => by simp only [RWf] at h ⊢; exact h
  | .o n, v, fp, hb, h => by
    simp only [RWf, W.bel, decide_eq_true_eq] at h hb ⊢
    obtain ⟨⟨a, h1, h2⟩, h3⟩ := h
    exact ⟨⟨a, take_get h1 hb, h2⟩, h3⟩
  | .t ws, v, fp, hb, h => by
    simp only [RWf, W.bel] at h hb ⊢
    obtain ⟨a, vs, h1, h2, h3⟩ := h
    exact ⟨a, vs, h1, h2, RWfs.below ws vs fp hb h3⟩
  | .n hd ws, v, fp, hb, h => by
    simp only [RWf, W.bel] at h hb ⊢
    obtain ⟨a, vs, ho, f, h1, h2, h3, h4, h5⟩ := h
    exact ⟨a, vs, ho, f, h1, h2, h3, h4, RWfs.below ws vs f hb h5⟩
  | .x, v, fp, hb, h => by simp only [RWf] at h ⊢; exact h
theorem RWfs.below : ∀ (ws : List W) (vs : List V) (fp : List Addr), W.bels m ws = true → RWfs K B ρ H ws vs fp → RWfs K B (ρ.take m) H ws vs fp
  | [], vs, fp, hb, h => by simp only [RWfs] at h ⊢; exact h
  | w :: ws, vs, fp, hb, h => by
    simp only [RWfs, W.bels, Bool.and_eq_true] at h hb ⊢
    obtain ⟨v, r, f1, f2, h1, h2, h3, h4⟩ := h
    exact ⟨v, r, f1, f2, h1, h2, RWf.below w v f1 hb.1 h3, RWfs.below ws r f2 hb.2 h4⟩
end
/-- objects forgotten; the last ones left out -/
inductive WkL (m : Nat) : Ob → Ob → Prop where
  | nil {O} : WkL m O []
  | drop {x O O'} : WkL m O O' → WkL m (x :: O) (none :: O')
  | same {x O O'} : (∀ y, x = some y → W.bels m y.2 = true) → WkL m O O' → WkL m (x :: O) (x :: O')
theorem WkL.get {O O' : Ob} (h : WkL m O O') : ∀ {n : Nat} {x : OO}, O'[n]? = some (some x) → O[n]? = some (some x) ∧ W.bels m x.2 = true := by
  induction h with
  | nil => intro n x e; simp at e
  | drop _ ih =>
    intro n x e
    cases n with
    | zero => simp at e
    | succ n => simpa using ih (n := n) (by simpa using e)
  | same hb _ ih =>
    intro n x e
    cases n with
    | zero =>
      simp at e
      subst e
      exact ⟨rfl, hb x rfl⟩
    | succ n => simpa using ih (n := n) (by simpa using e)
theorem WkL.le {O O' : Ob} (h : WkL m O O') : O'.length ≤ O.length := by
  induction h with
  | nil => exact Nat.zero_le _
  | drop _ ih => simpa using ih
  | same _ _ ih => simpa using ih
inductive WkS (m : Nat) : List (Option W) → List (Option W) → Prop where
  | nil : WkS m [] []
  | junk {a σ σ'} : WkS m σ σ' → WkS m (a :: σ) (some .x :: σ')
  | same {a σ σ'} : (∀ w, a = some w → w.bel m = true) → WkS m σ σ' → WkS m (a :: σ) (a :: σ')
theorem WkS.rs {σ σ' : List (Option W)} (h : WkS m σ σ') : ∀ {σc : L2.St}, RS K B ρ σ σc → RS K B (ρ.take m) σ' σc := by
  induction h with
  | nil => intro σc r; exact r
  | junk _ ih =>
    intro σc r
    obtain ⟨v, r', e, h1, h2⟩ := r
    exact ⟨v, r', e, True.intro, ih h2⟩
  | @same a _ _ hb _ ih =>
    intro σc r
    obtain ⟨v, r', e, h1, h2⟩ := r
    refine ⟨v, r', e, ?_, ih h2⟩
    cases a with
    | none => exact h1
    | some w =>
      cases w with
      | x => exact True.intro
      | d x => obtain ⟨u, e1, e2⟩ := h1; exact ⟨u, e1, RWf.below _ _ _ (hb _ rfl) e2⟩
      | o x => obtain ⟨u, e1, e2⟩ := h1; exact ⟨u, e1, RWf.below _ _ _ (hb _ rfl) e2⟩
      | t x => obtain ⟨u, e1, e2⟩ := h1; exact ⟨u, e1, RWf.below _ _ _ (hb _ rfl) e2⟩
      | n x y => obtain ⟨u, e1, e2⟩ := h1; exact ⟨u, e1, RWf.below _ _ _ (hb _ rfl) e2⟩
theorem HR.wk {O O' : Ob} (r : HR K B F ρ O H) (h : WkL O'.length O O') : HR K B F (ρ.take O'.length) O' H := by
  obtain ⟨fps, q⟩ := r.ow
  refine ⟨r.exB, r.exF, by rw [List.length_take, r.len]; exact Nat.min_eq_left h.le, fps, ?_⟩
  constructor
  · intro n x e
    obtain ⟨e1, e2⟩ := h.get e
    obtain ⟨a, h1, h2⟩ := q.rd n x e1
    exact ⟨a, take_get h1 (List.getElem?_eq_some_iff.mp e).1, RWf.below (.n x.1 x.2) _ _ (by simp only [W.bel]; exact e2) h2⟩
  · exact fun n x e => q.nd n x (h.get e).1
  · exact fun n k x y hk e e' => q.dj n k x y hk (h.get e).1 (h.get e').1
  · exact fun n x e => q.fr n x (h.get e).1
end
theorem pre_take {α : Type} {l l' : List α} {m : Nat} (h : l <+: l') (hm : l.length ≤ m) : l <+: l'.take m := by
  rw [List.prefix_iff_eq_take] at h ⊢
  rw [List.take_take, Nat.min_eq_left hm]
  exact h
/-- some weaker state is as told -/
def Dn (n0 : Nat) (P : List (Option W) → Ob → Prop) : List (Option W) → Ob → Prop := fun σ O => ∃ σ' O', n0 ≤ O'.length ∧ WkL O'.length O O' ∧ WkS O'.length σ σ' ∧ P σ' O'
def DnO (n0 : Nat) (P : Ob → Prop) : Ob → Prop := fun O => ∃ O', n0 ≤ O'.length ∧ WkL O'.length O O' ∧ P O'
def DnV (n0 : Nat) (P : W → Ob → Prop) : W → Ob → Prop := fun w O => ∃ O', n0 ≤ O'.length ∧ WkL O'.length O O' ∧ w.bel O'.length = true ∧ P w O'
section
variable {K : PySem.W.Frag} {B0 F : Hp} {ρ0 : List Addr}
theorem LS.mono {P Q : List (Option W) → Ob → Prop} (k : ∀ σ O, P σ O → Q σ O) {σc : L2.St} {H : Hp} (h : LS K F B0 ρ0 P σc H) : LS K F B0 ρ0 Q σc H := let ⟨B, ρ, σ, O, h1, h2, h3, h4, h5⟩ := h; ⟨B, ρ, σ, O, h1, h2, h3, h4, k _ _ h5⟩
theorem LV.mono {P Q : W → Ob → Prop} (k : ∀ σ O, P σ O → Q σ O) {v : V} {H : Hp} (h : LV K F B0 ρ0 P v H) : LV K F B0 ρ0 Q v H := let ⟨B, ρ, w, O, h1, h2, h3, h4, h5⟩ := h; ⟨B, ρ, w, O, h1, h2, h3, h4, k _ _ h5⟩
theorem LS.dn {P : List (Option W) → Ob → Prop} {σc : L2.St} {H : Hp} (h : LS K F B0 ρ0 (Dn ρ0.length P) σc H) : LS K F B0 ρ0 P σc H := by
  obtain ⟨B, ρ, σ, O, h1, h2, h3, h4, σ', O', q1, q2, q3, q4⟩ := h
  exact ⟨B, ρ.take O'.length, σ', O', h1, pre_take h2 q1, h3.wk q2, q3.rs h4, q4⟩
theorem LV.dn {P : W → Ob → Prop} {v : V} {H : Hp} (h : LV K F B0 ρ0 (DnV ρ0.length P) v H) : LV K F B0 ρ0 P v H := by
  obtain ⟨B, ρ, w, O, h1, h2, h3, h4, O', q1, q2, q3, q4⟩ := h
  exact ⟨B, ρ.take O'.length, w, O', h1, pre_take h2 q1, h3.wk q2, RWf.below _ _ _ q3 h4, q4⟩
theorem EL.le {E E' : EW} (k : EW.Le E E') : Ends.Le (EL K F B0 ρ0 E) (EL K F B0 ρ0 E') := ⟨fun _ _ => LS.mono k.nx, fun _ _ => LV.mono k.rt, fun _ _ => LS.mono k.bk, fun _ _ => LS.mono k.ct⟩
/-- a longer base -/
theorem LS.back {P : List (Option W) → Ob → Prop} {B1 : Hp} {ρ1 : List Addr} (g : Gr F B0 B1) (p : ρ0 <+: ρ1) {σc : L2.St} {H : Hp} (h : LS K F B1 ρ1 P σc H) : LS K F B0 ρ0 P σc H := let ⟨B, ρ, σ, O, h1, h2, h3, h4, h5⟩ := h; ⟨B, ρ, σ, O, g.trans h1, p.trans h2, h3, h4, h5⟩
theorem LV.back {P : W → Ob → Prop} {B1 : Hp} {ρ1 : List Addr} (g : Gr F B0 B1) (p : ρ0 <+: ρ1) {v : V} {H : Hp} (h : LV K F B1 ρ1 P v H) : LV K F B0 ρ0 P v H := let ⟨B, ρ, w, O, h1, h2, h3, h4, h5⟩ := h; ⟨B, ρ, w, O, g.trans h1, p.trans h2, h3, h4, h5⟩
end

section
variable {X : Cx} {σ : List (Option W)} {O : Ob} {E : EW} {n0 : Nat} {pos p : Pos} {e a b : Expr} {es : List Expr} {st : Stmt} {rest body : List Stmt}
theorem WS.mono {E' : EW} (h : WS X n0 st σ O E) (k : EW.Le E E') : WS X n0 st σ O E' := fun F B0 ρ0 B ρ σc H h1 h2 h3 h4 h5 => (h F B0 ρ0 B ρ σc H h1 h2 h3 h4 h5).mono (EL.le k)
theorem WSs.mono {E' : EW} (h : WSs X n0 rest σ O E) (k : EW.Le E E') : WSs X n0 rest σ O E' := fun F B0 ρ0 B ρ σc H h1 h2 h3 h4 h5 => (h F B0 ρ0 B ρ σc H h1 h2 h3 h4 h5).mono (EL.le k)
/-- forget first -/
theorem wk {σ' : List (Option W)} {O' : Ob} (h : WSs X n0 rest σ' O' E) (h1 : n0 ≤ O'.length) (h2 : WkL O'.length O O') (h3 : WkS O'.length σ σ') : WSs X n0 rest σ O E := fun F B0 ρ0 B ρ σc H e1 e2 e3 e4 e5 =>
  h F B0 ρ0 B (ρ.take O'.length) σc H e1 e2 (pre_take e3 (e1 ▸ h1)) (e4.wk h2) (h3.rs e5)
theorem wss_nil (q : E.nx σ O) : WSs X n0 [] σ O E := fun F B0 ρ0 B ρ σc H h1 h2 h3 h4 h5 => SSs.of pss_nil ⟨B, ρ, σ, O, h2, h3, h4, h5, q⟩
theorem wss (h : WS X n0 st σ O { E with nx := fun σ' O' => WSs X n0 rest σ' O' E }) : WSs X n0 (st :: rest) σ O E := fun F B0 ρ0 B ρ σc H h1 h2 h3 h4 h5 =>
  SSs.of (pss_cons ps_ss pss_sss) ((h F B0 ρ0 B ρ σc H h1 h2 h3 h4 h5).mono ⟨fun σc' H' ⟨B', ρ', σ', O', q1, q2, q3, q4, q5⟩ => q5 F B0 ρ0 B' ρ' σc' H' h1 q1 q2 q3 q4, fun _ _ q => q, fun _ _ q => q, fun _ _ q => q⟩)
theorem wss1 (h : WS X n0 st σ O E) : WSs X n0 [st] σ O E := fun F B0 ρ0 B ρ σc H h1 h2 h3 h4 h5 => SSs.of (pss_one ps_ss) (h F B0 ρ0 B ρ σc H h1 h2 h3 h4 h5)
theorem ws_expr (h : WE X e σ O fun _ O' => E.nx σ O') (hs : swapsWith e none pos.line X.env = pure false := by rfl) : WS X n0 (.Expr e pos) σ O E := fun F B0 ρ0 B ρ σc H h1 h2 h3 h4 h5 =>
  SS.of (ps_expr pe_se hs) (h.then h4 h5 fun B1 ρ1 w O1 v H1 g1 p1 r1 s1 rw1 q => ⟨B1, ρ1, σ, O1, h2.trans g1, h3.trans p1, r1, s1, q⟩)
theorem ws_ret (h : WE X e σ O E.rt) : WS X n0 (.Return (some e) pos) σ O E := fun F B0 ρ0 B ρ σc H h1 h2 h3 h4 h5 =>
  SS.of (ps_ret pe_se) (h.then h4 h5 fun B1 ρ1 w O1 v H1 g1 p1 r1 s1 rw1 q => ⟨B1, ρ1, w, O1, h2.trans g1, h3.trans p1, r1, rw1, q⟩)
theorem ws_retN (q : E.rt (.d (.s .non)) O) : WS X n0 (.Return none pos) σ O E := fun F B0 ρ0 B ρ σc H h1 h2 h3 h4 h5 =>
  SS.of ps_retN ⟨B, ρ, _, O, h2, h3, h4, rd_s, q⟩
theorem ws_pass (q : E.nx σ O) : WS X n0 (.Pass pos) σ O E := fun F B0 ρ0 B ρ σc H h1 h2 h3 h4 h5 => SS.of ps_pass ⟨B, ρ, σ, O, h2, h3, h4, h5, q⟩
theorem ws_break (q : E.bk σ O) : WS X n0 (.Break pos) σ O E := fun F B0 ρ0 B ρ σc H h1 h2 h3 h4 h5 => SS.of ps_break ⟨B, ρ, σ, O, h2, h3, h4, h5, q⟩
theorem ws_cont (q : E.ct σ O) : WS X n0 (.Continue pos) σ O E := fun F B0 ρ0 B ρ σc H h1 h2 h3 h4 h5 => SS.of ps_continue ⟨B, ρ, σ, O, h2, h3, h4, h5, q⟩
theorem ws_if {c : Expr} {A B' : List Stmt} (h : WT X c σ O fun k O' => (k = true → WSs X n0 A σ O' E) ∧ (k = false → WSs X n0 B' σ O' E)) : WS X n0 (.If c A B' pos) σ O E := fun F B0 ρ0 B ρ σc H h1 h2 h3 h4 h5 =>
  SS.of (ps_if pt_st pss_sss pss_sss) (h.then h4 h5 fun B1 ρ1 k O1 H1 g1 p1 r1 s1 q => by
    cases k with
    | true => exact iteT (q.1 rfl F B0 ρ0 B1 ρ1 σc H1 h1 (h2.trans g1) (h3.trans p1) r1 s1)
    | false => exact iteF (q.2 rfl F B0 ρ0 B1 ρ1 σc H1 h1 (h2.trans g1) (h3.trans p1) r1 s1))
/-- name = e -/
theorem ws_set (i : Nat) {x : Str} {pos' : Pos} (h : WE X e σ O fun w O' => E.nx (σ.set i (some w)) O') (nd : X.N.Nodup) (hi : X.N[i]? = some x := by rfl) (hx : Loc X.env.scope x := by first | exact Or.inl rfl | exact Or.inr rfl)
    (hs : swapsWith e (some (.Name x pos')) pos.line X.env = pure false := by rfl) (hf : X.fn x = true ∨ X.env.scope.names.lookup x = some .local := by first | exact .inl rfl | exact .inr rfl) : WS X n0 (.Assign [.Name x pos'] e pos) σ O E := fun F B0 ρ0 B ρ σc H h1 h2 h3 h4 h5 =>
  SS.of (ps_set nd hi hx pe_se hs hf) (h.then h4 h5 fun B1 ρ1 w O1 v H1 g1 p1 r1 s1 rw1 q => ⟨B1, ρ1, _, O1, h2.trans g1, h3.trans p1, r1, s1.set (RS1.of rw1), q⟩)

/-! targets -/
def SG (X : Cx) (tg : Expr) : TG := fun v σ H Q => ∀ pins s u, Inv X pins σ H s → RelV v u → wpAny (model X.prog X.w) X.A (assign tg X.env u) (fun _ s' => ∃ σ' H', Inv X pins σ' H' s' ∧ Q σ' H') X.xe s
def SGs (X : Cx) (ts : List Expr) : TGs := fun vs σ H Q => ∀ pins s us, Inv X pins σ H s → Vals vs us → wpAny (model X.prog X.w) X.A (assignInOrder ((assignEach ts X.env).map (·.2)) us) (fun _ s' => ∃ σ' H', Inv X pins σ' H' s' ∧ Q σ' H') X.xe s
theorem pg_sg {tg : Expr} : PG X tg (SG X tg) := ⟨fun pins s _ _ _ u _ I r h => h pins s u I r⟩
theorem pgs_sgs {ts : List Expr} : PGs X ts (SGs X ts) := ⟨fun pins s _ _ _ u _ I r h => h pins s u I r⟩
theorem SG.of {tg : Expr} {t : TG} {v : V} {σ : L2.St} {H : Hp} {Q : L2.St → Hp → Prop} (h : PG X tg t) (q : t v σ H Q) : SG X tg v σ H Q := fun pins s u I r => h.run pins s σ H v u Q I r q
theorem SGs.of {tg : List Expr} {t : TGs} {v : List V} {σ : L2.St} {H : Hp} {Q : L2.St → Hp → Prop} (h : PGs X tg t) (q : t v σ H Q) : SGs X tg v σ H Q := fun pins s u I r => h.run pins s σ H v u Q I r q
theorem SG.mono {tg : Expr} {v : V} {σ : L2.St} {H : Hp} {Q Q' : L2.St → Hp → Prop} (h : SG X tg v σ H Q) (k : ∀ σ H, Q σ H → Q' σ H) : SG X tg v σ H Q' := fun pins s u I r => thn (h pins s u I r) fun _ _ ⟨σ', H', I', q⟩ => ⟨σ', H', I', k _ _ q⟩
theorem SGs.mono {tg : List Expr} {v : List V} {σ : L2.St} {H : Hp} {Q Q' : L2.St → Hp → Prop} (h : SGs X tg v σ H Q) (k : ∀ σ H, Q σ H → Q' σ H) : SGs X tg v σ H Q' := fun pins s u I r => thn (h pins s u I r) fun _ _ ⟨σ', H', I', q⟩ => ⟨σ', H', I', k _ _ q⟩
def WG (X : Cx) (tg : Expr) (x : W) (σ : List (Option W)) (O : Ob) (Q : List (Option W) → Ob → Prop) : Prop :=
  ∀ F B ρ v σc H, HR X.K B F ρ O H → RS X.K B ρ σ σc → RW X.K B ρ B x v → SG X tg v σc H (LS X.K F B ρ Q)
def WGs (X : Cx) (ts : List Expr) (xs : List W) (σ : List (Option W)) (O : Ob) (Q : List (Option W) → Ob → Prop) : Prop :=
  ∀ F B ρ vs σc H, HR X.K B F ρ O H → RS X.K B ρ σ σc → RWs X.K B ρ B xs vs → SGs X ts vs σc H (LS X.K F B ρ Q)
theorem LS.here {K : PySem.W.Frag} {F B : Hp} {ρ : List Addr} {Q : List (Option W) → Ob → Prop} {σ : List (Option W)} {σc : L2.St} {H : Hp} (r : HR K B F ρ O H) (s : RS K B ρ σ σc) (q : Q σ O) : LS K F B ρ Q σc H := ⟨B, ρ, σ, O, Gr.refl, List.prefix_refl _, r, s, q⟩
theorem wg_name (i : Nat) {x : Str} {w : W} {Q : List (Option W) → Ob → Prop} (q : Q (σ.set i (some w)) O) (nd : X.N.Nodup) (hi : X.N[i]? = some x := by rfl) (hx : Loc X.env.scope x := by first | exact Or.inl rfl | exact Or.inr rfl)
    (hf : X.fn x = true ∨ X.env.scope.names.lookup x = some .local := by first | exact .inl rfl | exact .inr rfl) : WG X (.Name x pos) w σ O Q := fun F B ρ v σc H r s rw =>
  SG.of (pg_name nd hi hx hf) (LS.here r (s.set (RS1.of rw)) q)
theorem wgs_nil {Q : List (Option W) → Ob → Prop} (q : Q σ O) : WGs X [] [] σ O Q := fun F B ρ vs σc H r s rw =>
  SGs.of pgs_nil ⟨by simp only [RWfs] at rw; exact rw.1, LS.here r s q⟩
theorem app_nil {α : Type} {f1 f2 : List α} (h : [] = f1 ++ f2) : f1 = [] ∧ f2 = [] := by
  cases f1 with
  | nil => exact ⟨rfl, h.symm⟩
  | cons a l => cases h
theorem wgs_cons {tg : Expr} {ts : List Expr} {w : W} {ws : List W} {Q : List (Option W) → Ob → Prop} (h : WG X tg w σ O fun σ' O' => WGs X ts ws σ' O' Q)
    (hs : (assignEach (tg :: ts) X.env).map (·.2) = assign tg X.env :: (assignEach ts X.env).map (·.2) := by rfl) : WGs X (tg :: ts) (w :: ws) σ O Q := fun F B ρ vs σc H r s rw =>
  SGs.of (pgs_cons pg_sg pgs_sgs hs) (by
    simp only [RWfs] at rw
    obtain ⟨v, vr, f1, f2, h1, h2, h3, h4⟩ := rw
    obtain ⟨e1, e2⟩ := app_nil h2
    subst e1; subst e2; subst h1
    refine ⟨v, vr, rfl, (h F B ρ v σc H r s h3).mono fun σ' H' ⟨B1, ρ1, σ1, O1, g1, p1, r1, s1, q1⟩ => ?_⟩
    exact (q1 F B1 ρ1 vr σ' H' r1 s1 (RWs.mono' g1.ex p1 h4)).mono fun _ _ q => q.back g1 p1)
/-- how a value is read as a tuple -/
inductive AsT : W → List W → Prop where
  | d {xs} : AsT (.d (.t xs)) (xs.map .d)
  | t {ws} : AsT (.t ws) ws
theorem AsT.sq {K : PySem.W.Frag} {B H : Hp} {ρ : List Addr} {w : W} {ws : List W} {v : V} (h : AsT w ws) (r : RW K B ρ H w v) : ∃ a vs, v = .ref a ∧ B a = some (.tup vs) ∧ RWs K B ρ H ws vs := by
  cases h with
  | d =>
    simp only [RWf, RD] at r
    obtain ⟨⟨a, vs, h1, h2, h3⟩, _⟩ := r
    exact ⟨a, vs, h1, h2, rws_of_rds h3⟩
  | t =>
    simp only [RWf] at r
    exact r
theorem wg_tup {ts : List Expr} {k : Nat} {w : W} {ws : List W} {n : Nat} {Q : List (Option W) → Ob → Prop} (ht : AsT w ws) (hl : ws.length = n) (h : WGs X ts ws σ O Q) (hc : X.calm = true := by rfl)
    (hn : (assignEach ts X.env).length = n := by rfl) (hst : (assignEach ts X.env).findIdx? (·.1) = none := by rfl) : WG X (.Tuple ts k pos) w σ O Q := fun F B ρ v σc H r s rw =>
  SG.of (pg_tup hc pgs_sgs hn hst) (by
    obtain ⟨a, vs, h1, h2, h3⟩ := ht.sq rw
    exact ⟨a, vs, h1, st_of (r.exB _ _ h2), by rw [h3.length, hl], h F B ρ vs σc H r s h3⟩)
/-- target = e -/
theorem ws_asg {tg : Expr} (h : WE X e σ O fun w O' => WG X tg w σ O' E.nx) (hs : swapsWithSole [tg] e pos.line X.env = pure false := by rfl) (hw : swappedStores [tg] e X.env = pure none := by rfl)
    (h1 : (assignEach [tg] X.env).map (·.2) = [assign tg X.env] := by rfl) : WS X n0 (.Assign [tg] e pos) σ O E := fun F B0 ρ0 B ρ σc H e1 e2 e3 h4 h5 =>
  SS.of (ps_asg pe_se pg_sg hs hw h1) (h.then h4 h5 fun B1 ρ1 w O1 v H1 g1 p1 r1 s1 rw1 q => (q F B1 ρ1 v σc H1 r1 s1 rw1).mono fun _ _ q => q.back (e2.trans g1) (e3.trans p1))
/-- o[i] as a target -/
theorem wg_sub {w : W} {Q : List (Option W) → Ob → Prop} (h : WE X a σ O fun x O1 => WE X b σ O1 fun y O2 => OSet X x y w O2 fun O3 => Q σ O3)
    (ha : ∀ v, assign (.Subscript a b pos) X.env v = (do
      let ov ← holding [v] (eval a X.env)
      let iv ← holding [v, ov] (eval b X.env)
      standAt pos
      holding [v, ov, iv] (setItem ov iv v)
      release [v, ov, iv] []) := by intro _; rfl) : WG X (.Subscript a b pos) w σ O Q := fun F B ρ v σc H r s rw =>
  SG.of (pg_sub pe_se pe_se set_sset ha) (h.then r s fun B1 ρ1 x O1 o H1 g1 p1 r1 s1 rw1 h1 => h1.then r1 s1 fun B2 ρ2 y O2 i H2 g2 p2 r2 s2 rw2 h2 =>
    (h2 F B2 ρ2 o i v H2 r2 (RW.mono' g2.ex p2 rw1) rw2 (RW.mono' (g1.trans g2).ex (p1.trans p2) rw)).mono fun H3 ⟨B3, O3, g3, r3, q⟩ =>
      ⟨B3, ρ2, σ, O3, (g1.trans g2).trans g3, p1.trans p2, r3, s2.mono g3.ex (List.prefix_refl _), q⟩)

/-! loops -/
/-- how a value is read as a list of data -/
inductive AsD : W → List D → Ob → Prop where
  | d {xs O} : AsD (.d (.l xs)) xs O
  | o {n xs O} : O[n]? = some (some (.lst, xs.map .d)) → AsD (.o n) xs O
theorem rds_of_rws {K : PySem.W.Frag} {B H : Hp} {ρ : List Addr} {xs : List D} {vs : List V} {fp : List Addr} (h : RWfs K B ρ H (xs.map .d) vs fp) : RDs K B xs vs ∧ fp = [] := (PureL.map xs).rds h
theorem AsD.sq {K : PySem.W.Frag} {B F H : Hp} {ρ : List Addr} {w : W} {xs : List D} {v : V} (h : AsD w xs O) (hr : HR K B F ρ O H) (r : RW K B ρ B w v) : ∃ a vs, v = .ref a ∧ SqL K H a vs ∧ RDs K B xs vs := by
  cases h with
  | d =>
    simp only [RWf, RD] at r
    obtain ⟨⟨a, vs, h1, h2, h3⟩, _⟩ := r
    exact ⟨a, vs, h1, ex_l hr.exB h2, h3⟩
  | o e =>
    simp only [RWf] at r
    obtain ⟨⟨a, h1, h2⟩, _⟩ := r
    obtain ⟨a', vs, ho, f, q1, q2, q3, q4, _⟩ := hr.get e
    rw [h1] at q1
    cases q1
    rw [show ho = .lst vs from q3] at q2
    exact ⟨a, vs, h2, sq_of q2, (rds_of_rws q4).1⟩
theorem RDs.get {K : PySem.W.Frag} {B : Hp} : ∀ {xs : List D} {vs : List V} {i : Nat} {v : V}, RDs K B xs vs → vs[i]? = some v → ∃ x, xs[i]? = some x ∧ RD K B x v
  | [], vs, i, v, h, e => by simp only [RDs] at h; rw [h] at e; simp at e
  | x :: xs, vs, i, v, h, e => by
    simp only [RDs] at h
    obtain ⟨u, r, h1, h2, h3⟩ := h
    subst h1
    cases i with
    | zero => simp at e; subst e; exact ⟨x, rfl, h2⟩
    | succ i => simpa using RDs.get (i := i) h3 (by simpa using e)
theorem RDs.length {K : PySem.W.Frag} {B : Hp} : ∀ {xs : List D} {vs : List V}, RDs K B xs vs → vs.length = xs.length
  | [], vs, h => by simp only [RDs] at h; rw [h]; rfl
  | x :: xs, vs, h => by
    simp only [RDs] at h
    obtain ⟨u, r, h1, h2, h3⟩ := h
    rw [h1, List.length_cons, List.length_cons, RDs.length h3]
theorem rw_d {K : PySem.W.Frag} {B H : Hp} {ρ : List Addr} {x : D} {v : V} (h : RD K B x v) : RW K B ρ H (.d x) v := by simp only [RWf]; exact ⟨h, trivial⟩
end
end Vf

/-! Vf4: defs over owned objects, and their calls. -/
namespace Vf
open PySem L2 Evl

/-! ### other numbers for the objects -/
mutual
def W.ren (f : Nat → Nat) : W → W
  | .d y => .d y
  | .o k => .o (f k)
  | .t ws => .t (W.rens f ws)
  | .n h ws => .n h (W.rens f ws)
  | .x => .x
def W.rens (f : Nat → Nat) : List W → List W
  | [] => []
  | w :: ws => W.ren f w :: W.rens f ws
end
theorem rens_d (f : Nat → Nat) : ∀ xs : List D, W.rens f (xs.map W.d) = xs.map W.d
  | [] => rfl
  | x :: xs => by simp only [List.map_cons, W.rens, W.ren, rens_d f xs]
def renO (f : Nat → Nat) (x : OO) : OO := (x.1, W.rens f x.2)
section
variable {K : PySem.W.Frag} {B F H : Hp} {ρ ρ' : List Addr} {f : Nat → Nat}
mutual
theorem RWf.ren (k : ∀ j a, ρ'[j]? = some a → ρ[f j]? = some a) : ∀ (w : W) (v : V) (fp : List Addr), RWf K B ρ' H w v fp → RWf K B ρ H (w.ren f) v fp
  | .d x, v, fp, h => by simp only [RWf, W.ren] at h ⊢; exact h
  | .o n, v, fp, h => by
    simp only [RWf, W.ren] at h ⊢
    obtain ⟨⟨a, h1, h2⟩, h3⟩ := h
    exact ⟨⟨a, k _ _ h1, h2⟩, h3⟩
  | .t ws, v, fp, h => by
    simp only [RWf, W.ren] at h ⊢
    obtain ⟨a, vs, h1, h2, h3⟩ := h
    exact ⟨a, vs, h1, h2, RWfs.ren k ws vs fp h3⟩
  | .n hd ws, v, fp, h => by
    simp only [RWf, W.ren] at h ⊢
    obtain ⟨a, vs, ho, f, h1, h2, h3, h4, h5⟩ := h
    exact ⟨a, vs, ho, f, h1, h2, h3, h4, RWfs.ren k ws vs f h5⟩
  | .x, v, fp, h => by simp only [RWf, W.ren] at h ⊢; exact h
theorem RWfs.ren (k : ∀ j a, ρ'[j]? = some a → ρ[f j]? = some a) : ∀ (ws : List W) (vs : List V) (fp : List Addr), RWfs K B ρ' H ws vs fp → RWfs K B ρ H (W.rens f ws) vs fp
  | [], vs, fp, h => by simp only [RWfs, W.rens] at h ⊢; exact h
  | w :: ws, vs, fp, h => by
    simp only [RWfs, W.rens] at h ⊢
    obtain ⟨v, r, f1, f2, h1, h2, h3, h4⟩ := h
    exact ⟨v, r, f1, f2, h1, h2, RWf.ren k w v f1 h3, RWfs.ren k ws r f2 h4⟩
end
mutual
theorem RWf.unren (k : ∀ j a, ρ[f j]? = some a → ρ'[j]? = some a) : ∀ (w : W) (v : V) (fp : List Addr), RWf K B ρ H (w.ren f) v fp → RWf K B ρ' H w v fp
  | .d x, v, fp, h => by simp only [RWf, W.ren] at h ⊢; exact h
  | .o n, v, fp, h => by
    simp only [RWf, W.ren] at h ⊢
    obtain ⟨⟨a, h1, h2⟩, h3⟩ := h
    exact ⟨⟨a, k _ _ h1, h2⟩, h3⟩
  | .t ws, v, fp, h => by
    simp only [RWf, W.ren] at h ⊢
    obtain ⟨a, vs, h1, h2, h3⟩ := h
    exact ⟨a, vs, h1, h2, RWfs.unren k ws vs fp h3⟩
  | .n hd ws, v, fp, h => by
    simp only [RWf, W.ren] at h ⊢
    obtain ⟨a, vs, ho, f, h1, h2, h3, h4, h5⟩ := h
    exact ⟨a, vs, ho, f, h1, h2, h3, h4, RWfs.unren k ws vs f h5⟩
  | .x, v, fp, h => by simp only [RWf, W.ren] at h ⊢; exact h
theorem RWfs.unren (k : ∀ j a, ρ[f j]? = some a → ρ'[j]? = some a) : ∀ (ws : List W) (vs : List V) (fp : List Addr), RWfs K B ρ H (W.rens f ws) vs fp → RWfs K B ρ' H ws vs fp
  | [], vs, fp, h => by simp only [RWfs, W.rens] at h ⊢; exact h
  | w :: ws, vs, fp, h => by
    simp only [RWfs, W.rens] at h ⊢
    obtain ⟨v, r, f1, f2, h1, h2, h3, h4⟩ := h
    exact ⟨v, r, f1, f2, h1, h2, RWf.unren k w v f1 h3, RWfs.unren k ws r f2 h4⟩
end
end

/-! ### what a def is worth: its arguments, the objects that are handed in (and these alone), what is wanted of its result and of all objects behind -/
abbrev FS := List W → Ob → (W → Ob → Prop) → Prop
def lft (K : PySem.W.Frag) (S : FS) : Sp := fun vs H Q _ => ∃ F B ρ ws O Qw, HR K B F ρ O H ∧ RWs K B ρ B ws vs ∧ S ws O Qw ∧ ∀ v H', Post K F B ρ Qw v H' → Q v H'

/-- the numbers of a call: the objects handed in are sel, new ones stand behind all -/
def rn (sel : List Nat) (N : Nat) (j : Nat) : Nat := match sel[j]? with
  | some n => n
  | none => N + (j - sel.length)
def putAll (f : Nat → Nat) : List Nat → Ob → Ob → Ob
  | n :: sel, x :: Oc, O => (putAll f sel Oc O).set n (x.map (renO f))
  | _, _, O => O
def mrg (sel : List Nat) (Oc O : Ob) : Ob := putAll (rn sel O.length) sel Oc O ++ (Oc.drop sel.length).map (Option.map (renO (rn sel O.length)))
theorem putAll_len (f : Nat → Nat) : ∀ (sel : List Nat) (Oc O : Ob), (putAll f sel Oc O).length = O.length
  | [], _, _ => by simp [putAll]
  | n :: sel, [], O => by simp [putAll]
  | n :: sel, x :: Oc, O => by simp [putAll, putAll_len f sel Oc O]
theorem putAll_out (f : Nat → Nat) : ∀ (sel : List Nat) (Oc O : Ob) (m : Nat), m ∉ sel → (putAll f sel Oc O)[m]? = O[m]?
  | [], _, _, _, _ => by simp [putAll]
  | n :: sel, [], O, _, _ => by simp [putAll]
  | n :: sel, x :: Oc, O, m, h => by
    have h1 : n ≠ m := fun z => h (z ▸ List.mem_cons_self)
    simp only [putAll]
    rw [List.getElem?_set_ne h1]
    exact putAll_out f sel Oc O m fun z => h (List.mem_cons_of_mem _ z)
theorem putAll_in (f : Nat → Nat) : ∀ (sel : List Nat) (Oc O : Ob) (j m : Nat) (x : Option OO), sel.Nodup → sel[j]? = some m → Oc[j]? = some x → m < O.length → (putAll f sel Oc O)[m]? = some (x.map (renO f))
  | [], _, _, _, _, _, _, h, _, _ => by simp at h
  | n :: sel, [], O, _, _, _, _, _, h, _ => by simp at h
  | n :: sel, y :: Oc, O, 0, m, x, nd, h1, h2, hm => by
    simp at h1 h2
    subst h1; subst h2
    simp only [putAll]
    rw [List.getElem?_set_self (by rw [putAll_len]; exact hm)]
  | n :: sel, y :: Oc, O, j + 1, m, x, nd, h1, h2, hm => by
    simp at h1 h2
    have nd' := List.nodup_cons.mp nd
    have : n ≠ m := fun z => nd'.1 (z ▸ List.mem_of_getElem? h1)
    simp only [putAll]
    rw [List.getElem?_set_ne this]
    exact putAll_in f sel Oc O j m x nd'.2 h1 h2 hm

/-! ### data without lists: what leans on tuples alone -/
mutual
def D.imm : D → Bool
  | .s _ => true
  | .t xs => D.imms xs
  | .l _ => false
def D.imms : List D → Bool
  | [] => true
  | y :: ys => D.imm y && D.imms ys
end
mutual
def W.imm : W → Bool
  | .d y => y.imm
  | .o _ => true
  | .t ws => W.imms ws
  | .n _ ws => W.imms ws
  | .x => true
def W.imms : List W → Bool
  | [] => true
  | w :: ws => W.imm w && W.imms ws
end
theorem imms_d : ∀ xs : List D, W.imms (xs.map W.d) = D.imms xs
  | [] => rfl
  | y :: ys => by simp only [List.map_cons, W.imms, W.imm, D.imms, imms_d ys]
theorem imms_all : ∀ xs : List D, (∀ y ∈ xs, y.imm = true) → D.imms xs = true
  | [], _ => rfl
  | y :: ys, h => by simp only [D.imms, h y List.mem_cons_self, imms_all ys (fun z hz => h z (List.mem_cons_of_mem _ hz)), Bool.and_self]
section
variable {K : PySem.W.Frag} {B B' H : Hp} {ρ : List Addr}
mutual
theorem RD.imm (k : ∀ a vs, B a = some (.tup vs) → B' a = some (.tup vs)) : ∀ (y : D) (v : V), y.imm = true → RD K B y v → RD K B' y v
  | .s _, u, _, h => by simp only [RD] at h ⊢; exact h
  | .t xs, u, hi, h => by
    simp only [RD, D.imm] at h hi ⊢
    obtain ⟨a, vs, h1, h2, h3⟩ := h
    exact ⟨a, vs, h1, k _ _ h2, RDs.imm k xs vs hi h3⟩
  | .l xs, u, hi, h => by simp [D.imm] at hi
theorem RDs.imm (k : ∀ a vs, B a = some (.tup vs) → B' a = some (.tup vs)) : ∀ (xs : List D) (vs : List V), D.imms xs = true → RDs K B xs vs → RDs K B' xs vs
  | [], vs, _, h => by simp only [RDs] at h ⊢; exact h
  | x :: xs, vs, hi, h => by
    simp only [RDs, D.imms, Bool.and_eq_true] at h hi ⊢
    obtain ⟨v, r, h1, h2, h3⟩ := h
    exact ⟨v, r, h1, RD.imm k x v hi.1 h2, RDs.imm k xs r hi.2 h3⟩
end
mutual
theorem RWf.imm (k : ∀ a vs, B a = some (.tup vs) → B' a = some (.tup vs)) : ∀ (w : W) (v : V) (fp : List Addr), w.imm = true → RWf K B ρ H w v fp → RWf K B' ρ H w v fp
  | .d y, v, fp, hi, h => by
    simp only [RWf, W.imm] at h hi ⊢
    exact ⟨RD.imm k y v hi h.1, h.2⟩
  | .o n, v, fp, hi, h => by simp only [RWf] at h ⊢; exact h
  | .t ws, v, fp, hi, h => by
    simp only [RWf, W.imm] at h hi ⊢
    obtain ⟨a, vs, h1, h2, h3⟩ := h
    exact ⟨a, vs, h1, k _ _ h2, RWfs.imm k ws vs fp hi h3⟩
  | .n hd ws, v, fp, hi, h => by
    simp only [RWf, W.imm] at h hi ⊢
    obtain ⟨a, vs, ho, f, h1, h2, h3, h4, h5⟩ := h
    exact ⟨a, vs, ho, f, h1, h2, h3, h4, RWfs.imm k ws vs f hi h5⟩
  | .x, v, fp, hi, h => by simp only [RWf] at h ⊢; exact h
theorem RWfs.imm (k : ∀ a vs, B a = some (.tup vs) → B' a = some (.tup vs)) : ∀ (ws : List W) (vs : List V) (fp : List Addr), W.imms ws = true → RWfs K B ρ H ws vs fp → RWfs K B' ρ H ws vs fp
  | [], vs, fp, hi, h => by simp only [RWfs] at h ⊢; exact h
  | w :: ws, vs, fp, hi, h => by
    simp only [RWfs, W.imms, Bool.and_eq_true] at h hi ⊢
    obtain ⟨v, r, f1, f2, h1, h2, h3, h4⟩ := h
    exact ⟨v, r, f1, f2, h1, h2, RWf.imm k w v f1 hi.1 h3, RWfs.imm k ws r f2 hi.2 h4⟩
end
end
/-- the lists that are lent as data: number, items -/
abbrev Lent := List (Nat × List D)
/-- an argument as the caller has it and as the def sees it -/
inductive Vw (bor : Lent) (f : Nat → Nat) : List W → List W → Prop where
  | nil : Vw bor f [] []
  | same {w ws wc} : Vw bor f ws wc → Vw bor f (W.ren f w :: ws) (w :: wc)
  | lent {n xs ws wc} : (n, xs) ∈ bor → Vw bor f ws wc → Vw bor f (.o n :: ws) (.d (.l xs) :: wc)
def ImOk (bor : Lent) (w : W) (Oc : Ob) : Prop := bor = [] ∨ (w.imm = true ∧ ∀ x, some x ∈ Oc → W.imms x.2 = true)

/-- how the arguments and the objects of a call are seen by the def -/
structure Sees (sel : List Nat) (bor : Lent) (ws : List W) (O : Ob) (wc : List W) (Oc : Ob) : Prop where
  nd : sel.Nodup
  args : Vw bor (rn sel O.length) ws wc
  lent : ∀ p ∈ bor, p.1 ∉ sel ∧ O[p.1]? = some (some (.lst, p.2.map .d))
  len : Oc.length = sel.length
  obs : ∀ (j : Nat) n, sel[j]? = some n → ∃ x, Oc[j]? = some (some x) ∧ O[n]? = some (some (renO (rn sel O.length) x))

section
variable {K : PySem.W.Frag} {B F H : Hp} {ρ : List Addr}
theorem rn_old {sel : List Nat} {N j n : Nat} (h : sel[j]? = some n) : rn sel N j = n := by unfold rn; rw [h]
theorem rn_new {sel : List Nat} {N j : Nat} (h : sel.length ≤ j) : rn sel N j = N + (j - sel.length) := by unfold rn; rw [List.getElem?_eq_none h]

theorem nd_inj {α : Type} : ∀ {l : List α} {i j : Nat}, l.Nodup → ∀ (hi : i < l.length) (hj : j < l.length), l[i] = l[j] → i = j
  | [], _, _, _, hi, _, _ => by simp at hi
  | a :: l, 0, 0, _, _, _, _ => rfl
  | a :: l, 0, j + 1, nd, _, hj, e => by
    have h := (List.nodup_cons.mp nd).1
    simp at e
    exact absurd (e ▸ List.getElem_mem _) h
  | a :: l, i + 1, 0, nd, hi, _, e => by
    have h := (List.nodup_cons.mp nd).1
    simp at e
    exact absurd (e ▸ List.getElem_mem _) h
  | a :: l, i + 1, j + 1, nd, hi, hj, e => by
    have := nd_inj (List.nodup_cons.mp nd).2 (by simpa using hi) (by simpa using hj) (by simpa using e)
    rw [this]
/-- THE CALL: from the caller's heap to the def's and back -/
theorem call_frame {sel : List Nat} {bor : Lent} {ws wc : List W} {O Oc : Ob} (r : HR K B F ρ O H) (S : Sees sel bor ws O wc Oc) :
    ∃ (Fc Bc : Hp) (ρc : List Addr), HR K Bc Fc ρc Oc H ∧ (∀ vs, RWs K B ρ B ws vs → RWs K Bc ρc Bc wc vs) ∧
      ∀ (Q : W → Ob → Prop) (v : V) (H' : Hp), Post K Fc Bc ρc (fun w Oc' => ImOk bor w Oc' ∧ Q (w.ren (rn sel O.length)) (mrg sel Oc' O)) v H' → Post K F B ρ Q v H' := by
  obtain ⟨fps, q⟩ := r.ow
  have live : ∀ (j : Nat) n, sel[j]? = some n → ∃ x, Oc[j]? = some (some x) ∧ O[n]? = some (some (renO (rn sel O.length) x)) := S.obs
  have nlt : ∀ (j : Nat) n, sel[j]? = some n → n < O.length := fun j n e => by
    obtain ⟨x, _, h⟩ := live j n e
    exact (List.getElem?_eq_some_iff.mp h).1
  let inS : Addr → Prop := fun a => ∃ (j n : Nat), sel[j]? = some n ∧ a ∈ fps n
  let Fc : Hp := fun a => open Classical in if inS a then none else H a
  let ρc : List Addr := sel.map fun n => ρ[n]?.getD 0
  have hρc : ∀ (j n : Nat), sel[j]? = some n → ∃ a, ρ[n]? = some a ∧ ρc[j]? = some a := fun j n e => by
    have h1 : n < ρ.length := by rw [r.len]; exact nlt j n e
    refine ⟨ρ[n], List.getElem?_eq_getElem h1, ?_⟩
    show (sel.map fun n => ρ[n]?.getD 0)[j]? = _
    rw [List.getElem?_map, e]
    show some (ρ[n]?.getD 0) = _
    rw [List.getElem?_eq_getElem h1]; rfl
  have lρc : ρc.length = sel.length := by show (sel.map _).length = _; rw [List.length_map]
  have un : ∀ j a, ρ[rn sel O.length j]? = some a → ρc[j]? = some a := fun j a h => by
    cases e : sel[j]? with
    | some n =>
      rw [rn_old e] at h
      obtain ⟨b, h1, h2⟩ := hρc j n e
      rw [h] at h1; cases h1; exact h2
    | none =>
      have hj : sel.length ≤ j := List.getElem?_eq_none_iff.mp e
      rw [rn_new hj] at h
      have := (List.getElem?_eq_some_iff.mp h).1
      rw [r.len] at this; omega
  have FcH : ∀ a o, Fc a = some o → H a = some o ∧ ¬ inS a := fun a o h => by
    by_cases z : inS a
    · have : Fc a = none := if_pos z
      rw [this] at h; cases h
    · have : Fc a = H a := if_neg z
      rw [this] at h; exact ⟨h, z⟩
  have Fcn : ∀ a, ¬ inS a → Fc a = H a := fun a z => if_neg z
  have Fci : ∀ a, inS a → Fc a = none := fun a z => if_pos z
  have FFc : ∀ a o, F a = some o → Fc a = some o := fun a o h => by
    rw [Fcn a fun ⟨j, n, e, ha⟩ => by
      obtain ⟨x, _, hx⟩ := live j n e
      have := (q.fr n _ hx a ha).2.1
      rw [h] at this; cases this]
    exact r.exF a o h
  let isB : Addr → Prop := fun a => ∃ p ∈ bor, ρ[p.1]? = some a
  let Bc : Hp := fun a => open Classical in if isB a then H a else B a
  have lentA : ∀ (p : Nat × List D) a, p ∈ bor → ρ[p.1]? = some a → a ∈ fps p.1 ∧ B a = none ∧ ∃ vs, H a = some (.lst vs) ∧ RDs K B p.2 vs := fun p a hp e => by
    have hO := (S.lent p hp).2
    obtain ⟨b, h1, h2⟩ := q.rd p.1 _ hO
    rw [e] at h1; cases h1
    have ha : a ∈ fps p.1 := by
      simp only [RWf] at h2
      obtain ⟨c, _, _, f, h3, h4, _⟩ := h2
      cases h3
      rw [h4]; exact List.mem_cons_self
    refine ⟨ha, (q.fr p.1 _ hO a ha).1, ?_⟩
    simp only [RWf] at h2
    obtain ⟨c, vs, ho, f, h3, h4, h5, h6, h7⟩ := h2
    cases h3
    rw [show ho = .lst vs from h6] at h5
    exact ⟨vs, h5, (rds_of_rws h7).1⟩
  have isBB : ∀ a, isB a → B a = none := fun a ⟨p, hp, e⟩ => (lentA p a hp e).2.1
  have Bci : ∀ a, isB a → Bc a = H a := fun a h => if_pos h
  have Bco : ∀ a, ¬ isB a → Bc a = B a := fun a h => if_neg h
  have exBBc : Ex B Bc := fun a o h => by
    rw [Bco a fun z => by rw [isBB a z] at h; cases h]; exact h
  have selB : ∀ (j n : Nat) a, sel[j]? = some n → a ∈ fps n → ¬ isB a := fun j n a e ha ⟨p, hp, hr⟩ => by
    obtain ⟨x, _, hx⟩ := live j n e
    have hn : n ≠ p.1 := fun z => (S.lent p hp).1 (z ▸ List.mem_of_getElem? e)
    exact q.dj n p.1 _ _ hn hx (S.lent p hp).2 a ha (lentA p a hp hr).1
  refine ⟨Fc, Bc, ρc, ⟨fun a o h => ?_, fun a o h => (FcH a o h).1, by rw [lρc, S.len], fun j => match sel[j]? with | some n => fps n | none => [], ?_⟩, fun vs h => ?_, ?_⟩
  · by_cases z : isB a
    · rw [Bci a z] at h; exact h
    · rw [Bco a z] at h; exact r.exB a o h
  · have lv : ∀ (j : Nat) x, Oc[j]? = some (some x) → ∃ n, sel[j]? = some n ∧ O[n]? = some (some (renO (rn sel O.length) x)) := fun j x h => by
      have hj : j < sel.length := by rw [← S.len]; exact (List.getElem?_eq_some_iff.mp h).1
      obtain ⟨y, h1, h2⟩ := live j sel[j] (List.getElem?_eq_getElem hj)
      rw [h] at h1; cases h1
      exact ⟨_, List.getElem?_eq_getElem hj, h2⟩
    constructor
    · intro j x h
      obtain ⟨n, e, hO⟩ := lv j x h
      obtain ⟨a, h1, h2⟩ := q.rd n _ hO
      obtain ⟨b, g1, g2⟩ := hρc j n e
      rw [h1] at g1; cases g1
      refine ⟨a, g2, ?_⟩
      rw [e]
      have h2' : RWf K B ρ H (W.ren (rn sel O.length) (.n x.1 x.2)) (.ref a) (fps n) := by simp only [W.ren]; exact h2
      exact RWf.mono exBBc (fun _ _ z => z) _ _ _ (fun _ _ _ z => z) (RWf.unren un _ _ _ h2')
    · intro j x h
      obtain ⟨n, e, hO⟩ := lv j x h
      show (match sel[j]? with | some n => fps n | none => []).Nodup
      rw [e]
      exact q.nd n _ hO
    · intro i j x y hij h1 h2 a ha
      obtain ⟨n, e1, hO1⟩ := lv i x h1
      obtain ⟨m, e2, hO2⟩ := lv j y h2
      change a ∈ (match sel[i]? with | some n => fps n | none => []) at ha
      show a ∉ (match sel[j]? with | some n => fps n | none => [])
      rw [e1] at ha
      rw [e2]
      have hnm : n ≠ m := fun z => by
        subst z
        obtain ⟨l1, g1⟩ := List.getElem?_eq_some_iff.mp e1
        obtain ⟨l2, g2⟩ := List.getElem?_eq_some_iff.mp e2
        exact hij (nd_inj S.nd l1 l2 (g1.trans g2.symm))
      exact q.dj n m _ _ hnm hO1 hO2 a ha
    · intro j x h a ha
      obtain ⟨n, e, hO⟩ := lv j x h
      change a ∈ (match sel[j]? with | some n => fps n | none => []) at ha
      rw [e] at ha
      obtain ⟨z1, z2, z3⟩ := q.fr n _ hO a ha
      exact ⟨by rw [Bco a (selB j n a e ha)]; exact z1, Fci a ⟨j, n, e, ha⟩, z3⟩
  · have all : ∀ (ws wc : List W) (vs : List V), Vw bor (rn sel O.length) ws wc → RWs K B ρ B ws vs → RWs K Bc ρc Bc wc vs := by
      intro ws wc vs vw
      induction vw generalizing vs with
      | nil => intro h; simp only [RWfs] at h ⊢; exact h
      | same _ ih =>
        intro h
        simp only [RWfs] at h ⊢
        obtain ⟨v, r', f1, f2, h1, h2, h3, h4⟩ := h
        obtain ⟨e1, e2⟩ := app_nil h2
        subst e1; subst e2
        exact ⟨v, r', [], [], h1, rfl, RWf.mono exBBc (fun _ _ z => z) _ _ _ (fun _ z => by cases z) (RWf.unren un _ _ _ h3), ih r' h4⟩
      | @lent n xs _ _ hm _ ih =>
        intro h
        simp only [RWfs] at h ⊢
        obtain ⟨v, r', f1, f2, h1, h2, h3, h4⟩ := h
        obtain ⟨e1, e2⟩ := app_nil h2
        subst e1; subst e2
        refine ⟨v, r', [], [], h1, rfl, ?_, ih r' h4⟩
        simp only [RWf] at h3
        obtain ⟨⟨a, h5, h6⟩, _⟩ := h3
        obtain ⟨_, _, us, h7, h8⟩ := lentA (n, xs) a hm h5
        refine rw_d ?_
        simp only [RD]
        exact ⟨a, us, h6, sq_of (by rw [Bci a ⟨(n, xs), hm, h5⟩]; exact h7), RDs.mono exBBc _ _ h8⟩
    exact all ws wc vs S.args h
  · rintro Q v H' ⟨B1, ρ', w, Oc', g, p, r', rw', im, hq⟩
    let B' : Hp := fun a => open Classical in if isB a then none else B1 a
    have B'i : ∀ a, isB a → B' a = none := fun a h => if_pos h
    have B'o : ∀ a, ¬ isB a → B' a = B1 a := fun a h => if_neg h
    have exBB' : Ex B B' := fun a o h => by
      rw [B'o a fun z => by rw [isBB a z] at h; cases h]; exact g.ex a o (exBBc a o h)
    have exB'1 : Ex B' B1 := fun a o h => by
      by_cases z : isB a
      · rw [B'i a z] at h; cases h
      · rw [B'o a z] at h; exact h
    have tups : ∀ a vs, B1 a = some (.tup vs) → B' a = some (.tup vs) := fun a vs h => by
      have nb : ¬ isB a := fun ⟨p', hp, hr⟩ => by
        obtain ⟨_, _, us, h7, _⟩ := lentA p' a hp hr
        have := g.ex a _ (by rw [Bci a ⟨p', hp, hr⟩]; exact h7)
        rw [h] at this; cases this
      rw [B'o a nb]; exact h
    have immW : ∀ (u : W) (v : V) (fp : List Addr) (ρ : List Addr) (H : Hp), (bor = [] ∨ u.imm = true) → RWf K B1 ρ H u v fp → RWf K B' ρ H u v fp := fun u v fp ρ H hi h => by
      rcases hi with hi | hi
      · have : Ex B1 B' := fun a o z => by rw [B'o a fun ⟨p', hp, _⟩ => by rw [hi] at hp; cases hp]; exact z
        exact RWf.mono this (fun _ _ z => z) _ _ _ (fun _ _ _ z => z) h
      · exact RWf.imm tups u v fp hi h
    obtain ⟨fps', q'⟩ := r'.ow
    have lk : sel.length ≤ ρ'.length := by rw [← lρc]; exact p.length_le
    have lO : sel.length ≤ Oc'.length := by rw [← r'.len]; exact lk
    have fw : ∀ j a, ρ'[j]? = some a → (ρ ++ ρ'.drop sel.length)[rn sel O.length j]? = some a := fun j a h => by
      cases e : sel[j]? with
      | some n =>
        rw [rn_old e, List.getElem?_append_left (by rw [r.len]; exact nlt j n e)]
        obtain ⟨b, h1, h2⟩ := hρc j n e
        rw [pre_get p h2] at h; cases h; exact h1
      | none =>
        have hj : sel.length ≤ j := List.getElem?_eq_none_iff.mp e
        rw [rn_new hj, List.getElem?_append_right (by rw [r.len]; omega), r.len, List.getElem?_drop]
        rw [show sel.length + (O.length + (j - sel.length) - O.length) = j by omega]
        exact h
    have oth : ∀ (n : Nat) x, O[n]? = some (some x) → n ∉ sel → ∀ a ∈ fps n, ∃ o, Fc a = some o ∧ H a = some o := fun n x h hn a ha => by
      obtain ⟨_, _, o, ho⟩ := q.fr n x h a ha
      refine ⟨o, ?_, ho⟩
      rw [Fcn a fun ⟨j, m, e, hm⟩ => by
        obtain ⟨y, _, hy⟩ := live j m e
        have hnm : n ≠ m := fun z => hn (z ▸ List.mem_of_getElem? e)
        exact q.dj n m _ _ hnm h hy a ha hm]
      exact ho
    have gr : Gr F B B' := ⟨exBB', fun a o h => by
      have nb : ¬ isB a := fun z => by rw [B'i a z] at h; cases h
      rcases g.out a o (exB'1 a o h) with z | z | z
      · rw [Bco a nb] at z; exact .inl z
      · refine .inr (.inl ?_)
        cases e : F a with
        | none => rfl
        | some u => rw [FFc a u e] at z; cases z
      · exact .inr (.inr z)⟩
    refine ⟨B', ρ ++ ρ'.drop sel.length, w.ren (rn sel O.length), mrg sel Oc' O, gr, List.prefix_append _ _, ?_, RW.any (RWf.ren fw _ _ _ (immW _ _ _ _ B1 (im.imp_right (·.1)) rw')), hq⟩
    have hlen : (mrg sel Oc' O).length = O.length + (Oc'.length - sel.length) := by
      unfold mrg; rw [List.length_append, putAll_len, List.length_map, List.length_drop]
    -- where a number of the caller's stands
    have at_ : ∀ (n : Nat) x, (mrg sel Oc' O)[n]? = some (some x) → (n ∉ sel ∧ O[n]? = some (some x)) ∨ ∃ (j : Nat) (y : OO), rn sel O.length j = n ∧ Oc'[j]? = some (some y) ∧ x = renO (rn sel O.length) y := fun n x h => by
      unfold mrg at h
      by_cases hn : n < O.length
      · rw [List.getElem?_append_left (by rw [putAll_len]; exact hn)] at h
        by_cases hs : n ∈ sel
        · obtain ⟨j, e⟩ := List.getElem?_of_mem hs
          have hj : j < Oc'.length := Nat.lt_of_lt_of_le (List.getElem?_eq_some_iff.mp e).1 lO
          rw [putAll_in _ sel Oc' O j n Oc'[j] S.nd e (List.getElem?_eq_getElem hj) hn] at h
          cases hy : Oc'[j] with
          | none => rw [hy] at h; simp at h
          | some y =>
            rw [hy] at h
            refine .inr ⟨j, y, rn_old e, by rw [List.getElem?_eq_getElem hj, hy], ?_⟩
            simpa using h.symm
        · rw [putAll_out _ _ _ _ _ hs] at h
          exact .inl ⟨hs, h⟩
      · rw [List.getElem?_append_right (by rw [putAll_len]; omega), putAll_len, List.getElem?_map, List.getElem?_drop] at h
        have hj : ∃ y, Oc'[sel.length + (n - O.length)]? = some (some y) ∧ x = renO (rn sel O.length) y := by
          cases hy : Oc'[sel.length + (n - O.length)]? with
          | none => rw [hy] at h; simp at h
          | some y =>
            cases y with
            | none => rw [hy] at h; simp at h
            | some y => rw [hy] at h; exact ⟨y, rfl, by simpa using h.symm⟩
        obtain ⟨y, h1, h2⟩ := hj
        exact .inr ⟨_, y, by rw [rn_new (by omega)]; omega, h1, h2⟩
    have inj : ∀ (i j : Nat) x y, Oc'[i]? = some (some x) → Oc'[j]? = some (some y) → rn sel O.length i = rn sel O.length j → i = j := fun i j x y _ _ e => by
      cases e1 : sel[i]? with
      | some n =>
        rw [rn_old e1] at e
        have hn := nlt i n e1
        cases e2 : sel[j]? with
        | some m =>
          rw [rn_old e2] at e
          subst e
          obtain ⟨l1, g1⟩ := List.getElem?_eq_some_iff.mp e1
          obtain ⟨l2, g2⟩ := List.getElem?_eq_some_iff.mp e2
          exact nd_inj S.nd l1 l2 (g1.trans g2.symm)
        | none => rw [rn_new (List.getElem?_eq_none_iff.mp e2)] at e; omega
      | none =>
        have h1 := List.getElem?_eq_none_iff.mp e1
        rw [rn_new h1] at e
        cases e2 : sel[j]? with
        | some m =>
          rw [rn_old e2] at e
          have := nlt j m e2; omega
        | none =>
          have h2 := List.getElem?_eq_none_iff.mp e2
          rw [rn_new h2] at e; omega
    open Classical in
    refine ⟨fun a o h => r'.exB a o (exB'1 a o h), fun a o h => r'.exF a o (FFc a o h), ?_, fun n => if h : ∃ (j : Nat) (y : OO), rn sel O.length j = n ∧ Oc'[j]? = some (some y) then fps' h.choose else fps n, ?_⟩
    · rw [List.length_append, List.length_drop, hlen, r.len, r'.len]
    have new : ∀ (j : Nat) y, Oc'[j]? = some (some y) → (if h : ∃ (i : Nat) (y : OO), rn sel O.length i = rn sel O.length j ∧ Oc'[i]? = some (some y) then fps' h.choose else fps (rn sel O.length j)) = fps' j := fun j y hy => by
      have hx : ∃ (i : Nat) (y : OO), rn sel O.length i = rn sel O.length j ∧ Oc'[i]? = some (some y) := ⟨j, y, rfl, hy⟩
      rw [dif_pos hx]
      obtain ⟨y', h1, h2⟩ := hx.choose_spec
      rw [inj _ _ _ _ h2 hy h1]
    have old : ∀ (n : Nat) x, n ∉ sel → O[n]? = some (some x) → (if h : ∃ (i : Nat) (y : OO), rn sel O.length i = n ∧ Oc'[i]? = some (some y) then fps' h.choose else fps n) = fps n := fun n x hn ho => by
      rw [dif_neg]
      rintro ⟨i, y, e, hy⟩
      cases e1 : sel[i]? with
      | some m => rw [rn_old e1] at e; exact hn (e ▸ List.mem_of_getElem? e1)
      | none =>
        rw [rn_new (List.getElem?_eq_none_iff.mp e1)] at e
        have := (List.getElem?_eq_some_iff.mp ho).1
        omega
    have dis : ∀ (n j : Nat) x y, n ∉ sel → O[n]? = some (some x) → Oc'[j]? = some (some y) → ∀ a ∈ fps n, a ∉ fps' j := fun n j x y hn hO hy a ha hj => by
      obtain ⟨o, h1, _⟩ := oth n x hO hn a ha
      have := (q'.fr j y hy a hj).2.1
      rw [h1] at this; cases this
    constructor
    · intro n x h
      rcases at_ n x h with ⟨hn, hO⟩ | ⟨j, y, e, hy, ex⟩
      · obtain ⟨a, h1, h2⟩ := q.rd n x hO
        refine ⟨a, pre_get (List.prefix_append _ _) h1, ?_⟩
        show RWf K B' _ H' _ _ (if h : _ then _ else _)
        rw [old n x hn hO]
        exact RWf.mono exBB' (fun _ _ => pre_get (List.prefix_append _ _)) _ _ _ (fun b hb o ho => by
          obtain ⟨u, z1, z2⟩ := oth n x hO hn b hb
          rw [ho] at z2; cases z2
          exact r'.exF b o z1) h2
      · subst e; subst ex
        obtain ⟨a, h1, h2⟩ := q'.rd j y hy
        refine ⟨a, fw _ _ h1, ?_⟩
        show RWf K B' _ H' _ _ (if h : _ then _ else _)
        rw [new j y hy]
        have := RWf.ren fw _ _ _ (immW (.n y.1 y.2) _ _ _ _ (im.imp_right fun z => by simp only [W.imm]; exact z.2 y (List.mem_of_getElem? hy)) h2)
        simp only [W.ren] at this
        exact this
    · intro n x h
      show (if h : _ then _ else _ : List Addr).Nodup
      rcases at_ n x h with ⟨hn, hO⟩ | ⟨j, y, e, hy, ex⟩
      · rw [old n x hn hO]; exact q.nd n x hO
      · subst e; rw [new j y hy]; exact q'.nd j y hy
    · intro n m x y hnm h1 h2 a ha
      change a ∈ (if h : _ then _ else _ : List Addr) at ha
      show a ∉ (if h : _ then _ else _ : List Addr)
      rcases at_ n x h1 with ⟨hn, hO⟩ | ⟨j, z, e, hz, ex⟩
      · rw [old n x hn hO] at ha
        rcases at_ m y h2 with ⟨hm, hO2⟩ | ⟨j2, z2, e2, hz2, ex2⟩
        · rw [old m y hm hO2]; exact q.dj n m x y hnm hO hO2 a ha
        · subst e2; rw [new j2 z2 hz2]; exact dis n j2 x z2 hn hO hz2 a ha
      · subst e; rw [new j z hz] at ha
        rcases at_ m y h2 with ⟨hm, hO2⟩ | ⟨j2, z2, e2, hz2, ex2⟩
        · rw [old m y hm hO2]; exact fun hb => dis m j y z hm hO2 hz a hb ha
        · subst e2; rw [new j2 z2 hz2]; exact q'.dj j j2 z z2 (fun w => hnm (w ▸ rfl)) hz hz2 a ha
    · intro n x h a ha
      change a ∈ (if h : _ then _ else _ : List Addr) at ha
      rcases at_ n x h with ⟨hn, hO⟩ | ⟨j, y, e, hy, ex⟩
      · rw [old n x hn hO] at ha
        obtain ⟨z1, z2, _⟩ := q.fr n x hO a ha
        obtain ⟨o, h1, h2⟩ := oth n x hO hn a ha
        refine ⟨?_, z2, o, r'.exF a o h1⟩
        cases e : B' a with
        | none => rfl
        | some u =>
          have nb : ¬ isB a := fun z => by rw [B'i a z] at e; cases e
          rcases g.out a u (exB'1 a u e) with z | z | ⟨us, z⟩
          · rw [Bco a nb, z1] at z; cases z
          · rw [h1] at z; cases z
          · subst z
            have z3 := r'.exF a o h1
            rw [r'.exB a _ (exB'1 a _ e)] at z3
            cases z3
            exact absurd h2 (q.no_tup hO ha)
      · subst e; rw [new j y hy] at ha
        obtain ⟨z1, z2, z3⟩ := q'.fr j y hy a ha
        refine ⟨?_, ?_, z3⟩
        · cases e : B' a with
          | none => rfl
          | some u => have := exB'1 a u e; rw [z1] at this; cases this
        cases e : F a with
        | none => rfl
        | some u => rw [FFc a u e] at z2; cases z2
end
end Vf

/-! Vf5: what is walked; for, while, list comprehensions; calls of defs, defs. -/
namespace Vf
open PySem L2 Evl

/-! ### walks -/
def SPI (X : Cx) (tg iter : Expr) : TI := fun σ H R => ∀ pins s, Inv X pins σ H s → wpAny (model X.prog X.w) X.A (eval iter X.env) (fun v s1 => wpAny (model X.prog X.w) X.A (pyIter v) (PIE X pins σ tg R) X.xe s1) X.xe s
theorem pi_spi {X : Cx} {tg iter : Expr} : PI X tg iter (SPI X tg iter) := ⟨fun pins s _ _ _ I h => h pins s I⟩
theorem SPI.of {X : Cx} {tg iter : Expr} {wi : TI} {σ : L2.St} {H : Hp} {R : It → Hp → Prop} (h : PI X tg iter wi) (q : wi σ H R) : SPI X tg iter σ H R := fun pins s I => h.run pins s σ H R I q
/-- in every state where C holds, J goes over the data xs -/
def SeqJ (K : PySem.W.Frag) (F B1 : Hp) (ρ1 : List Addr) (J : It) (xs : List D) (C : Ob → Prop) : Prop :=
  ∀ (i : Nat) B ρ O H, Ex B1 B → ρ1 <+: ρ → HR K B F ρ O H → C O →
    (i < xs.length → J.go i H ∧ ∀ v H', J.yld i H v H' → ∃ B' x, Gr F B B' ∧ HR K B' F ρ O H' ∧ xs[i]? = some x ∧ RD K B' x v) ∧ (xs.length ≤ i → J.stop i H)
def WI (X : Cx) (tg iter : Expr) (σ : List (Option W)) (O : Ob) (Q : List D → (Ob → Prop) → Ob → Prop) : Prop :=
  ∀ F B ρ σc H, HR X.K B F ρ O H → RS X.K B ρ σ σc → SPI X tg iter σc H fun J H1 => ∃ B1 ρ1 O1 xs C, Gr F B B1 ∧ ρ <+: ρ1 ∧ HR X.K B1 F ρ1 O1 H1 ∧ RS X.K B1 ρ1 σ σc ∧ C O1 ∧ SeqJ X.K F B1 ρ1 J xs C ∧ Q xs C O1
section
variable {X : Cx} {σ : List (Option W)} {O : Ob} {E : EW} {n0 : Nat} {pos p : Pos} {e a b tg iter : Expr} {es : List Expr} {st : Stmt} {rest body : List Stmt}
theorem wi_list {Q : List D → (Ob → Prop) → Ob → Prop} (h : WE X iter σ O fun w O1 => ∃ xs, AsD w xs O1 ∧ Q xs (AsD w xs) O1) : WI X tg iter σ O Q := fun F B ρ σc H r s =>
  SPI.of (pi_list pe_se) (h.then r s fun B1 ρ1 w O1 v H1 g1 p1 r1 s1 rw1 ⟨xs, as, q⟩ => by
    obtain ⟨a, vs, rfl, hq, rd⟩ := as.sq r1 rw1
    refine ⟨a, rfl, ⟨vs, hq⟩, B1, ρ1, O1, xs, AsD w xs, g1, p1, r1, s1, as, fun i B2 ρ2 O2 H2 e2 p2 r2 c2 => ?_, q⟩
    obtain ⟨a', vs', e, hq', rd'⟩ := c2.sq r2 (RW.mono' e2 p2 rw1)
    cases e
    refine ⟨fun hi => ⟨⟨vs', vs'[i]'(by rw [rd'.length]; exact hi), hq', List.getElem?_eq_getElem _⟩, fun v H' hy => ?_⟩, fun hi => ⟨vs', hq', by rw [rd'.length]; exact hi⟩⟩
    obtain ⟨e, hy⟩ := hy
    subst e
    obtain ⟨x, hx, rx⟩ := rd'.get (hy vs' hq')
    exact ⟨B2, x, Gr.refl, r2, hx, rx⟩)
theorem wi_tup {Q : List D → (Ob → Prop) → Ob → Prop} (h : WE X iter σ O fun w O1 => ∃ xs, w = .d (.t xs) ∧ Q xs (fun _ => True) O1) : WI X tg iter σ O Q := fun F B ρ σc H r s =>
  SPI.of (pi_tup pe_se) (h.then r s fun B1 ρ1 w O1 v H1 g1 p1 r1 s1 rw1 ⟨xs, e, q⟩ => by
    subst e
    simp only [RWf, RD] at rw1
    obtain ⟨⟨a, vs, rfl, hq, rd⟩, _⟩ := rw1
    refine ⟨a, rfl, ⟨vs, st_of (r1.exB _ _ hq)⟩, B1, ρ1, O1, xs, _, g1, p1, r1, s1, trivial, fun i B2 ρ2 O2 H2 e2 p2 r2 c2 => ?_, q⟩
    have hq' : SqT X.K H2 a vs := st_of (r2.exB _ _ (e2 _ _ hq))
    refine ⟨fun hi => ⟨⟨vs, vs[i]'(by rw [rd.length]; exact hi), hq', List.getElem?_eq_getElem _⟩, fun v H' hy => ?_⟩, fun hi => ⟨vs, hq', by rw [rd.length]; exact hi⟩⟩
    obtain ⟨e, hy⟩ := hy
    subst e
    obtain ⟨x, hx, rx⟩ := rd.get (hy vs hq')
    exact ⟨B2, x, Gr.refl, r2, hx, RD.mono e2 _ _ rx⟩)
abbrev dI (i : Int) : D := .s (.int i)
abbrev dS (x : Str) : D := .s (.str x)
abbrev dB (x : Bool) : D := .s (.bl x)
abbrev dN : D := .s .non
/-- lo, lo + 1, .. -/
def ups (lo : Int) (n : Nat) : List D := (List.range n).map fun (i : Nat) => dI (lo + (i : Int))
theorem ups_len (lo : Int) (n : Nat) : (ups lo n).length = n := by unfold ups; rw [List.length_map, List.length_range]
theorem ups_get {lo : Int} {n i : Nat} (h : i < n) : (ups lo n)[i]? = some (dI (lo + (i : Int))) := by
  unfold ups
  rw [List.getElem?_map, List.getElem?_range h]
  rfl
theorem seq_rng {K : PySem.W.Frag} {F B1 : Hp} {ρ1 : List Addr} {lo : Int} {n : Nat} : SeqJ K F B1 ρ1 (Itr lo n) (ups lo n) (fun _ => True) := fun i B ρ O H _ _ r _ =>
  ⟨fun hi => ⟨by rw [ups_len] at hi; exact hi, fun v H' hy => by
    obtain ⟨e1, e2⟩ := hy
    subst e1; subst e2
    rw [ups_len] at hi
    exact ⟨B, _, Gr.refl, r, ups_get hi, by simp only [RD]⟩⟩, fun hi => by rw [ups_len] at hi; exact hi⟩
theorem wi_range1 {Q : List D → (Ob → Prop) → Ob → Prop} (h : WA X [a] σ O fun ws O1 => ∃ n : Int, ws = [.d (dI n)] ∧ -(2 ^ 62) ≤ n ∧ n < 2 ^ 62 ∧ Q (ups 0 n.toNat) (fun _ => True) O1) (hm : X.mg "range" = none) (hg : Gl X "range" := by rfl)
    (hs : starEach [a] X.env = [(false, eval a X.env)] := by rfl) : WI X tg (.Call (.Name "range" p) [a] [] pos) σ O Q := fun F B ρ σc H r s =>
  SPI.of (pi_range1 hg hm pa_sa hs) (h.then r s fun B1 ρ1 ws O1 vs H1 g1 p1 r1 s1 rw1 ⟨n, e, h1, h2, q⟩ => by
    subst e
    simp only [RWfs, RWf, RD] at rw1
    obtain ⟨v, r', f1, f2, rfl, _, ⟨rfl, _⟩, rfl, _⟩ := rw1
    exact ⟨n, rfl, h1, h2, B1, ρ1, O1, _, _, g1, p1, r1, s1, trivial, seq_rng, q⟩)
theorem wi_range2 {Q : List D → (Ob → Prop) → Ob → Prop} (h : WA X [a, b] σ O fun ws O1 => ∃ m n : Int, ws = [.d (dI m), .d (dI n)] ∧ (-(2 ^ 62) ≤ m ∧ m < 2 ^ 62 ∧ -(2 ^ 62) ≤ n ∧ n < 2 ^ 62) ∧ Q (ups m (n - m).toNat) (fun _ => True) O1) (hm : X.mg "range" = none) (hg : Gl X "range" := by rfl)
    (hs : starEach [a, b] X.env = [(false, eval a X.env), (false, eval b X.env)] := by rfl) (hs2 : starEach [b] X.env = [(false, eval b X.env)] := by rfl) : WI X tg (.Call (.Name "range" p) [a, b] [] pos) σ O Q := fun F B ρ σc H r s =>
  SPI.of (pi_range2 hg hm pa_sa hs hs2) (h.then r s fun B1 ρ1 ws O1 vs H1 g1 p1 r1 s1 rw1 ⟨m, n, e, h1, q⟩ => by
    subst e
    simp only [RWfs, RWf, RD] at rw1
    obtain ⟨v, r', f1, f2, rfl, _, ⟨rfl, _⟩, v', r'', f3, f4, rfl, _, ⟨rfl, _⟩, rfl, _⟩ := rw1
    exact ⟨m, n, rfl, h1, B1, ρ1, O1, _, _, g1, p1, r1, s1, trivial, seq_rng, q⟩)
theorem zipIdx_get {α : Type} {l : List α} {i : Nat} {x : α} (h : l[i]? = some x) : (l.zipIdx.map fun p => (p.2, p.1))[i]? = some (i, x) := by
  rw [List.getElem?_map, List.getElem?_zipIdx, h]
  simp
def enumD (xs : List D) : List D := xs.zipIdx.map fun p => D.t [dI (p.2 : Int), p.1]
theorem enum_get {xs : List D} {i : Nat} {x : D} (h : xs[i]? = some x) : (enumD xs)[i]? = some (D.t [dI (i : Int), x]) := by
  unfold enumD
  rw [List.getElem?_map, List.getElem?_zipIdx, h]
  simp
theorem enum_len (xs : List D) : (enumD xs).length = xs.length := by unfold enumD; simp
theorem wi_enum {elts : List Expr} {kk : Nat} {tpos : Pos} {Q : List D → (Ob → Prop) → Ob → Prop} (h : WA X [e] σ O fun ws O1 => ∃ w xs, ws = [w] ∧ AsD w xs O1 ∧ Q (enumD xs) (AsD w xs) O1) (hm : X.mg "enumerate" = none) (hg : Gl X "enumerate" := by rfl)
    (hs : starEach [e] X.env = [(false, eval e X.env)] := by rfl) : WI X (.Tuple elts kk tpos) (.Call (.Name "enumerate" p) [e] [] pos) σ O Q := fun F B ρ σc H r s =>
  SPI.of (pi_enum hg hm pa_sa hs) (h.then r s fun B1 ρ1 ws O1 vs H1 g1 p1 r1 s1 rw1 ⟨w, xs, ew, as, q⟩ => by
    subst ew
    simp only [RWfs] at rw1
    obtain ⟨v, r', f1, f2, rfl, e0, h3, rfl, e1⟩ := rw1
    obtain ⟨rfl, rfl⟩ := app_nil e0
    obtain ⟨a, us, rfl, hq, rd⟩ := as.sq r1 h3
    refine ⟨a, us, rfl, hq, B1, ρ1, O1, _, AsD w xs, g1, p1, r1, s1, as, fun i B2 ρ2 O2 H2 e2 p2 r2 c2 => ?_, q⟩
    obtain ⟨a', vs', e, hq', rd'⟩ := c2.sq r2 (RW.mono' e2 p2 h3)
    cases e
    rw [enum_len]
    refine ⟨fun hi => ⟨⟨vs', vs'[i]'(by rw [rd'.length]; exact hi), hq', List.getElem?_eq_getElem _⟩, fun v H' hy => ?_⟩, fun hi => ⟨vs', hq', by rw [rd'.length]; exact hi⟩⟩
    obtain ⟨T, y, rfl, hT, rfl, hy⟩ := hy
    obtain ⟨x, hx, rx⟩ := rd'.get (hy vs' hq')
    obtain ⟨r3, g3⟩ := r2.frz (ho := .tup [.int (i : Nat), y]) hT
    refine ⟨_, _, g3, r3, enum_get hx, ?_⟩
    simp only [RD, RDs]
    exact ⟨T, _, rfl, upd_same, _, _, rfl, rfl, y, [], rfl, RD.mono g3.ex _ _ rx, rfl⟩)

/-! ### for -/
structure ForI (X : Cx) (tg : Expr) (body : List Stmt) (E : EW) (σ : List (Option W)) (O : Ob) (xs : List D) (C : Ob → Prop) (P : Nat → List (Option W) → Ob → Prop) : Prop where
  h0 : P 0 σ O
  st : ∀ i σ' O', P i σ' O' → C O'
  turn : ∀ i x σ' O', xs[i]? = some x → P i σ' O' → WG X tg (.d x) σ' O' fun σ2 O2 => WSs X O.length body σ2 O2 ⟨Dn O.length (P (i + 1)), E.rt, E.nx, Dn O.length (P (i + 1))⟩
  done : ∀ σ' O', P xs.length σ' O' → E.nx σ' O'
theorem for_core {F B0 B1 : Hp} {ρ0 ρ1 : List Addr} {O1 : Ob} {σc : L2.St} {H1 : Hp} {J : It} {xs : List D} {C : Ob → Prop} {P : Nat → List (Option W) → Ob → Prop} (g1 : Gr F B0 B1) (p1 : ρ0 <+: ρ1) (r1 : HR X.K B1 F ρ1 O1 H1) (s1 : RS X.K B1 ρ1 σ σc)
    (hJ : SeqJ X.K F B1 ρ1 J xs C) (q : ForI X tg body E σ O1 xs C P) :
    ∃ Wn : Nat → Nat → L2.St → Hp → Prop, (∃ m, Wn 0 m σc H1) ∧ ∀ i m σ' H', Wn i m σ' H' →
      (J.stop i H' ∧ (EL X.K F B0 ρ0 E).nx σ' H') ∨ (J.go i H' ∧ ∃ Nx : L2.St → Hp → Prop, (∀ σ2 H2, Nx σ2 H2 → ∃ m', m' < m ∧ Wn (i + 1) m' σ2 H2) ∧ ∀ x H2, J.yld i H' x H2 → SG X tg x σ' H2 fun σ3 H3 => SSs X body { EL X.K F B0 ρ0 E with nx := Nx, ct := Nx, bk := (EL X.K F B0 ρ0 E).nx } σ3 H3) := by
  have el : ρ1.length = O1.length := r1.len
  refine ⟨fun i m σ' H' => m = xs.length - i ∧ i ≤ xs.length ∧ LS X.K F B1 ρ1 (P i) σ' H', ⟨_, rfl, Nat.zero_le _, LS.here r1 s1 q.h0⟩, ?_⟩
  rintro i m σ' H' ⟨rfl, hi, hP⟩
  obtain ⟨B2, ρ2, σ2, O2, g2, p2, r2, s2, q2⟩ := id hP
  obtain ⟨z1, z2⟩ := hJ i B2 ρ2 O2 H' g2.ex p2 r2 (q.st _ _ _ q2)
  by_cases hlt : i < xs.length
  · obtain ⟨y1, y2⟩ := z1 hlt
    refine .inr ⟨y1, LS X.K F B1 ρ1 (P (i + 1)), fun σ3 H3 z => ⟨_, by omega, rfl, hlt, z⟩, fun y H3 hy => ?_⟩
    obtain ⟨B3, x, g3, r3, hx, rx⟩ := y2 y H3 hy
    refine (q.turn i x σ2 O2 hx q2 F B3 ρ2 y σ' H3 r3 (s2.mono g3.ex (List.prefix_refl _)) (rw_d rx)).mono fun σ3 H3 ⟨B4, ρ4, σ4, O4, g4, p4, r4, s4, q4⟩ => ?_
    refine (q4 F B1 ρ1 B4 ρ4 σ3 H3 el ((g2.trans g3).trans g4) (p2.trans p4) r4 s4).mono ⟨fun _ _ z => ?_, fun _ _ z => z.back g1 p1, fun _ _ z => z.back g1 p1, fun _ _ z => ?_⟩
    · exact LS.dn (el ▸ z)
    · exact LS.dn (el ▸ z)
  · have e : i = xs.length := by omega
    subst e
    exact .inl ⟨z2 (Nat.le_refl _), (hP.mono q.done).back g1 p1⟩
theorem ws_for (h : WI X tg iter σ O fun xs C O1 => ∃ P, ForI X tg body E σ O1 xs C P) (hp : PassesOwn (model X.prog X.w) X.A X.env X.xe) (hc : X.calm = true := by rfl)
    (hs : ∀ x, foldedSetIterable iter X.env x = pure x := by intro _; rfl) : WS X n0 (.For tg iter body [] pos) σ O E := fun F B0 ρ0 B ρ σc H e1 e2 e3 h4 h5 =>
  SS.of (ps_for hp hc pi_spi pg_sg pss_sss hs) (show SPI X tg iter σc H _ from fun pins s I => thn (h F B ρ σc H h4 h5 pins s I) fun v s1 hv => thn hv fun itv s2 ⟨it, fp, tn, J, H1, i1, i2, i3, i4, i5, B1, ρ1, O1, xs, C, g1, p1, r1, s1, hC, hJ, P, q⟩ =>
    ⟨it, fp, tn, J, H1, i1, i2, i3, i4, i5, for_core (e2.trans g1) (e3.trans p1) r1 s1 hJ q⟩)

/-! ### while -/
structure WhI (X : Cx) (n0 : Nat) (c : Expr) (body : List Stmt) (E : EW) (P : Nat → List (Option W) → Ob → Prop) : Prop where
  turn : ∀ m σ' O', P m σ' O' → WT X c σ' O' fun k O2 => (k = true → WSs X n0 body σ' O2 ⟨Dn n0 (fun σ3 O3 => ∃ m', m' < m ∧ P m' σ3 O3), E.rt, E.nx, Dn n0 (fun σ3 O3 => ∃ m', m' < m ∧ P m' σ3 O3)⟩) ∧ (k = false → E.nx σ' O2)
theorem ws_while {c : Expr} (P : Nat → List (Option W) → Ob → Prop) (m : Nat) (h0 : P m σ O) (h : WhI X n0 c body E P) (hp : PassesOwn (model X.prog X.w) X.A X.env X.xe) : WS X n0 (.While c body [] pos) σ O E := fun F B0 ρ0 B ρ σc H e1 e2 e3 h4 h5 =>
  SS.of (ps_while hp pt_st pss_sss) (by
    refine ⟨fun m σ' H' => LS X.K F B0 ρ0 (P m) σ' H', ⟨m, B, ρ, σ, O, e2, e3, h4, h5, h0⟩, ?_⟩
    rintro m σ' H' ⟨B2, ρ2, σ2, O2, g2, p2, r2, s2, q2⟩
    refine (h.turn m σ2 O2 q2).then r2 s2 fun B3 ρ3 k O3 H3 g3 p3 r3 s3 q3 => ?_
    cases k with
    | true =>
      refine iteT ⟨LS X.K F B0 ρ0 (fun σ3 O3 => ∃ m', m' < m ∧ P m' σ3 O3), fun σ4 H4 ⟨B4, ρ4, σ5, O5, g, p, r, s, m', hm, q⟩ => ⟨m', hm, B4, ρ4, σ5, O5, g, p, r, s, q⟩, ?_⟩
      refine (q3.1 rfl F B0 ρ0 B3 ρ3 σ' H3 e1 (g2.trans g3) (p2.trans p3) r3 s3).mono ⟨fun _ _ z => ?_, fun _ _ z => z, fun _ _ z => z, fun _ _ z => ?_⟩
      · exact LS.dn (e1 ▸ z)
      · exact LS.dn (e1 ▸ z)
    | false => exact iteF ⟨B3, ρ3, σ2, O3, g2.trans g3, p2.trans p3, r3, s3, q3.2 rfl⟩)
end
end Vf

/-! Vf6: list comprehensions; calls of defs, defs. -/
namespace Vf
open PySem L2 Evl

/-! ### list comprehensions -/
/-- a context of the comprehension's block -/
def Blk (X : Cx) (scope : Scope) (X' : Cx) : Prop := ∃ (s : Shared) (H : Hp) (C : Addr) (cl : List (Str × Addr)) (fp : List Addr), X' = X.blk s H scope (compEnvC scope cl C X.env) fp
def STs (X : Cx) (ifs : List Expr) : TT := fun σ H Q => ∀ pins s, Inv X pins σ H s → wpAny (model X.prog X.w) X.A (forIn ifs true fun c r => if r = true then do let ok ← isTrue c X.env (eval c X.env); pure (ForInStep.yield ok) else pure (ForInStep.yield r)) (TP X pins σ Q) X.xe s
def WTs (X : Cx) (ifs : List Expr) (σ : List (Option W)) (O : Ob) (Q : Bool → Ob → Prop) : Prop :=
  ∀ F B ρ σc H, HR X.K B F ρ O H → RS X.K B ρ σ σc → STs X ifs σc H (PostB X.K F B ρ Q)
theorem STs.mono {X : Cx} {ifs : List Expr} {σ : L2.St} {H : Hp} {Q Q' : Bool → Hp → Prop} (h : STs X ifs σ H Q) (k : ∀ v H', Q v H' → Q' v H') : STs X ifs σ H Q' := fun pins s I => thn (h pins s I) fun b _ ⟨H', I', q⟩ => ⟨H', I', k b H' q⟩
theorem wts_nil {X : Cx} {σ : List (Option W)} {O : Ob} {Q : Bool → Ob → Prop} (q : Q true O) : WTs X [] σ O Q := fun F B ρ σc H r s => fun pins s' I => pts_nil.run pins s' σc H _ I (PostB.here r q)
theorem wts_one {X : Cx} {c : Expr} {σ : List (Option W)} {O : Ob} {Q : Bool → Ob → Prop} (h : WT X c σ O Q) : WTs X [c] σ O Q := fun F B ρ σc H r s => fun pins s' I => (pts_one pt_st).run pins s' σc H _ I (h F B ρ σc H r s)
theorem RWfs.append {K : PySem.W.Frag} {B H : Hp} {ρ : List Addr} {w : W} {v : V} (hw : RW K B ρ H w v) : ∀ {ws : List W} {vs : List V} {fp : List Addr}, RWfs K B ρ H ws vs fp → RWfs K B ρ H (ws ++ [w]) (vs ++ [v]) fp
  | [], vs, fp, h => by
    simp only [RWfs] at h
    obtain ⟨rfl, rfl⟩ := h
    simp only [List.nil_append, RWfs]
    exact ⟨v, [], [], [], rfl, rfl, hw, rfl, rfl⟩
  | w' :: ws, vs, fp, h => by
    simp only [RWfs] at h
    obtain ⟨v', r, f1, f2, rfl, rfl, h3, h4⟩ := h
    simp only [List.cons_append, RWfs]
    exact ⟨v', r ++ [v], f1, f2, rfl, rfl, h3, RWfs.append hw h4⟩
/-- how a comprehension's target is stored: σx is what stands in the slots for an item -/
def TgOk (X : Cx) (scope : Scope) (tg : Expr) (vs : List Nat) (g : TG) (σ : List (Option W)) (xs : List D) (σx : D → List (Option W)) : Prop :=
  (∀ X', Blk X scope X' → PG X' tg g) ∧
  ∀ x ∈ xs, ∀ F B ρ v σc O H (Q : L2.St → Hp → Prop), HR X.K B F ρ O H → RS X.K B ρ σ σc → RD X.K B x v → (∀ σ2, wipe σ2 vs = wipe σc vs → RS X.K B ρ (σx x) σ2 → Q σ2 H) → g v (wipe σc vs) H Q
theorem tg_name (i : Nat) {X : Cx} {scope : Scope} {x : Str} {pos : Pos} {σ : List (Option W)} {xs : List D} (h : ∀ X', Blk X scope X' → PG X' (.Name x pos) (gName i)) : TgOk X scope (.Name x pos) [i] (gName i) σ xs (fun y => σ.set i (some (.d y))) := by
  refine ⟨h, fun y _ F B ρ v σc O H Q r s rd k => k _ ?_ ?_⟩
  · show ((σc.set i none).set i (some v)).set i none = σc.set i none
    rw [List.set_set, List.set_set]
  · show RS _ _ _ _ ((σc.set i none).set i (some v))
    rw [List.set_set]
    exact s.set (RS1.of (rw_d rd))
theorem set_wipe2 {σc : L2.St} {i j : Nat} (v w : Option V) (hij : i ≠ j) : ((((σc.set j none).set i none).set i v).set j w) = (σc.set i v).set j w := by
  rw [List.set_set, List.set_comm _ _ (Ne.symm hij), List.set_set]
theorem tg_pair (i j : Nat) (hij : i ≠ j) {X : Cx} {scope : Scope} {x y : Str} {pos p1 p2 : Pos} {k : Nat} {σ : List (Option W)} {xs : List D} (hx : ∀ z ∈ xs, ∃ a b, z = .t [a, b])
    (h : ∀ X', Blk X scope X' → PG X' (.Tuple [.Name x p1, .Name y p2] k pos) (gTup X.K 2 (gCons (gName i) (gCons (gName j) gNil)))) :
    TgOk X scope (.Tuple [.Name x p1, .Name y p2] k pos) [i, j] (gTup X.K 2 (gCons (gName i) (gCons (gName j) gNil))) σ xs (fun z => match z with | .t [a, b] => (σ.set i (some (.d a))).set j (some (.d b)) | _ => σ) := by
  refine ⟨h, fun z hz F B ρ v σc O H Q r s rd k => ?_⟩
  obtain ⟨a, b, rfl⟩ := hx z hz
  simp only [RD, RDs] at rd
  obtain ⟨c, vs, rfl, hq, u, r1, rfl, ra, w, r2, rfl, rb, rfl⟩ := rd
  refine ⟨c, _, rfl, st_of (r.exB _ _ hq), rfl, u, _, rfl, w, _, rfl, rfl, k _ ?_ ?_⟩
  · show (((((σc.set j none).set i none).set i (some u)).set j (some w)).set j none).set i none = (σc.set j none).set i none
    rw [set_wipe2 _ _ hij, List.set_set, List.set_comm _ _ hij, List.set_set]
  · show RS _ _ _ _ ((((σc.set j none).set i none).set i (some u)).set j (some w))
    rw [set_wipe2 _ _ hij]
    exact (s.set (RS1.of (rw_d ra))).set (RS1.of (rw_d rb))
structure LcI (X : Cx) (scope : Scope) (ifs : List Expr) (elt : Expr) (O : Ob) (xs : List D) (σx : D → List (Option W)) (C : Ob → Prop) (P : Nat → Ob → Prop) (Q : W → Ob → Prop) : Prop where
  h0 : P 0 (O ++ [some (.lst, [])])
  st : ∀ j O', P j O' → C O'
  turn : ∀ j x O', xs[j]? = some x → P j O' → ∀ X', Blk X scope X' → WTs X' ifs (σx x) O' fun b O3 =>
    (b = true → ∀ X2, Blk X scope X2 → WE X2 elt (σx x) O3 fun w O4 => ∃ acc, O4[O.length]? = some (some (.lst, acc)) ∧ acc.length < 1000000 ∧ DnO (O.length + 1) (P (j + 1)) (O4.set O.length (some (.lst, acc ++ [w])))) ∧ (b = false → DnO (O.length + 1) (P (j + 1)) O3)
  done : ∀ O', P xs.length O' → Q (.o O.length) O'
section
variable {X : Cx} {scope : Scope} {tg iter elt : Expr} {ifs : List Expr} {own : List (Str × Nat)} {pos : Pos} {σ : List (Option W)} {O : Ob} {Q : W → Ob → Prop} {g : TG}
def ttS (X : Cx) (scope : Scope) (ifs : List Expr) : TT := fun σ H Q => ∀ X', Blk X scope X' → STs X' ifs σ H Q
def teS (X : Cx) (scope : Scope) (e : Expr) : TE := fun σ H Q => ∀ X', Blk X scope X' → SE X' e σ H Q
theorem lc_read (h : WI X tg iter σ O fun xs C O1 => ∃ σx P, TgOk X scope tg (own.map (·.2)) g σ xs σx ∧ LcI X scope ifs elt O1 xs σx C P Q) {F B : Hp} {ρ : List Addr} {σc : L2.St} {H : Hp} (r : HR X.K B F ρ O H) (s : RS X.K B ρ σ σc)
    {Qc : VK} (k : ∀ v H', Post X.K F B ρ Q v H' → Qc v H') : tLc (SPI X tg iter) g (ttS X scope ifs) (teS X scope elt) (own.map (·.2)) σc H Qc := by
  show SPI X tg iter σc H _
  refine fun pins s' I => thn (h F B ρ σc H r s pins s' I) fun v s1 hv => thn hv fun itv s2 ⟨it, fp, tn, J, H1, i1, i2, i3, i4, i5, B1, ρ1, O1, xs, C, g1, p1, r1, s1, hC, hJ, σx, P, T, q⟩ => ?_
  refine ⟨it, fp, tn, J, H1, i1, i2, i3, i4, i5, fun D hD => ?_⟩
  have el : ρ1.length = O1.length := r1.len
  have hDρ : ∀ ρ, ρ1 ++ [D] <+: ρ → ρ[O1.length]? = some D := fun ρ h => pre_get h (by rw [← el]; exact len_get _ _)
  have dn : ∀ (n : Nat) (B' : Hp) (ρ' : List Addr) (O' : Ob) (H' : Hp), Gr F B1 B' → ρ1 ++ [D] <+: ρ' → HR X.K B' F ρ' O' H' → DnO (O1.length + 1) (P n) O' → ∃ B ρ O, Gr F B1 B ∧ ρ1 ++ [D] <+: ρ ∧ HR X.K B F ρ O H' ∧ P n O := fun n B' ρ' O' H' g p r ⟨O2, q1, q2, q3⟩ =>
    ⟨B', ρ'.take O2.length, O2, g, pre_take p (by rw [List.length_append, el]; exact q1), r.wk q2, q3⟩
  refine ⟨fun i m H' => m = xs.length - i ∧ i ≤ xs.length ∧ ∃ B ρ O, Gr F B1 B ∧ ρ1 ++ [D] <+: ρ ∧ HR X.K B F ρ O H' ∧ P i O, ⟨_, rfl, Nat.zero_le _, B1, ρ1 ++ [D], _, Gr.refl, List.prefix_refl _, r1.new (h := .lst) (vs := []) hD rfl rws_nil, q.h0⟩, ?_⟩
  rintro i m H' ⟨rfl, hi, B2, ρ2, O2, g2, p2, r2, q2⟩
  have p12 : ρ1 <+: ρ2 := (List.prefix_append _ _).trans p2
  obtain ⟨z1, z2⟩ := hJ i B2 ρ2 O2 H' g2.ex p12 r2 (q.st _ _ q2)
  by_cases hlt : i < xs.length
  · obtain ⟨y1, y2⟩ := z1 hlt
    refine .inr ⟨y1, fun H' => ∃ B ρ O, Gr F B1 B ∧ ρ1 ++ [D] <+: ρ ∧ HR X.K B F ρ O H' ∧ P (i + 1) O, fun H3 z => ⟨_, by omega, rfl, hlt, z⟩, fun y H3 hy => ?_⟩
    obtain ⟨B3, x, g3, r3, hx, rx⟩ := y2 y H3 hy
    refine T.2 x (List.mem_of_getElem? hx) F B3 ρ2 y σc O2 H3 _ r3 (s1.mono (g2.trans g3).ex p12) rx fun σ2 hw rs2 => ⟨hw, fun X' hX' => ?_⟩
    have hK : X'.K = X.K := by obtain ⟨_, _, _, _, _, rfl⟩ := hX'; rfl
    refine (q.turn i x O2 hx q2 X' hX' F B3 ρ2 σ2 H3 (hK ▸ r3) (hK ▸ rs2)).mono fun b H4 ⟨B4, ρ4, O4, g4, p4, r4, q4⟩ => ?_
    rw [hK] at r4
    cases b with
    | false =>
      simp only [Bool.false_eq_true, if_false]
      exact dn _ B4 ρ4 O4 H4 ((g2.trans g3).trans g4) (p2.trans p4) r4 (q4.2 rfl)
    | true =>
      simp only [if_true]
      intro X2 hX2
      have hK2 : X2.K = X.K := by obtain ⟨_, _, _, _, _, rfl⟩ := hX2; rfl
      have g := (g2.trans g3).trans g4
      have p := p2.trans p4
      refine (q4.1 rfl X2 hX2 F B4 ρ4 σ2 H4 (hK2 ▸ r4) (hK2 ▸ rs2.mono g4.ex p4)).mono fun u H5 ⟨B5, ρ5, w, O5, g5, p5, r5, rw5, acc, e1, e2, q5⟩ => ?_
      rw [hK2] at r5 rw5
      obtain ⟨a, vs, ho, f, h1, h2, h3, h4, h5, h6, h7, h8, h9⟩ := r5.get e1
      rw [hDρ _ (p.trans p5)] at h1
      cases h1
      rw [show ho = .lst vs from h3] at h2
      refine ⟨vs, h2, Nat.lt_of_lt_of_le (by rw [h4.length]; exact e2) (by decide), ?_⟩
      exact dn _ B5 ρ5 _ _ (g.trans g5) (p.trans p5) (h9 .lst (acc ++ [w]) (vs ++ [u]) _ f rfl (RWfs.append (RW.any rw5) h4) (fun _ z => z) h8) q5
  · have e : i = xs.length := by omega
    subst e
    refine .inl ⟨z2 (Nat.le_refl _), k _ _ ⟨B2, ρ2, .o O1.length, O2, g1.trans g2, p1.trans p12, r2, ?_, q.done O2 q2⟩⟩
    simp only [RWf]
    exact ⟨⟨D, hDρ _ p2, rfl⟩, trivial⟩
theorem pe_lcw (h : WI X tg iter σ O fun xs C O1 => ∃ σx P, TgOk X scope tg (own.map (·.2)) g σ xs σx ∧ LcI X scope ifs elt O1 xs σx C P Q) (hg : ∀ X', Blk X scope X' → PG X' tg g) (nd : X.N.Nodup) (ok : BlkOk X.N X.env.scope scope own) (hc : X.calm = true := by rfl)
    (hs : ∀ x, foldedSetIterable iter X.env x = pure x := by intro _; rfl) : WE X (.ListComp elt [⟨tg, iter, ifs, 0⟩] scope pos) σ O Q := fun F B ρ σc H r s =>
  SE.of (pe_lc (g := g) (tt := ttS X scope ifs) (te := teS X scope elt) hc nd pi_spi ok (fun s H C cl fp => hg _ ⟨s, H, C, cl, fp, rfl⟩) (fun s H C cl fp => ⟨fun pins s' σ H' Q I h => h _ ⟨s, H, C, cl, fp, rfl⟩ pins s' I⟩) (fun s H C cl fp => ⟨fun pins s' σ H' Q I h => h _ ⟨s, H, C, cl, fp, rfl⟩ pins s' I⟩) hs)
    (lc_read h r s fun _ _ z => z)
/-- name = [..] -/
theorem ws_lcw {E : EW} {n0 : Nat} {spos py : Pos} {y : Str} (i : Nat) (h : WI X tg iter σ O fun xs C O1 => ∃ σx P, TgOk X scope tg (own.map (·.2)) g σ xs σx ∧ LcI X scope ifs elt O1 xs σx C P fun w O' => E.nx (σ.set i (some w)) O') (hg : ∀ X', Blk X scope X' → PG X' tg g) (nd : X.N.Nodup) (ok : BlkOk X.N X.env.scope scope own)
    (hsw : swapsWith (.ListComp elt [⟨tg, iter, ifs, 0⟩] scope pos) (some (.Name y py)) spos.line X.env = pure true) (hy : X.N[i]? = some y := by rfl) (hyl : X.env.scope.names.lookup y = some .local := by rfl) (hc : X.calm = true := by rfl)
    (hs : ∀ x, foldedSetIterable iter X.env x = pure x := by intro _; rfl) : WS X n0 (.Assign [.Name y py] (.ListComp elt [⟨tg, iter, ifs, 0⟩] scope pos) spos) σ O E := fun F B0 ρ0 B ρ σc H e1 e2 e3 r s =>
  SS.of (ps_setLc (g := g) (tt := ttS X scope ifs) (te := teS X scope elt) hc nd hy hyl hsw pi_spi ok (fun s H C cl fp => hg _ ⟨s, H, C, cl, fp, rfl⟩) (fun s H C cl fp => ⟨fun pins s' σ H' Q I h => h _ ⟨s, H, C, cl, fp, rfl⟩ pins s' I⟩) (fun s H C cl fp => ⟨fun pins s' σ H' Q I h => h _ ⟨s, H, C, cl, fp, rfl⟩ pins s' I⟩) hs)
    (lc_read h r s fun v H' ⟨B1, ρ1, w, O1, g1, p1, r1, rw1, q⟩ => ⟨B1, ρ1, _, O1, e2.trans g1, e3.trans p1, r1, (s.mono g1.ex p1).set (RS1.of rw1), q⟩)
end

/-! ### defs and their calls -/
structure DefOk (P : Program) (w : World) (K : PySem.W.Frag) (mg : Str → Option Value) (base : Heap) (x : Str) (k : Nat) (S : FS) : Prop where
  ex : ∃ (f : Addr) (fd : FuncData) (ps : List Str) (sp : Sp) (ds : List Value) (dvs : List V), FnOk P w K mg base CX0 k f fd ps sp ∧ mg x = some (.ref f) ∧ PySem.W.keepIn K (.ref f) = true ∧ Binds K fd ps ds ∧ Vals dvs ds ∧ ∀ vs H Q E, lft K S vs H Q E → sp (vs ++ dvs) H Q E
/-- what a call by these arguments asks -/
def CallS (S : FS) (ws : List W) (O : Ob) (Q : W → Ob → Prop) : Prop := ∃ (sel : List Nat) (bor : Lent) (wc : List W) (Oc : Ob), Sees sel bor ws O wc Oc ∧ S wc Oc fun w Oc' => ImOk bor w Oc' ∧ Q (w.ren (rn sel O.length)) (mrg sel Oc' O)
theorem lft_call {K : PySem.W.Frag} {S : FS} {F B : Hp} {ρ : List Addr} {ws : List W} {vs : List V} {O : Ob} {H : Hp} {Q : W → Ob → Prop} {Qc : VK} {E : XK} (r : HR K B F ρ O H) (rw : RWs K B ρ B ws vs) (h : CallS S ws O Q) (k : ∀ v H', Post K F B ρ Q v H' → Qc v H') : lft K S vs H Qc E := by
  obtain ⟨sel, bor, wc, Oc, sees, hS⟩ := h
  obtain ⟨Fc, Bc, ρc, r', args, back⟩ := call_frame r sees
  exact ⟨Fc, Bc, ρc, wc, Oc, _, r', args vs rw, hS, fun v H' z => k v H' (back Q v H' z)⟩
section
variable {X : Cx} {σ : List (Option W)} {O : Ob} {Q : W → Ob → Prop} {pos p : Pos} {e : Expr} {es : List Expr} {x : Str} {k : Nat} {S : FS}
theorem we_call (D : DefOk X.prog X.w X.K X.mg X.base x k S) (hr : Room k X.A) (h : WA X (e :: es) σ O fun ws O1 => CallS S ws O1 Q) (hg : Gl X x := by rfl) (hdb : (x == ("__debug__" : Str)) = false := by decide)
    (he : starEach (e :: es) X.env = (false, eval e X.env) :: starEach es X.env := by rfl) (hpl : (backTo pos (starEach es X.env)).any (·.1) = false := by rfl) : WE X (.Call (.Name x p) (e :: es) [] pos) σ O Q := fun F B ρ σc H r s => by
  obtain ⟨f, fd, ps, sp, ds, dvs, hF, hm, hk, hb, hd, hsp⟩ := D.ex
  refine SE.of (pe_call hF hr hg hm hk hb hd pass0 pa_sa (hdb := hdb) (he := he) (hpl := hpl)) (h.then r s fun B1 ρ1 ws O1 vs H1 g1 p1 r1 s1 rw1 q => ?_)
  exact hsp _ _ _ _ (lft_call r1 rw1 q fun v H' z => z.back g1 p1)
theorem we_call0 (D : DefOk X.prog X.w X.K X.mg X.base x k S) (hr : Room k X.A) (h : CallS S [] O Q) (hg : Gl X x := by rfl) (hdb : (x == ("__debug__" : Str)) = false := by decide) : WE X (.Call (.Name x p) [] [] pos) σ O Q := fun F B ρ σc H r s => by
  obtain ⟨f, fd, ps, sp, ds, dvs, hF, hm, hk, hb, hd, hsp⟩ := D.ex
  exact SE.of (pe_call0 hF hr hg hm hk hb hd pass0 (hdb := hdb)) (hsp [] _ _ _ (lft_call r rws_nil h fun v H' z => z))
end
def startW (N : List Str) (ws : List W) : List (Option W) := ws.map some ++ List.replicate (N.length - ws.length) none
theorem rs_repl {K : PySem.W.Frag} {B : Hp} {ρ : List Addr} : ∀ n : Nat, RS K B ρ (List.replicate n none) (List.replicate n none)
  | 0 => rfl
  | n + 1 => ⟨none, _, rfl, rfl, rs_repl n⟩
theorem rs_start {K : PySem.W.Frag} {B : Hp} {ρ : List Addr} (n : Nat) : ∀ {ws : List W} {vs : List V}, RWs K B ρ B ws vs → RS K B ρ (ws.map some ++ List.replicate n none) (vs.map some ++ List.replicate n none)
  | [], vs, h => by
    simp only [RWfs] at h
    rw [h.1]
    exact rs_repl n
  | w :: ws, vs, h => by
    simp only [RWfs] at h
    obtain ⟨v, r, f1, f2, rfl, e, h3, h4⟩ := h
    obtain ⟨rfl, rfl⟩ := app_nil e
    exact ⟨some v, _, rfl, RS1.of h3, rs_start n h4⟩
/-- THE RULE for a def -/
theorem fn_wp {P : Program} {w : World} {K : PySem.W.Frag} {mg : Str → Option Value} {base : Heap} {x qual : Str} {st : Stmt} {f : Addr} {fd : FuncData} {N ps : List Str} {k : Nat} {S : FS} (Fn : Fun K x qual st f fd) (Sc : FnScope N ps (defScope st))
    (len : ∀ ws O Q, S ws O Q → ws.length = ps.length)
    (body : ∀ (cdv : Value) (A : Around) (outer : List Env) (s : Shared) (H : Hp) (E : XK) (ws : List W) (O : Ob) (Q : W → Ob → Prop), Room k (A.deeper (PyProof.Rows.envOfC qual (defScope st) s.heap.objs.size f cdv)) → S ws O Q →
      WSs (cxOf CX0 P w K mg base N qual (defScope st) f cdv A outer s H E).nox O.length (defBody st) (startW N ws) O ⟨fun _ O' => Q (.d (.s .non)) O', Q, fun _ _ => False, fun _ _ => False⟩) : FnOk P w K mg base CX0 (k + 1) f fd ps (lft K S) := by
  refine Fn.ok Sc (fun vs H Q E h => ?_) (fun cdv A outer s H vs Q E hr h => ?_)
  · obtain ⟨F, B, ρ, ws, O, Qw, r, rw, hS, _⟩ := h
    rw [rw.length, len _ _ _ hS]
  · obtain ⟨F, B, ρ, ws, O, Qw, r, rw, hS, back⟩ := h
    refine ⟨_, pss_sss, ?_⟩
    have rs : RS K B ρ (startW N ws) (L2.start N vs) := by
      unfold startW L2.start
      rw [rw.length]
      exact rs_start _ rw
    refine (body cdv A outer s H E ws O Qw hr hS F B ρ B ρ _ H r.len Gr.refl (List.prefix_refl _) r rs).mono ⟨fun σ' H' z => ?_, fun v H' z => ?_, fun σ' H' z => ?_, fun σ' H' z => ?_⟩
    · obtain ⟨B1, ρ1, σ1, O1, g1, p1, r1, s1, q1⟩ := z
      exact back _ _ ⟨B1, ρ1, _, O1, g1, p1, r1, rd_s, q1⟩
    · obtain ⟨B1, ρ1, w1, O1, g1, p1, r1, rw1, q1⟩ := z
      exact back _ _ ⟨B1, ρ1, _, O1, g1, p1, r1, rw1, q1⟩
    · obtain ⟨B1, ρ1, w1, O1, g1, p1, r1, rw1, q1⟩ := z
      exact q1.elim
    · obtain ⟨B1, ρ1, w1, O1, g1, p1, r1, rw1, q1⟩ := z
      exact q1.elim
/-- a def as it stands, for its callers (no defaults) -/
theorem def_ok {P : Program} {w : World} {K : PySem.W.Frag} {mg : Str → Option Value} {base : Heap} {x : Str} {f : Addr} {fd : FuncData} {ps : List Str} {k : Nat} {S : FS} (F : FnOk P w K mg base CX0 k f fd ps (lft K S)) (hm : mg x = some (.ref f)) (hk : PySem.W.keepIn K (.ref f) = true) (hb : Binds K fd ps []) : DefOk P w K mg base x k S :=
  ⟨f, fd, ps, _, [], [], F, hm, hk, hb, .nil, fun vs H Q E h => by rw [List.append_nil]; exact h⟩
end Vf

/-! Vf7: operations on values. -/
namespace Vf
open PySem L2 Evl

section
variable {X : Cx} {O : Ob} {Q : W → Ob → Prop} {K : PySem.W.Frag} {B F H : Hp} {ρ : List Addr}
theorem rw_s {v u : V} (h : RW K B ρ H (.d (.s v)) u) : u = v := by simp only [RWf, RD] at h; exact h.1
theorem rw_s1 {v : V} {us : List V} (h : RWs K B ρ H [.d (.s v)] us) : us = [v] := by
  simp only [RWfs, RWf, RD] at h
  obtain ⟨_, _, _, _, rfl, _, ⟨rfl, _⟩, rfl, _⟩ := h
  rfl
theorem rw_s2 {v w : V} {us : List V} (h : RWs K B ρ H [.d (.s v), .d (.s w)] us) : us = [v, w] := by
  simp only [RWfs, RWf, RD] at h
  obtain ⟨_, _, _, _, rfl, _, ⟨rfl, _⟩, _, _, _, _, rfl, _, ⟨rfl, _⟩, rfl, _⟩ := h
  rfl
theorem rw_1 {w : W} {us : List V} (h : RWs K B ρ H [w] us) : ∃ v, us = [v] ∧ RW K B ρ H w v := by
  simp only [RWfs] at h
  obtain ⟨v, r, f1, f2, rfl, e, h3, rfl, _⟩ := h
  obtain ⟨rfl, _⟩ := app_nil e
  exact ⟨v, rfl, h3⟩
theorem rw_2 {w w' : W} {us : List V} (h : RWs K B ρ H [w, w'] us) : ∃ v v', us = [v, v'] ∧ RW K B ρ H w v ∧ RW K B ρ H w' v' := by
  rw [RWs, RWfs] at h
  obtain ⟨v, r, f1, f2, rfl, e, h3, h4⟩ := h
  obtain ⟨rfl, rfl⟩ := app_nil e
  obtain ⟨v', rfl, h5⟩ := rw_1 h4
  exact ⟨v, v', rfl, h3, h5⟩
theorem rw_o {n : Nat} {u : V} (h : RW K B ρ H (.o n) u) : ∃ a, ρ[n]? = some a ∧ u = .ref a := by simp only [RWf] at h; exact h.1
/-- a list that is owned -/
theorem HR.lst {n : Nat} {ws : List W} (r : HR K B F ρ O H) (e : O[n]? = some (some (.lst, ws))) {u : V} (h : RW K B ρ B (.o n) u) : ∃ a vs f, u = .ref a ∧ H a = some (.lst vs) ∧ RWfs K B ρ H ws vs f ∧ f.Nodup ∧
    ∀ (ws' : List W) (vs' : List V) (f' : List Addr), RWfs K B ρ H ws' vs' f' → (∀ b ∈ f', b ∈ f) → f'.Nodup → HR K B F ρ (O.set n (some (.lst, ws'))) (upd H a (.lst vs')) := by
  obtain ⟨a, h1, h2⟩ := rw_o h
  obtain ⟨a', vs, ho, f, q1, q2, q3, q4, q5, q6, q7, q8, q9⟩ := r.get e
  rw [h1] at q1
  cases q1
  rw [show ho = .lst vs from q3] at q2
  exact ⟨a, vs, f, h2, q2, q4, q8, fun ws' vs' f' i1 i2 i3 => q9 .lst ws' vs' _ f' rfl i1 i2 i3⟩
theorem HR.lstD {n : Nat} {xs : List D} (r : HR K B F ρ O H) (e : O[n]? = some (some (.lst, xs.map .d))) {u : V} (h : RW K B ρ B (.o n) u) : ∃ a vs, u = .ref a ∧ H a = some (.lst vs) ∧ RDs K B xs vs ∧
    ∀ (ws' : List W) (vs' : List V), RWs K B ρ H ws' vs' → HR K B F ρ (O.set n (some (.lst, ws'))) (upd H a (.lst vs')) := by
  obtain ⟨a, vs, f, h1, h2, h3, _, h4⟩ := r.lst e h
  exact ⟨a, vs, h1, h2, (rds_of_rws h3).1, fun ws' vs' i => h4 ws' vs' [] i (fun _ z => by cases z) List.nodup_nil⟩

/-! ints -/
theorem o2_addI {i j : Int} (q : Q (.d (dI (i + j))) O) : O2 X (binaryOp .Add) (.d (dI i)) (.d (dI j)) O Q := fun F B ρ a b H r h1 h2 => S2.of op_add ⟨i, j, rw_s h1, rw_s h2, Post.here r rd_s q⟩
theorem o2_subI {i j : Int} (q : Q (.d (dI (i - j))) O) : O2 X (binaryOp .Sub) (.d (dI i)) (.d (dI j)) O Q := fun F B ρ a b H r h1 h2 => S2.of op_sub ⟨i, j, rw_s h1, rw_s h2, Post.here r rd_s q⟩
theorem o2_mulI {i j : Int} (c : CMul i j) (q : Q (.d (dI (i * j))) O) : O2 X (binaryOp .Mult) (.d (dI i)) (.d (dI j)) O Q := fun F B ρ a b H r h1 h2 => S2.of op_mul ⟨i, j, rw_s h1, rw_s h2, c, Post.here r rd_s q⟩
theorem o2_divI {i j : Int} (c : j ≠ 0 ∧ j.natAbs < 1073741824) (q : Q (.d (dI (i.fdiv j))) O) : O2 X (binaryOp .FloorDiv) (.d (dI i)) (.d (dI j)) O Q := fun F B ρ a b H r h1 h2 => S2.of op_fdivN ⟨i, j, rw_s h1, rw_s h2, c, Post.here r rd_s q⟩
theorem o2_modI {i j : Int} (c : j ≠ 0) (q : Q (.d (dI (i.fmod j))) O) : O2 X (binaryOp .Mod) (.d (dI i)) (.d (dI j)) O Q := fun F B ρ a b H r h1 h2 => S2.of op_modN ⟨i, j, rw_s h1, rw_s h2, c, Post.here r rd_s q⟩
theorem o2_powI {i j : Int} (c : CPow i j) (q : Q (.d (dI (i ^ j.toNat))) O) : O2 X (binaryOp .Pow) (.d (dI i)) (.d (dI j)) O Q := fun F B ρ a b H r h1 h2 => S2.of op_pow ⟨i, j, rw_s h1, rw_s h2, c, Post.here r rd_s q⟩
theorem o2_lt {i j : Int} (q : Q (.d (dB (decide (i < j)))) O) : O2 X (compareOp .Lt) (.d (dI i)) (.d (dI j)) O Q := fun F B ρ a b H r h1 h2 => S2.of op_lt ⟨i, j, rw_s h1, rw_s h2, Post.here r rd_s q⟩
theorem o2_le {i j : Int} (q : Q (.d (dB (decide (i ≤ j)))) O) : O2 X (compareOp .LtE) (.d (dI i)) (.d (dI j)) O Q := fun F B ρ a b H r h1 h2 => S2.of op_le ⟨i, j, rw_s h1, rw_s h2, Post.here r rd_s q⟩
theorem o2_gt {i j : Int} (q : Q (.d (dB (decide (j < i)))) O) : O2 X (compareOp .Gt) (.d (dI i)) (.d (dI j)) O Q := fun F B ρ a b H r h1 h2 => S2.of op_gt ⟨i, j, rw_s h1, rw_s h2, Post.here r rd_s q⟩
theorem o2_ge {i j : Int} (q : Q (.d (dB (decide (j ≤ i)))) O) : O2 X (compareOp .GtE) (.d (dI i)) (.d (dI j)) O Q := fun F B ρ a b H r h1 h2 => S2.of op_ge ⟨i, j, rw_s h1, rw_s h2, Post.here r rd_s q⟩
theorem o2_eq {x y : V} (hs : scal x y = true) (q : Q (.d (dB (decide (x = y)))) O) : O2 X (compareOp .Eq) (.d (.s x)) (.d (.s y)) O Q := fun F B ρ a b H r h1 h2 => S2.of op_eq (by rw [rw_s h1, rw_s h2]; exact ⟨hs, Post.here r rd_s q⟩)
theorem o2_ne {x y : V} (hs : scal x y = true) (q : Q (.d (dB (!decide (x = y)))) O) : O2 X (compareOp .NotEq) (.d (.s x)) (.d (.s y)) O Q := fun F B ρ a b H r h1 h2 => S2.of op_ne (by rw [rw_s h1, rw_s h2]; exact ⟨hs, Post.here r rd_s q⟩)
theorem dec_int {i j : Int} : decide (V.int i = V.int j) = decide (i = j) := by
  by_cases h : i = j
  · rw [h]; simp
  · rw [decide_eq_false h, decide_eq_false fun z => h (V.int.inj z)]
theorem dec_str {i j : Str} : decide (V.str i = V.str j) = decide (i = j) := by
  by_cases h : i = j
  · rw [h]; simp
  · rw [decide_eq_false h, decide_eq_false fun z => h (V.str.inj z)]
theorem o2_eqI {i j : Int} (q : Q (.d (dB (decide (i = j)))) O) : O2 X (compareOp .Eq) (.d (dI i)) (.d (dI j)) O Q := o2_eq rfl (by rw [dec_int]; exact q)
theorem o2_neI {i j : Int} (q : Q (.d (dB (!decide (i = j)))) O) : O2 X (compareOp .NotEq) (.d (dI i)) (.d (dI j)) O Q := o2_ne rfl (by rw [dec_int]; exact q)
theorem o2_eqS {i j : Str} (q : Q (.d (dB (decide (i = j)))) O) : O2 X (compareOp .Eq) (.d (dS i)) (.d (dS j)) O Q := o2_eq rfl (by rw [dec_str]; exact q)
theorem o2_neS {i j : Str} (q : Q (.d (dB (!decide (i = j)))) O) : O2 X (compareOp .NotEq) (.d (dS i)) (.d (dS j)) O Q := o2_ne rfl (by rw [dec_str]; exact q)
theorem o1_neg {i : Int} (q : Q (.d (dI (-i))) O) : Vf.O1 X (unaryOp .USub) (.d (dI i)) O Q := fun F B ρ a H r h1 => S1.of un_neg ⟨i, rw_s h1, Post.here r rd_s q⟩
theorem o2_addS {i j : Str} (hl : i.length + j.length ≤ sizeLine) (q : Q (.d (dS (i ++ j))) O) : O2 X (binaryOp .Add) (.d (dS i)) (.d (dS j)) O Q := fun F B ρ a b H r h1 h2 => S2.of op_add_str ⟨i, j, rw_s h1, rw_s h2, hl, Post.here r rd_s q⟩
/-! calls -/
theorem oc_intI {i : Int} (q : Q (.d (dI i)) O) : OC X (.type "int") [.d (dI i)] O Q := fun F B ρ as H r h => SC.of call_int1 (.inl ⟨i, rw_s1 h, Post.here r rd_s q⟩)
theorem oc_intB {i : Bool} (q : Q (.d (dI (if i then 1 else 0))) O) : OC X (.type "int") [.d (dB i)] O Q := fun F B ρ as H r h => SC.of call_int1 (.inr ⟨i, rw_s1 h, Post.here r rd_s q⟩)
theorem oc_max2 {i j : Int} (hc : X.calm = true := by rfl) (q : Q (.d (dI (if j > i then j else i))) O) : OC X (.builtin "max") [.d (dI i), .d (dI j)] O Q := fun F B ρ as H r h => SC.of (call_max2 hc) ⟨i, j, rw_s2 h, Post.here r rd_s q⟩
theorem oc_min2 {i j : Int} (hc : X.calm = true := by rfl) (q : Q (.d (dI (if j < i then j else i))) O) : OC X (.builtin "min") [.d (dI i), .d (dI j)] O Q := fun F B ρ as H r h => SC.of (call_min2 hc) ⟨i, j, rw_s2 h, Post.here r rd_s q⟩
theorem oc_lenL {w : W} {xs : List D} (a : AsD w xs O) (q : Q (.d (dI (xs.length : Int))) O) : OC X (.builtin "len") [w] O Q := fun F B ρ as H r h => by
  obtain ⟨v, rfl, h1⟩ := rw_1 h
  obtain ⟨p, vs, rfl, hq, rd⟩ := a.sq r h1
  exact SC.of call_len_seq ⟨p, vs, rfl, .inl hq, by rw [rd.length]; exact Post.here r rd_s q⟩
theorem oc_lenT {w : W} {ws : List W} (a : AsT w ws) (q : Q (.d (dI (ws.length : Int))) O) : OC X (.builtin "len") [w] O Q := fun F B ρ as H r h => by
  obtain ⟨v, rfl, h1⟩ := rw_1 h
  obtain ⟨p, vs, rfl, hq, rd⟩ := a.sq h1
  exact SC.of call_len_seq ⟨p, vs, rfl, .inr (st_of (r.exB _ _ hq)), by rw [rd.length]; exact Post.here r rd_s q⟩
theorem oc_lenS {x : Str} (hl : x.length ≤ sizeLine) (q : Q (.d (dI (x.length : Int))) O) : OC X (.builtin "len") [.d (dS x)] O Q := fun F B ρ as H r h => by
  rw [rw_s1 h]
  exact SC.of call_len_str ⟨x, rfl, hl, Post.here r rd_s q⟩
/-- list(xs): a new list -/
theorem oc_listL {w : W} {xs : List D} (a : AsD w xs O) (q : Q (.o O.length) (O ++ [some (.lst, xs.map .d)])) : OC X (.type "list") [w] O Q := fun F B ρ as H r h => by
  obtain ⟨v, rfl, h1⟩ := rw_1 h
  obtain ⟨p, vs, rfl, hq, rd⟩ := a.sq r h1
  exact SC.of call_list_of ⟨p, vs, rfl, .inl hq, fun l hl => ⟨B, ρ ++ [l], _, _, Gr.refl, List.prefix_append _ _, r.new (h := .lst) hl rfl (rws_of_rds rd), rw_new r.len, q⟩⟩
/-- tuple(xs) of a list -/
theorem oc_tupL {w : W} {xs : List D} (a : AsD w xs O) (q : Q (.d (.t xs)) O) : OC X (.type "tuple") [w] O Q := fun F B ρ as H r h => by
  obtain ⟨v, rfl, h1⟩ := rw_1 h
  obtain ⟨p, vs, rfl, hq, rd⟩ := a.sq r h1
  refine SC.of call_tuple_of ⟨p, vs, rfl, .inl ⟨hq, fun l hl => ?_⟩⟩
  obtain ⟨r2, g2⟩ := r.frz (ho := .tup vs) hl
  exact ⟨_, ρ, _, O, g2, List.prefix_refl _, r2, rw_d (by simp only [RD]; exact ⟨l, vs, rfl, upd_same, RDs.mono g2.ex _ _ rd⟩), q⟩
/-! subscripts -/
theorem atI_rd {xs : List D} {vs : List V} {i : Int} {x : D} (rd : RDs K B xs vs) (e : atI xs i = some x) : ∃ v, atI vs i = some v ∧ RD K B x v := by
  unfold atI at e ⊢
  rw [rd.length]
  cases h : ixN xs.length i with
  | none => rw [h] at e; cases e
  | some j =>
    rw [h] at e
    have e' : xs[j]? = some x := e
    show ∃ v, vs[j]? = some v ∧ _
    have hj : j < vs.length := by rw [rd.length]; exact (List.getElem?_eq_some_iff.mp e').1
    obtain ⟨y, h1, h2⟩ := rd.get (List.getElem?_eq_getElem hj)
    rw [e'] at h1
    cases h1
    exact ⟨_, List.getElem?_eq_getElem hj, h2⟩
theorem oi_lst {w : W} {xs : List D} {i : Int} {x : D} (a : AsD w xs O) (e : atI xs i = some x) (q : Q (.d x) O) : OI X w (.d (dI i)) O Q := fun F B ρ u v H r h1 h2 => by
  obtain ⟨p, vs, rfl, hq, rd⟩ := a.sq r h1
  obtain ⟨z, ez, rz⟩ := atI_rd rd e
  exact SI.of ix_list ⟨p, vs, i, z, rfl, rw_s h2, hq, ez, Post.here r (rw_d rz) q⟩
theorem rws_get {ws : List W} {vs : List V} {fp : List Addr} : RWfs K B ρ H ws vs fp → fp = [] → ∀ {j : Nat} {w : W}, ws[j]? = some w → ∃ v, vs[j]? = some v ∧ RW K B ρ H w v := by
  induction ws generalizing vs fp with
  | nil => intro _ _ j w e; simp at e
  | cons w ws ih =>
    intro h hf j u e
    simp only [RWfs] at h
    obtain ⟨v, r, f1, f2, rfl, rfl, h3, h4⟩ := h
    obtain ⟨rfl, rfl⟩ := app_nil hf.symm
    cases j with
    | zero => simp at e; subst e; exact ⟨v, rfl, h3⟩
    | succ j => simpa using ih h4 rfl (j := j) (by simpa using e)
theorem atI_rw {ws : List W} {vs : List V} {i : Int} {w : W} (rw' : RWs K B ρ H ws vs) (e : atI ws i = some w) : ∃ v, atI vs i = some v ∧ RW K B ρ H w v := by
  unfold atI at e ⊢
  rw [rw'.length]
  cases h : ixN ws.length i with
  | none => rw [h] at e; cases e
  | some j =>
    rw [h] at e
    exact rws_get rw' rfl (j := j) e
theorem oi_tup {w : W} {ws : List W} {i : Int} {x : W} (a : AsT w ws) (e : atI ws i = some x) (q : Q x O) : OI X w (.d (dI i)) O Q := fun F B ρ u v H r h1 h2 => by
  obtain ⟨p, vs, rfl, hq, rd⟩ := a.sq h1
  obtain ⟨z, ez, rz⟩ := atI_rw rd e
  exact SI.of ix_tup ⟨p, vs, i, z, rfl, rw_s h2, st_of (r.exB _ _ hq), ez, Post.here r rz q⟩
theorem oi_str {z : Str} {i : Int} {c : Nat} (hl : z.length ≤ sizeLine) (e : atI z.cps.toList i = some c) (q : Q (.d (dS ⟨#[c]⟩)) O) : OI X (.d (dS z)) (.d (dI i)) O Q := fun F B ρ u v H r h1 h2 =>
  SI.of ix_str ⟨z, i, c, rw_s h1, rw_s h2, hl, e, Post.here r rd_s q⟩
/-- xs[i] = x, xs owned -/
theorem rds_set {xs : List D} {vs : List V} {j : Nat} {x : D} {v : V} (rd : RDs K B xs vs) (h : RD K B x v) : RDs K B (xs.set j x) (vs.set j v) := by
  induction xs generalizing vs j with
  | nil => simp only [RDs] at rd; subst rd; simp only [List.set_nil, RDs]
  | cons y ys ih =>
    simp only [RDs] at rd
    obtain ⟨u, r, rfl, h2, h3⟩ := rd
    cases j with
    | zero => simp only [List.set_cons_zero, RDs]; exact ⟨v, r, rfl, h, h3⟩
    | succ j => simp only [List.set_cons_succ, RDs]; exact ⟨u, _, rfl, h2, ih h3⟩
theorem os_lst {n : Nat} {xs : List D} {i : Int} {j : Nat} {x : D} {Q : Ob → Prop} (e : O[n]? = some (some (.lst, xs.map .d))) (hj : ixN xs.length i = some j) (q : Q (O.set n (some (.lst, (xs.set j x).map .d)))) : OSet X (.o n) (.d (dI i)) (.d x) O Q := fun F B ρ a b c H r h1 h2 h3 => by
  obtain ⟨p, vs, rfl, hp, rd, k⟩ := r.lstD e h1
  refine SSet.of set_list ⟨p, vs, i, j, rfl, rw_s h2, hp, by rw [rd.length]; exact hj, ?_⟩
  have h3' : RD X.K B x c := by simp only [RWf] at h3; exact h3.1
  exact ⟨B, _, Gr.refl, k _ _ (rws_of_rds (rds_set rd h3')), q⟩
/-! list methods -/
theorem ty_lst {w : W} {xs : List D} (a : AsD w xs O) : Ty K "list" w O := fun F B ρ u H r h => by
  obtain ⟨p, vs, rfl, hq, _⟩ := a.sq r h
  exact Or.inl ⟨rfl, _, hq⟩
theorem ty_lstW {n : Nat} {ws : List W} (e : O[n]? = some (some (.lst, ws))) : Ty K "list" (.o n) O := fun F B ρ u H r h => by
  obtain ⟨a, vs, f, rfl, h2, _⟩ := r.lst e h
  exact Or.inl ⟨rfl, _, sq_of h2⟩
theorem ty_str {x : Str} : Ty K "str" (.d (dS x)) O := fun F B ρ u H r h => by rw [rw_s h]; rfl
theorem om_append {n : Nat} {ws : List W} {w : W} (e : O[n]? = some (some (.lst, ws))) (hl : ws.length < sizeLine) (q : Q (.d dN) (O.set n (some (.lst, ws ++ [w])))) : OM X "list" "list.append" (.o n) [w] O Q := fun F B ρ a as H r h1 h2 => by
  obtain ⟨p, vs, f, rfl, hp, h3, nf, k⟩ := r.lst e h1
  obtain ⟨v, rfl, h4⟩ := rw_1 h2
  refine SM.of mt_append ⟨p, vs, v, rfl, rfl, hp, by rw [h3.length]; exact hl, ?_⟩
  exact ⟨B, ρ, _, _, Gr.refl, List.prefix_refl _, k _ _ f (RWfs.append (RW.any h4) h3) (fun _ z => z) nf, rd_s, q⟩
end
end Vf
namespace Vf
open PySem L2 Evl
section
variable {X : Cx} {O : Ob} {Q : W → Ob → Prop} {K : PySem.W.Frag} {B F H : Hp} {ρ : List Addr}
theorem o2_mulL {i j : Int} (h1 : -18446744073709551616 < i) (h2 : i < 18446744073709551616) (q : Q (.d (dI (i * j))) O) : O2 X (binaryOp .Mult) (.d (dI i)) (.d (dI j)) O Q := o2_mulI (.inl ⟨by simpa using h1, by simpa using h2⟩) q
theorem o2_mulR {i j : Int} (h1 : -18446744073709551616 < j) (h2 : j < 18446744073709551616) (q : Q (.d (dI (i * j))) O) : O2 X (binaryOp .Mult) (.d (dI i)) (.d (dI j)) O Q := o2_mulI (.inr ⟨by simpa using h1, by simpa using h2⟩) q
theorem o2_divP {i j : Int} (h1 : 0 < j) (h2 : j < 1073741824) (q : Q (.d (dI (i.fdiv j))) O) : O2 X (binaryOp .FloorDiv) (.d (dI i)) (.d (dI j)) O Q := o2_divI (by omega) q
theorem o2_modP {i j : Int} (h1 : 0 < j) (q : Q (.d (dI (i.fmod j))) O) : O2 X (binaryOp .Mod) (.d (dI i)) (.d (dI j)) O Q := o2_modI (by omega) q
theorem fmod_b {i m : Int} (h : 0 < m) : 0 ≤ i.fmod m ∧ i.fmod m < m := by
  rw [Int.fmod_eq_emod_of_nonneg i (Int.le_of_lt h)]
  exact ⟨Int.emod_nonneg i (Int.ne_of_gt h), Int.emod_lt_of_pos i h⟩
/-- a test that leaves the objects as they are -/
theorem wt_ev {σ : List (Option W)} {c : Expr} {b : Bool} {Q : Bool → Ob → Prop} (h : WT X c σ O fun k O' => k = b ∧ O' = O) (q : Q b O) : WT X c σ O Q := h.mono fun k O' ⟨h1, h2⟩ => by rw [h1, h2]; exact q
theorem ev_and {σ : List (Option W)} {c d : Expr} {rest : List Expr} {a b : Bool} {pos : Pos} (h : WT X c σ O fun k O' => k = a ∧ O' = O) (h2 : a = true → WW X (.BoolOp .And (d :: rest) pos) σ O fun k O' => k = b ∧ O' = O) : WW X (.BoolOp .And (c :: d :: rest) pos) σ O fun k O' => k = (a && b) ∧ O' = O :=
  ww_and (h.mono fun k O' ⟨h3, h4⟩ => by
    subst h3; subst h4
    exact ⟨fun e => by rw [e] at h2 ⊢; exact h2 rfl, fun e => by rw [e]; exact ⟨rfl, rfl⟩⟩)
theorem ev_or {σ : List (Option W)} {c d : Expr} {rest : List Expr} {a b : Bool} {pos : Pos} (h : WT X c σ O fun k O' => k = a ∧ O' = O) (h2 : a = false → WW X (.BoolOp .Or (d :: rest) pos) σ O fun k O' => k = b ∧ O' = O) : WW X (.BoolOp .Or (c :: d :: rest) pos) σ O fun k O' => k = (a || b) ∧ O' = O :=
  ww_or (h.mono fun k O' ⟨h3, h4⟩ => by
    subst h3; subst h4
    exact ⟨fun e => by rw [e] at h2 ⊢; exact h2 rfl, fun e => by rw [e]; exact ⟨rfl, rfl⟩⟩)
/-! slices -/
def WO (X : Cx) (e : Option Expr) (σ : List (Option W)) (O : Ob) (Q : Option Int → Ob → Prop) : Prop :=
  ∀ F B ρ σc H, HR X.K B F ρ O H → RS X.K B ρ σ σc → ∃ t, PO X e t ∧ t σc H fun i H' => ∃ B' ρ' O', Gr F B B' ∧ ρ <+: ρ' ∧ HR X.K B' F ρ' O' H' ∧ Q i O'
def SO (X : Cx) (e : Option Expr) : TO := fun σ H Q => ∀ pins s, Inv X pins σ H s → wpAny (model X.prog X.w) X.A (evalPart e X.env) (fun u s' => ∃ o H', Inv X pins σ H' s' ∧ IsPart u o ∧ Q o H') X.xe s
theorem po_so {e : Option Expr} : PO X e (SO X e) := ⟨fun pins s _ _ _ I h => h pins s I⟩
theorem WO.then {e : Option Expr} {σ : List (Option W)} {Q : Option Int → Ob → Prop} {R : Option Int → Hp → Prop} {σc : L2.St} (h : WO X e σ O Q) (r : HR X.K B F ρ O H) (s : RS X.K B ρ σ σc)
    (k : ∀ B1 ρ1 b O1 H1, Gr F B B1 → ρ <+: ρ1 → HR X.K B1 F ρ1 O1 H1 → RS X.K B1 ρ1 σ σc → Q b O1 → R b H1) : SO X e σc H R := fun pins st I => by
  obtain ⟨t, h1, h2⟩ := h F B ρ σc H r s
  exact thn (h1.run pins st σc H _ I h2) fun u s' ⟨o, H', I', ip, B', ρ', O', g, p, r', q⟩ => ⟨o, H', I', ip, k B' ρ' o O' H' g p r' (s.mono g.ex p) q⟩
theorem wo_none {σ : List (Option W)} {Q : Option Int → Ob → Prop} (q : Q none O) : WO X none σ O Q := fun F B ρ σc H r s => ⟨_, po_none, B, ρ, O, Gr.refl, List.prefix_refl _, r, q⟩
theorem wo_some {e : Expr} {σ : List (Option W)} {Q : Option Int → Ob → Prop} (h : WE X e σ O fun w O' => ∃ i, w = .d (dI i) ∧ Q (some i) O') : WO X (some e) σ O Q := fun F B ρ σc H r s =>
  ⟨_, po_some pe_se, h.then r s fun B1 ρ1 w O1 v H1 g1 p1 r1 s1 rw1 ⟨i, e, q⟩ => by
    subst e
    exact ⟨i, rw_s rw1, B1, ρ1, O1, g1, p1, r1, q⟩⟩
def OSl (X : Cx) (x : W) (lo hi : Option Int) (O : Ob) (Q : W → Ob → Prop) : Prop := ∃ r, SlR X r ∧ ∀ F B ρ a H, HR X.K B F ρ O H → RW X.K B ρ B x a → ∀ Qc : VK, (∀ v H', Post X.K F B ρ Q v H' → Qc v H') → r a lo hi H Qc
theorem we_slice {e : Expr} {lo hi : Option Expr} {σ : List (Option W)} {pos p2 : Pos} {r0 : V → Option Int → Option Int → Hp → VK → Prop} (hr : SlR X r0)
    (h : WE X e σ O fun x O1 => WO X lo σ O1 fun l O2 => WO X hi σ O2 fun u O3 => ∀ F B ρ a H, HR X.K B F ρ O3 H → RW X.K B ρ B x a → ∀ Qc : VK, (∀ v H', Post X.K F B ρ Q v H' → Qc v H') → r0 a l u H Qc) : WE X (.Subscript e (.Slice lo hi none p2) pos) σ O Q := fun F B ρ σc H r s =>
  SE.of (pe_slice hr pe_se po_so po_so) (h.then r s fun B1 ρ1 w O1 v H1 g1 p1 r1 s1 rw1 h1 => h1.then r1 s1 fun B2 ρ2 l O2 H2 g2 p2 r2 s2 h2 => h2.then r2 s2 fun B3 ρ3 u O3 H3 g3 p3 r3 s3 h3 =>
    h3 F B3 ρ3 v H3 r3 (RW.mono' (g2.trans g3).ex (p2.trans p3) rw1) _ fun v H' z => z.back ((g1.trans g2).trans g3) ((p1.trans p2).trans p3))
def cutD (xs : List D) (lo hi : Option Int) : List D := (xs.drop (HT.sIx xs.length 0 lo)).take (HT.sIx xs.length xs.length hi - HT.sIx xs.length 0 lo)
theorem rds_drop : ∀ {n : Nat} {xs : List D} {vs : List V}, RDs K B xs vs → RDs K B (xs.drop n) (vs.drop n)
  | 0, _, _, h => h
  | n + 1, [], vs, h => by simp only [RDs] at h; subst h; simp only [List.drop_nil, RDs]
  | n + 1, x :: xs, vs, h => by
    simp only [RDs] at h
    obtain ⟨v, r, rfl, h2, h3⟩ := h
    exact rds_drop (n := n) h3
theorem rds_take : ∀ {n : Nat} {xs : List D} {vs : List V}, RDs K B xs vs → RDs K B (xs.take n) (vs.take n)
  | 0, _, _, _ => by simp only [List.take_zero, RDs]
  | n + 1, [], vs, h => by simp only [RDs] at h; subst h; simp only [List.take_nil, RDs]
  | n + 1, x :: xs, vs, h => by
    simp only [RDs] at h
    obtain ⟨v, r, rfl, h2, h3⟩ := h
    simp only [List.take_succ_cons, RDs]
    exact ⟨v, _, rfl, h2, rds_take h3⟩
theorem cutV_rd {xs : List D} {vs : List V} (rd : RDs K B xs vs) (lo hi : Option Int) : RDs K B (cutD xs lo hi) (cutV vs lo hi) := by
  unfold cutD cutV
  rw [rd.length]
  exact rds_take (rds_drop rd)
theorem rds_append : ∀ {xs ys : List D} {vs us : List V}, RDs K B xs vs → RDs K B ys us → RDs K B (xs ++ ys) (vs ++ us)
  | [], ys, vs, us, h, h' => by simp only [RDs] at h; subst h; exact h'
  | x :: xs, ys, vs, us, h, h' => by
    simp only [RDs] at h
    obtain ⟨v, r, rfl, h2, h3⟩ := h
    simp only [List.cons_append, RDs]
    exact ⟨v, _, rfl, h2, rds_append h3 h'⟩
/-- a slice of a list: a new list -/
theorem we_sliceL {e : Expr} {lo hi : Option Expr} {σ : List (Option W)} {pos p2 : Pos} (h : WE X e σ O fun x O1 => WO X lo σ O1 fun l O2 => WO X hi σ O2 fun u O3 => ∃ xs, AsD x xs O3 ∧ Q (.o O3.length) (O3 ++ [some (.lst, (cutD xs l u).map .d)])) : WE X (.Subscript e (.Slice lo hi none p2) pos) σ O Q :=
  we_slice sl_list (h.mono fun x O1 h1 F B ρ σc H r s => by
    obtain ⟨t, q1, q2⟩ := h1 F B ρ σc H r s
    refine ⟨SO X lo, po_so, fun pins st I => thn (q1.run pins st σc H _ I q2) fun v s' ⟨o, H', I', ip, B', ρ', O', g, p, r', q⟩ => ⟨o, H', I', ip, B', ρ', O', g, p, r', fun F2 B2 ρ2 σ2 H2 r2 s2 => ?_⟩⟩
    obtain ⟨t', q3, q4⟩ := q F2 B2 ρ2 σ2 H2 r2 s2
    refine ⟨SO X hi, po_so, fun pins st I => thn (q3.run pins st σ2 H2 _ I q4) fun v s' ⟨o, H', I', ip, B3, ρ3, O3, g3, p3, r3, q⟩ => ⟨o, H', I', ip, B3, ρ3, O3, g3, p3, r3, ?_⟩⟩
    obtain ⟨xs, as, q⟩ := q
    intro F4 B4 ρ4 a H4 r4 rw4 Qc k
    obtain ⟨p, vs, rfl, hq, rd⟩ := as.sq r4 rw4
    exact ⟨p, vs, rfl, hq, fun l hl => k _ _ ⟨B4, ρ4 ++ [l], _, _, Gr.refl, List.prefix_append _ _, r4.new (h := .lst) hl rfl (rws_of_rds (cutV_rd rd _ _)), rw_new r4.len, q⟩⟩)
/-- a slice of a text -/
theorem we_sliceS {e : Expr} {lo hi : Option Expr} {σ : List (Option W)} {pos p2 : Pos} (h : WE X e σ O fun x O1 => WO X lo σ O1 fun l O2 => WO X hi σ O2 fun u O3 => ∃ z, x = .d (dS z) ∧ z.length ≤ sizeLine ∧ Q (.d (dS (cutS z l u))) O3) : WE X (.Subscript e (.Slice lo hi none p2) pos) σ O Q :=
  we_slice sl_str (h.mono fun x O1 h1 F B ρ σc H r s => by
    obtain ⟨t, q1, q2⟩ := h1 F B ρ σc H r s
    refine ⟨SO X lo, po_so, fun pins st I => thn (q1.run pins st σc H _ I q2) fun v s' ⟨o, H', I', ip, B', ρ', O', g, p, r', q⟩ => ⟨o, H', I', ip, B', ρ', O', g, p, r', fun F2 B2 ρ2 σ2 H2 r2 s2 => ?_⟩⟩
    obtain ⟨t', q3, q4⟩ := q F2 B2 ρ2 σ2 H2 r2 s2
    refine ⟨SO X hi, po_so, fun pins st I => thn (q3.run pins st σ2 H2 _ I q4) fun v s' ⟨o, H', I', ip, B3, ρ3, O3, g3, p3, r3, q⟩ => ⟨o, H', I', ip, B3, ρ3, O3, g3, p3, r3, ?_⟩⟩
    obtain ⟨z, ez, hz, q9⟩ := q
    intro F4 B4 ρ4 a H4 r4 rw4 Qc k
    subst ez
    exact ⟨z, rw_s rw4, hz, k _ _ (Post.here r4 rd_s q9)⟩)
end
end Vf

/-! Vf8: dicts. -/
namespace Vf
open PySem L2 Evl

/-! ### pairs -/
section
variable {κ α : Type} [DecidableEq κ]
def lkG (kvs : List (κ × α)) (k : κ) : Option α := (kvs.find? fun kv => decide (kv.1 = k)).map (·.2)
def putG (kvs : List (κ × α)) (k : κ) (v : α) : List (κ × α) :=
  if (kvs.any fun kv => decide (kv.1 = k)) = true then kvs.map (fun kv => if kv.1 = k then (kv.1, v) else kv) else kvs ++ [(k, v)]
def dropG (kvs : List (κ × α)) (k : κ) : List (κ × α) := kvs.filter fun kv => decide (kv.1 ≠ k)
end
section
variable {κ : Type} [DecidableEq κ] {K : PySem.W.Frag} {B B' F H : Hp} {ρ : List Addr}
def RKV {κ : Type} (K : PySem.W.Frag) (B : Hp) : List (κ × D) → List (κ × V) → Prop
  | [], ys => ys = []
  | (k, x) :: xs, ys => ∃ v r, ys = (k, v) :: r ∧ RD K B x v ∧ RKV K B xs r
theorem RKV.keys : ∀ {xs : List (κ × D)} {ys : List (κ × V)}, RKV K B xs ys → ys.map (·.1) = xs.map (·.1)
  | [], ys, h => by rw [show ys = [] from h]; rfl
  | (k, x) :: xs, ys, h => by obtain ⟨v, r, rfl, _, h3⟩ := h; rw [List.map_cons, List.map_cons, RKV.keys h3]
theorem RKV.len {xs : List (κ × D)} {ys : List (κ × V)} (h : RKV K B xs ys) : ys.length = xs.length := by
  have := congrArg List.length h.keys
  rw [List.length_map, List.length_map] at this
  exact this
theorem RKV.rds : ∀ {xs : List (κ × D)} {ys : List (κ × V)}, RKV K B xs ys → RDs K B (xs.map (·.2)) (ys.map (·.2))
  | [], ys, h => by rw [show ys = [] from h]; simp only [List.map_nil, RDs]
  | (k, x) :: xs, ys, h => by
    obtain ⟨v, r, rfl, h2, h3⟩ := h
    simp only [List.map_cons, RDs]
    exact ⟨v, _, rfl, h2, RKV.rds h3⟩
theorem RKV.of : ∀ {xs : List (κ × D)} {vs : List V}, RDs K B (xs.map (·.2)) vs → RKV K B xs ((xs.map (·.1)).zip vs)
  | [], vs, h => by rfl
  | (k, x) :: xs, vs, h => by
    simp only [List.map_cons, RDs] at h
    obtain ⟨v, r, rfl, h2, h3⟩ := h
    exact ⟨v, _, rfl, h2, RKV.of h3⟩
theorem RKV.get (k : κ) : ∀ {xs : List (κ × D)} {ys : List (κ × V)}, RKV K B xs ys → (lkG xs k = none ∧ valV ys k = none) ∨ ∃ x v, lkG xs k = some x ∧ valV ys k = some v ∧ RD K B x v
  | [], ys, h => by rw [show ys = [] from h]; exact .inl ⟨rfl, rfl⟩
  | (k', x) :: xs, ys, h => by
    obtain ⟨v, r, rfl, h2, h3⟩ := h
    by_cases e : k' = k
    · exact .inr ⟨x, v, by simp [lkG, List.find?_cons, e], by simp [valV, List.find?_cons, e], h2⟩
    · have e1 : lkG ((k', x) :: xs) k = lkG xs k := by simp [lkG, List.find?_cons, e]
      have e2 : valV ((k', v) :: r) k = valV r k := by simp [valV, List.find?_cons, e]
      rw [e1, e2]
      exact RKV.get k h3
theorem RKV.put (k : κ) {x : D} {v : V} (hx : RD K B x v) {xs : List (κ × D)} {ys : List (κ × V)} (h : RKV K B xs ys) : RKV K B (putG xs k x) (putK ys k v) := by
  have ha : ∀ {xs : List (κ × D)} {ys : List (κ × V)}, RKV K B xs ys → (xs.any fun kv => decide (kv.1 = k)) = (ys.any fun kv => decide (kv.1 = k)) := by
    intro xs
    induction xs with
    | nil => intro ys h; rw [show ys = [] from h]; rfl
    | cons p xs ih =>
      intro ys h
      obtain ⟨v, r, rfl, _, h3⟩ := h
      rw [List.any_cons, List.any_cons, ih h3]
  have h1 : ∀ {xs : List (κ × D)} {ys : List (κ × V)}, RKV K B xs ys → RKV K B (xs.map fun kv => if kv.1 = k then (kv.1, x) else kv) (ys.map fun kv => if kv.1 = k then (kv.1, v) else kv) := by
    intro xs
    induction xs with
    | nil => intro ys h; rw [show ys = [] from h]; rfl
    | cons p xs ih =>
      intro ys h
      obtain ⟨k', y⟩ := p
      obtain ⟨u, r, rfl, h2, h3⟩ := h
      rw [List.map_cons, List.map_cons]
      by_cases e : k' = k
      · simp only [e, if_true]
        exact ⟨v, _, rfl, hx, ih h3⟩
      · simp only [e, if_false]
        exact ⟨u, _, rfl, h2, ih h3⟩
  have h2 : ∀ {xs : List (κ × D)} {ys : List (κ × V)}, RKV K B xs ys → RKV K B (xs ++ [(k, x)]) (ys ++ [(k, v)]) := by
    intro xs
    induction xs with
    | nil => intro ys h; rw [show ys = [] from h]; exact ⟨v, [], rfl, hx, rfl⟩
    | cons p xs ih =>
      intro ys h
      obtain ⟨u, r, rfl, h2, h3⟩ := h
      exact ⟨u, _, rfl, h2, ih h3⟩
  unfold putG putK
  rw [ha h]
  split
  · exact h1 h
  · exact h2 h
theorem RKV.drop (k : κ) : ∀ {xs : List (κ × D)} {ys : List (κ × V)}, RKV K B xs ys → RKV K B (dropG xs k) (dropK ys k)
  | [], ys, h => by rw [show ys = [] from h]; rfl
  | (k', x) :: xs, ys, h => by
    obtain ⟨v, r, rfl, h2, h3⟩ := h
    have ih := RKV.drop k h3
    by_cases e : k' = k
    · have e1 : dropG ((k', x) :: xs) k = dropG xs k := by simp [dropG, List.filter_cons, e]
      have e2 : dropK ((k', v) :: r) k = dropK r k := by simp [dropK, List.filter_cons, e]
      rw [e1, e2]; exact ih
    · have e1 : dropG ((k', x) :: xs) k = (k', x) :: dropG xs k := by simp [dropG, List.filter_cons, e]
      have e2 : dropK ((k', v) :: r) k = (k', v) :: dropK r k := by simp [dropK, List.filter_cons, e]
      rw [e1, e2]
      exact ⟨v, _, rfl, h2, ih⟩
theorem RKV.mono (e : Ex B B') : ∀ {xs : List (κ × D)} {ys : List (κ × V)}, RKV K B xs ys → RKV K B' xs ys
  | [], ys, h => h
  | (k, x) :: xs, ys, h => by obtain ⟨v, r, rfl, h2, h3⟩ := h; exact ⟨v, r, rfl, RD.mono e _ _ h2, RKV.mono e h3⟩
end
/-- dicts of data, by their pairs -/
def dKD (kvs : List (Key × D)) : OO := (.dK (kvs.map (·.1)), (kvs.map (·.2)).map .d)
def dTD (kvs : List (List Key × D)) : OO := (.dT (kvs.map (·.1)), (kvs.map (·.2)).map .d)
def kD : Key → D
  | .inl i => dI i
  | .inr x => dS x
/-- a row: a tuple of ints and texts -/
def rD (k : List Key) : D := .t (k.map kD)
theorem zip_un {α β : Type} : ∀ l : List (α × β), (l.map (·.1)).zip (l.map (·.2)) = l
  | [] => rfl
  | (a, b) :: l => by rw [List.map_cons, List.map_cons, List.zip_cons_cons, zip_un l]
section
variable {X : Cx} {O : Ob} {Q : W → Ob → Prop} {K : PySem.W.Frag} {B F H : Hp} {ρ : List Addr}
theorem rd_kD {k : Key} {v : V} : RD K B (kD k) v ↔ v = kV k := by
  cases k <;> simp only [kD, RD, kV]
theorem rds_kD : ∀ {k : List Key} {vs : List V}, RDs K B (k.map kD) vs ↔ vs = k.map kV
  | [], vs => by simp only [List.map_nil, RDs]
  | x :: k, vs => by
    simp only [List.map_cons, RDs, rd_kD, rds_kD]
    constructor
    · rintro ⟨v, r, rfl, rfl, rfl⟩; rfl
    · rintro rfl; exact ⟨_, _, rfl, rfl, rfl⟩
theorem HR.dT {n : Nat} {kvs : List (List Key × D)} (r : HR K B F ρ O H) (e : O[n]? = some (some (dTD kvs))) {u : V} (h : RW K B ρ B (.o n) u) : ∃ a kvs', u = .ref a ∧ H a = some (.dT kvs') ∧ RKV K B kvs kvs' ∧
    ∀ (kvs2 : List (List Key × D)) (kvs2' : List (List Key × V)), RKV K B kvs2 kvs2' → HR K B F ρ (O.set n (some (dTD kvs2))) (upd H a (.dT kvs2')) := by
  obtain ⟨a, h1, h2⟩ := rw_o h
  obtain ⟨a', vs, ho, f, q1, q2, q3, q4, q5, q6, q7, q8, q9⟩ := r.get e
  rw [h1] at q1
  cases q1
  obtain ⟨hl, rfl⟩ := q3
  have rd := (rds_of_rws q4).1
  refine ⟨a, _, h2, q2, RKV.of rd, fun kvs2 kvs2' i => ?_⟩
  have := q9 (.dT (kvs2.map (·.1))) ((kvs2.map (·.2)).map .d) (kvs2'.map (·.2)) (.dT kvs2') [] ⟨?_, ?_⟩ (rws_of_rds i.rds) (fun _ z => by cases z) List.nodup_nil
  · exact this
  · rw [List.length_map, List.length_map, i.len]
  · rw [← i.keys, zip_un]
theorem HR.dK {n : Nat} {kvs : List (Key × D)} (r : HR K B F ρ O H) (e : O[n]? = some (some (dKD kvs))) {u : V} (h : RW K B ρ B (.o n) u) : ∃ a kvs', u = .ref a ∧ H a = some (.dK kvs') ∧ RKV K B kvs kvs' ∧
    ∀ (kvs2 : List (Key × D)) (kvs2' : List (Key × V)), RKV K B kvs2 kvs2' → HR K B F ρ (O.set n (some (dKD kvs2))) (upd H a (.dK kvs2')) := by
  obtain ⟨a, h1, h2⟩ := rw_o h
  obtain ⟨a', vs, ho, f, q1, q2, q3, q4, q5, q6, q7, q8, q9⟩ := r.get e
  rw [h1] at q1
  cases q1
  obtain ⟨hl, rfl⟩ := q3
  have rd := (rds_of_rws q4).1
  refine ⟨a, _, h2, q2, RKV.of rd, fun kvs2 kvs2' i => ?_⟩
  have := q9 (.dK (kvs2.map (·.1))) ((kvs2.map (·.2)).map .d) (kvs2'.map (·.2)) (.dK kvs2') [] ⟨?_, ?_⟩ (rws_of_rds i.rds) (fun _ z => by cases z) List.nodup_nil
  · exact this
  · rw [List.length_map, List.length_map, i.len]
  · rw [← i.keys, zip_un]
/-- d at x, asked by y: what stands there -/
inductive DG (O : Ob) : W → W → Option D → Prop where
  | t {n kvs k} : O[n]? = some (some (dTD kvs)) → DG O (.o n) (.d (rD k)) (lkG kvs k)
  | k {n kvs k} : O[n]? = some (some (dKD kvs)) → DG O (.o n) (.d (kD k)) (lkG kvs k)
/-- what has taken its place at k -/
inductive DPu (O : Ob) : W → W → D → Ob → Prop where
  | t {n kvs k x} : O[n]? = some (some (dTD kvs)) → kvs.length < 1000000 → DPu O (.o n) (.d (rD k)) x (O.set n (some (dTD (putG kvs k x))))
  | k {n kvs k x} : O[n]? = some (some (dKD kvs)) → kvs.length < 1000000 → DPu O (.o n) (.d (kD k)) x (O.set n (some (dKD (putG kvs k x))))
theorem rw_rD {k : List Key} {v : V} (r : HR K B F ρ O H) (h : RW K B ρ B (.d (rD k)) v) : ∃ b, v = .ref b ∧ H b = some (.tup (k.map kV)) := by
  simp only [RWf, rD, RD, rds_kD] at h
  obtain ⟨⟨a, vs, h1, h2, rfl⟩, _⟩ := h
  exact ⟨a, h1, r.exB _ _ h2⟩

/-! display, look-up, store -/
theorem we_dict0T {σ : List (Option W)} {pos : Pos} (q : Q (.o O.length) (O ++ [some (dTD [])])) : WE X (.Dict [] [] pos) σ O Q := fun F B ρ σc H r s =>
  SE.of pe_dnewT fun p hp => ⟨B, ρ ++ [p], _, _, Gr.refl, List.prefix_append _ _, r.new (h := .dT []) (ws := []) (vs := []) hp ⟨rfl, rfl⟩ rws_nil, rw_new r.len, q⟩
theorem we_dict0K {σ : List (Option W)} {pos : Pos} (q : Q (.o O.length) (O ++ [some (dKD [])])) : WE X (.Dict [] [] pos) σ O Q := fun F B ρ σc H r s =>
  SE.of pe_dnewK fun p hp => ⟨B, ρ ++ [p], _, _, Gr.refl, List.prefix_append _ _, r.new (h := .dK []) (ws := []) (vs := []) hp ⟨rfl, rfl⟩ rws_nil, rw_new r.len, q⟩
def RO (K : PySem.W.Frag) (B : Hp) : Option D → Option V → Prop
  | none, none => True
  | some x, some v => RD K B x v
  | _, _ => False
theorem RKV.ro {κ : Type} [DecidableEq κ] (k : κ) {xs : List (κ × D)} {ys : List (κ × V)} (h : RKV K B xs ys) : RO K B (lkG xs k) (valV ys k) := by
  rcases h.get k with ⟨h1, h2⟩ | ⟨x, v, h1, h2, h3⟩
  · rw [h1, h2]; exact True.intro
  · rw [h1, h2]; exact h3
theorem DG.get {x y : W} {o : Option D} {a b : V} (d : DG O x y o) (r : HR K B F ρ O H) (h1 : RW K B ρ B x a) (h2 : RW K B ρ B y b) : ∃ p ov, a = .ref p ∧ DGet H p b ov ∧ RO K B o ov := by
  cases d with
  | t e =>
    obtain ⟨p, kvs', rfl, hp, rk, _⟩ := r.dT e h1
    obtain ⟨q, rfl, hq⟩ := rw_rD r h2
    exact ⟨p, _, rfl, DGet.t hp hq, rk.ro _⟩
  | k e =>
    obtain ⟨p, kvs', rfl, hp, rk, _⟩ := r.dK e h1
    simp only [RWf, rd_kD] at h2
    rw [h2.1]
    exact ⟨p, _, rfl, DGet.k hp, rk.ro _⟩
theorem DG.isD {x y : W} {o : Option D} {a : V} (d : DG O x y o) (r : HR K B F ρ O H) (h1 : RW K B ρ B x a) : ∃ p, a = .ref p ∧ IsD H p := by
  cases d with
  | t e =>
    obtain ⟨p, kvs', rfl, hp, rk, _⟩ := r.dT e h1
    exact ⟨p, rfl, .inr ⟨_, .inl hp⟩⟩
  | k e =>
    obtain ⟨p, kvs', rfl, hp, rk, _⟩ := r.dK e h1
    exact ⟨p, rfl, .inl ⟨_, .inl hp⟩⟩
theorem DPu.put {x y : W} {z : D} {O' : Ob} {a b c : V} (d : DPu O x y z O') (r : HR K B F ρ O H) (h1 : RW K B ρ B x a) (h2 : RW K B ρ B y b) (h3 : RW K B ρ B (.d z) c) : ∃ p H', a = .ref p ∧ DPut H p b c H' ∧ HR K B F ρ O' H' := by
  have h3' : RD K B z c := by simp only [RWf] at h3; exact h3.1
  cases d with
  | t e hl =>
    obtain ⟨p, kvs', rfl, hp, rk, w⟩ := r.dT e h1
    obtain ⟨q, rfl, hq⟩ := rw_rD r h2
    exact ⟨p, _, rfl, DPut.t hp hq (Nat.lt_of_lt_of_le (by rw [rk.len]; exact hl) (by decide)), w _ _ (rk.put _ h3')⟩
  | k e hl =>
    obtain ⟨p, kvs', rfl, hp, rk, w⟩ := r.dK e h1
    simp only [RWf, rd_kD] at h2
    rw [h2.1]
    exact ⟨p, _, rfl, DPut.k hp (Nat.lt_of_lt_of_le (by rw [rk.len]; exact hl) (by decide)), w _ _ (rk.put _ h3')⟩
section
variable {σ : List (Option W)} {pos apos cpos : Pos} {e f g : Expr}
theorem we_dget (hu : X.A.units + 1 < cLine) (h : WE X e σ O fun x O1 => WE X f σ O1 fun y O2 => ∃ z, DG O2 x y (some z) ∧ Q (.d z) O2) (hs : NoSl f := by exact fun _ _ => rfl) : WE X (.Subscript e f pos) σ O Q := fun F B ρ σc H r s =>
  SE.of (pe_dget hu pe_se pe_se hs) (h.then r s fun B1 ρ1 x O1 v H1 g1 p1 r1 s1 rw1 h1 => h1.then r1 s1 fun B2 ρ2 y O2 u H2 g2 p2 r2 s2 rw2 ⟨z, d, q⟩ => by
    obtain ⟨p, ov, rfl, dg, ro⟩ := d.get r2 (RW.mono' g2.ex p2 rw1) rw2
    cases ov with
    | none => exact ro.elim
    | some zv => exact ⟨p, zv, rfl, dg, B2, ρ2, _, O2, g1.trans g2, p1.trans p2, r2, rw_d ro, q⟩)
theorem we_din (hu : X.A.units + 1 < cLine) (h : WE X f σ O fun y O1 => WE X e σ O1 fun x O2 => ∃ o, DG O2 x y o ∧ Q (.d (dB o.isSome)) O2) (hm : behindInMarks .In e = false := by rfl) : WE X (.Compare f [.In] [e] pos) σ O Q := fun F B ρ σc H r s =>
  SE.of (pe_cmp (pc_din hu pe_se pe_se) hm) (h.then r s fun B1 ρ1 y O1 v H1 g1 p1 r1 s1 rw1 h1 => h1.then r1 s1 fun B2 ρ2 x O2 u H2 g2 p2 r2 s2 rw2 ⟨o, d, q⟩ => by
    obtain ⟨p, ov, rfl, dg, ro⟩ := d.get r2 rw2 (RW.mono' g2.ex p2 rw1)
    refine ⟨p, ov, rfl, dg, B2, ρ2, _, O2, g1.trans g2, p1.trans p2, r2, rd_s, ?_⟩
    cases o <;> cases ov <;> first | exact q | exact ro.elim)
theorem we_dnotin (hu : X.A.units + 1 < cLine) (h : WE X f σ O fun y O1 => WE X e σ O1 fun x O2 => ∃ o, DG O2 x y o ∧ Q (.d (dB (!o.isSome))) O2) (hm : behindInMarks .NotIn e = false := by rfl) : WE X (.Compare f [.NotIn] [e] pos) σ O Q := fun F B ρ σc H r s =>
  SE.of (pe_cmp (pc_dnotin hu pe_se pe_se) hm) (h.then r s fun B1 ρ1 y O1 v H1 g1 p1 r1 s1 rw1 h1 => h1.then r1 s1 fun B2 ρ2 x O2 u H2 g2 p2 r2 s2 rw2 ⟨o, d, q⟩ => by
    obtain ⟨p, ov, rfl, dg, ro⟩ := d.get r2 rw2 (RW.mono' g2.ex p2 rw1)
    refine ⟨p, ov, rfl, dg, B2, ρ2, _, O2, g1.trans g2, p1.trans p2, r2, rd_s, ?_⟩
    cases o <;> cases ov <;> first | exact q | exact ro.elim)
theorem wt_din {Q : Bool → Ob → Prop} (hu : X.A.units + 1 < cLine) (h : WE X f σ O fun y O1 => WE X e σ O1 fun x O2 => ∃ o, DG O2 x y o ∧ Q o.isSome O2) (hm : behindInMarks .In e = false := by rfl) : WT X (.Compare f [.In] [e] pos) σ O Q := fun F B ρ σc H r s =>
  ST.of (pt_cmp (pc_din hu pe_se pe_se) hm) (h.then r s fun B1 ρ1 y O1 v H1 g1 p1 r1 s1 rw1 h1 => h1.then r1 s1 fun B2 ρ2 x O2 u H2 g2 p2 r2 s2 rw2 ⟨o, d, q⟩ => by
    obtain ⟨p, ov, rfl, dg, ro⟩ := d.get r2 rw2 (RW.mono' g2.ex p2 rw1)
    refine ⟨p, ov, rfl, dg, _, rfl, B2, ρ2, O2, g1.trans g2, p1.trans p2, r2, ?_⟩
    cases o <;> cases ov <;> first | exact q | exact ro.elim)
theorem wt_dnotin {Q : Bool → Ob → Prop} (hu : X.A.units + 1 < cLine) (h : WE X f σ O fun y O1 => WE X e σ O1 fun x O2 => ∃ o, DG O2 x y o ∧ Q (!o.isSome) O2) (hm : behindInMarks .NotIn e = false := by rfl) : WT X (.Compare f [.NotIn] [e] pos) σ O Q := fun F B ρ σc H r s =>
  ST.of (pt_cmp (pc_dnotin hu pe_se pe_se) hm) (h.then r s fun B1 ρ1 y O1 v H1 g1 p1 r1 s1 rw1 h1 => h1.then r1 s1 fun B2 ρ2 x O2 u H2 g2 p2 r2 s2 rw2 ⟨o, d, q⟩ => by
    obtain ⟨p, ov, rfl, dg, ro⟩ := d.get r2 rw2 (RW.mono' g2.ex p2 rw1)
    refine ⟨p, ov, rfl, dg, _, rfl, B2, ρ2, O2, g1.trans g2, p1.trans p2, r2, ?_⟩
    cases o <;> cases ov <;> first | exact q | exact ro.elim)
/-- it is a dict -/
inductive IsDW (O : Ob) : W → Prop where
  | t {n kvs} : O[n]? = some (some (dTD kvs)) → IsDW O (.o n)
  | k {n kvs} : O[n]? = some (some (dKD kvs)) → IsDW O (.o n)
theorem IsDW.at {O : Ob} {x : W} {a : V} (d : IsDW O x) (r : HR K B F ρ O H) (h1 : RW K B ρ B x a) : ∃ p, a = .ref p ∧ IsD H p ∧ ((∃ kvs, H p = some (.dK kvs)) ∨ ∃ kvs, H p = some (.dT kvs)) := by
  cases d with
  | t e =>
    obtain ⟨p, kvs', rfl, hp, rk, _⟩ := r.dT e h1
    exact ⟨p, rfl, .inr ⟨_, .inl hp⟩, .inr ⟨_, hp⟩⟩
  | k e =>
    obtain ⟨p, kvs', rfl, hp, rk, _⟩ := r.dK e h1
    exact ⟨p, rfl, .inl ⟨_, .inl hp⟩, .inl ⟨_, hp⟩⟩
theorem ty_dict {O : Ob} {x : W} (d : IsDW O x) : Ty K "dict" x O := fun F B ρ a H r h => by
  obtain ⟨p, rfl, _, h2⟩ := d.at r h
  exact Or.inr (Or.inr (Or.inl ⟨rfl, h2⟩))
/-- d.get(k, x) -/
theorem we_dget2 (hu : X.A.units + 1 < cLine) (h : WE X e σ O fun x O1 => IsDW O1 x ∧ WE X f σ O1 fun y O2 => WE X g σ O2 fun z O3 => ∃ o, DG O3 x y o ∧ Q ((o.map W.d).getD z) O3) (m : M2 X e "get" apos f g cpos := by exact ⟨rfl, rfl, rfl, rfl⟩) : WE X (.Call (.Attribute e "get" apos) [f, g] [] cpos) σ O Q := fun F B ρ σc H r s =>
  SE.of (pe_dget2 hu pe_se pe_se pe_se m) (h.then r s fun B1 ρ1 x O1 v H1 g1 p1 r1 s1 rw1 ⟨isd, h1⟩ => by
    obtain ⟨p, rfl, hd, _⟩ := isd.at r1 rw1
    refine ⟨p, rfl, hd, h1.then r1 s1 fun B2 ρ2 y O2 u H2 g2 p2 r2 s2 rw2 h2 => h2.then r2 s2 fun B3 ρ3 z O3 w3 H3 g3 p3 r3 s3 rw3 ⟨o, d, q⟩ => ?_⟩
    obtain ⟨p', ov, e', dg, ro⟩ := d.get r3 (RW.mono' (g2.trans g3).ex (p2.trans p3) rw1) (RW.mono' g3.ex p3 rw2)
    cases e'
    refine ⟨ov, dg, B3, ρ3, _, O3, (g1.trans g2).trans g3, (p1.trans p2).trans p3, r3, ?_, q⟩
    cases o <;> cases ov <;> first | exact rw3 | exact ro.elim | exact rw_d ro)
theorem we_dget1 (hu : X.A.units + 1 < cLine) (h : WE X e σ O fun x O1 => IsDW O1 x ∧ WE X f σ O1 fun y O2 => ∃ o, DG O2 x y o ∧ Q ((o.map W.d).getD (.d dN)) O2) (m : M1 X e "get" apos f cpos := by exact ⟨rfl, rfl, rfl, rfl⟩) : WE X (.Call (.Attribute e "get" apos) [f] [] cpos) σ O Q := fun F B ρ σc H r s =>
  SE.of (pe_dget1 hu pe_se pe_se m) (h.then r s fun B1 ρ1 x O1 v H1 g1 p1 r1 s1 rw1 ⟨isd, h1⟩ => by
    obtain ⟨p, rfl, hd, _⟩ := isd.at r1 rw1
    refine ⟨p, rfl, hd, h1.then r1 s1 fun B2 ρ2 y O2 u H2 g2 p2 r2 s2 rw2 ⟨o, d, q⟩ => ?_⟩
    obtain ⟨p', ov, e', dg, ro⟩ := d.get r2 (RW.mono' g2.ex p2 rw1) rw2
    cases e'
    refine ⟨ov, dg, B2, ρ2, _, O2, g1.trans g2, p1.trans p2, r2, ?_, q⟩
    cases o <;> cases ov <;> first | exact rd_s | exact ro.elim | exact rw_d ro)
/-- d[k] = v -/
theorem ws_dput {E : EW} {n0 : Nat} {v : Expr} {pos' : Pos} (hu : X.A.units + 1 < cLine) (h : WE X v σ O fun z O1 => WE X e σ O1 fun x O2 => WE X f σ O2 fun y O3 => ∃ d O4, z = .d d ∧ DPu O3 x y d O4 ∧ E.nx σ O4)
    (hs : swapsWith v (some (.Subscript e f pos')) pos.line X.env = pure false := by rfl) : WS X n0 (.Assign [.Subscript e f pos'] v pos) σ O E := fun F B0 ρ0 B ρ σc H e1 e2 e3 r s =>
  SS.of (ps_dput hu pe_se pe_se pe_se hs) (h.then r s fun B1 ρ1 z O1 u1 H1 g1 p1 r1 s1 rw1 h1 => h1.then r1 s1 fun B2 ρ2 x O2 u2 H2 g2 p2 r2 s2 rw2 h2 => h2.then r2 s2 fun B3 ρ3 y O3 u3 H3 g3 p3 r3 s3 rw3 ⟨d, O4, ez, dp, q⟩ => by
    subst ez
    obtain ⟨p, H', rfl, hp, r4⟩ := dp.put r3 (RW.mono' g3.ex p3 rw2) rw3 (RW.mono' (g2.trans g3).ex (p2.trans p3) rw1)
    exact ⟨p, H', rfl, hp, B3, ρ3, σ, O4, e2.trans ((g1.trans g2).trans g3), e3.trans ((p1.trans p2).trans p3), r4, s3, q⟩)
/-- d.pop(k, x), tuple keys -/
theorem om_popT {n : Nat} {kvs : List (List Key × D)} {k : List Key} {z : W} (hu : X.A.units + 1 < cLine) (e : O[n]? = some (some (dTD kvs))) (q : ∀ d, lkG kvs k = some d → Q (.d d) (O.set n (some (dTD (dropG kvs k))))) (q2 : lkG kvs k = none → Q z O) : OM X "dict" "dict.pop" (.o n) [.d (rD k), z] O Q := fun F B ρ a as H r h1 h2 => by
  obtain ⟨p, kvs', rfl, hp, rk, w⟩ := r.dT e h1
  obtain ⟨v1, v2, rfl, h3, h4⟩ := rw_2 h2
  obtain ⟨b, rfl, hb⟩ := rw_rD r h3
  refine SM.of (L2.DX.mt_popT hu) ⟨p, kvs', k, b, v2, rfl, rfl, hp, hb, fun v hv => ?_, fun hv => ?_⟩
  · rcases rk.get k with ⟨h5, h6⟩ | ⟨x, v', h5, h6, h7⟩
    · rw [hv] at h6; cases h6
    · rw [hv] at h6; cases h6
      have r2 := w _ _ (rk.drop k)
      exact ⟨B, ρ, _, _, Gr.refl, List.prefix_refl _, r2, rw_d h7, q x h5⟩
  · rcases rk.get k with ⟨h5, h6⟩ | ⟨x, v', h5, h6, h7⟩
    · exact ⟨B, ρ, _, O, Gr.refl, List.prefix_refl _, r, h4, q2 h5⟩
    · rw [hv] at h6; cases h6
end
end
end Vf

/-! Vf9: data at any depth: ==, !=, in; sorted. -/
namespace Vf
open PySem L2 Evl PySem.W

/-! ### as the library's data -/
mutual
def D.pd : D → PyData
  | .s v => match v with
    | .bl b => .bool b
    | .int i => .int i
    | .str z => .str z
    | _ => .none
  | .t ys => .tuple (D.pds ys)
  | .l ys => .list (D.pds ys)
def D.pds : List D → List PyData
  | [] => []
  | y :: ys => D.pd y :: D.pds ys
end
mutual
def D.okp : D → Bool
  | .s v => match v with
    | .non | .bl _ | .int _ => true
    | .str z => PyData.canLay0 (.str z)
    | _ => false
  | .t ys => D.okps ys
  | .l ys => D.okps ys
def D.okps : List D → Bool
  | [] => true
  | y :: ys => D.okp y && D.okps ys
end
theorem pds_map : ∀ xs : List D, D.pds xs = xs.map D.pd
  | [] => rfl
  | y :: ys => by rw [D.pds, List.map_cons, pds_map ys]
theorem okps_all : ∀ {xs : List D}, (∀ y ∈ xs, y.okp = true) → D.okps xs = true
  | [], _ => rfl
  | y :: ys, h => by rw [D.okps, h y List.mem_cons_self, okps_all fun z hz => h z (List.mem_cons_of_mem _ hz)]; rfl
section
variable {K : PySem.W.Frag} {B F H : Hp} {ρ : List Addr} {O : Ob}
mutual
theorem RD.dp (e : Ex B H) : ∀ (x : D) (v : V), x.okp = true → RD K B x v → Dp K H v x.pd
  | .s u, v, hk, h => by
    simp only [RD] at h
    subst h
    cases v <;> first | exact Dp.non | exact Dp.bl _ | exact Dp.int _ | exact Dp.str _ | simp [D.okp] at hk
  | .t ys, v, hk, h => by
    simp only [RD, D.okp] at h hk
    obtain ⟨a, vs, rfl, h2, h3⟩ := h
    rw [D.pd]
    exact Dp.tup (st_of (e _ _ h2)) (RDs.dp e ys vs hk h3)
  | .l ys, v, hk, h => by
    simp only [RD, D.okp] at h hk
    obtain ⟨a, vs, rfl, h2, h3⟩ := h
    rw [D.pd]
    exact Dp.lst (ex_l e h2) (RDs.dp e ys vs hk h3)
theorem RDs.dp (e : Ex B H) : ∀ (xs : List D) (vs : List V), D.okps xs = true → RDs K B xs vs → DpAll K H vs (D.pds xs)
  | [], vs, _, h => by simp only [RDs] at h; subst h; exact DpAll.nil
  | x :: xs, vs, hk, h => by
    simp only [RDs, D.okps, Bool.and_eq_true] at h hk
    obtain ⟨v, r, rfl, h2, h3⟩ := h
    rw [D.pds]
    exact DpAll.cons (RD.dp e x v hk.1 h2) (RDs.dp e xs r hk.2 h3)
end
/-- depth of nesting: enough for what is met -/
inductive PdN (O : Ob) : Nat → W → PyData → Prop where
  | d {k x} : x.okp = true → PdN O k (.d x) x.pd
  | o {k n ws ps} : O[n]? = some (some (.lst, ws)) → ws.length = ps.length → (∀ (i : Nat) w p, ws[i]? = some w → ps[i]? = some p → PdN O k w p) → PdN O (k + 1) (.o n) (.list ps)
  | t {k ws ps} : ws.length = ps.length → (∀ (i : Nat) w p, ws[i]? = some w → ps[i]? = some p → PdN O k w p) → PdN O (k + 1) (.t ws) (.tuple ps)
theorem dpAll_of : ∀ {vs : List V} {ps : List PyData}, vs.length = ps.length → (∀ (i : Nat) v p, vs[i]? = some v → ps[i]? = some p → Dp K H v p) → DpAll K H vs ps
  | [], [], _, _ => .nil
  | v :: vs, p :: ps, hl, h => .cons (h 0 v p rfl rfl) (dpAll_of (by simpa using hl) fun i v p e1 e2 => h (i + 1) v p (by simpa using e1) (by simpa using e2))
  | [], _ :: _, hl, _ => by simp at hl
  | _ :: _, [], hl, _ => by simp at hl
theorem RWfs.at : ∀ {ws : List W} {vs : List V} {fp : List Addr}, RWfs K B ρ H ws vs fp → ∀ {i : Nat} {w : W}, ws[i]? = some w → ∃ v f, vs[i]? = some v ∧ RWf K B ρ H w v f
  | [], _, _, _, _, _, e => by simp at e
  | w :: ws, vs, fp, h, i, u, e => by
    simp only [RWfs] at h
    obtain ⟨v, r, f1, f2, rfl, _, h3, h4⟩ := h
    cases i with
    | zero => simp at e; subst e; exact ⟨v, f1, rfl, h3⟩
    | succ i => simpa using RWfs.at h4 (i := i) (by simpa using e)
theorem PdN.dp (r : HR K B F ρ O H) : ∀ {k : Nat} {w : W} {p : PyData} {v : V} {fp : List Addr}, PdN O k w p → RWf K B ρ H w v fp → Dp K H v p := by
  intro k
  induction k with
  | zero =>
    intro w p v fp h hw
    cases h with
    | d hk => simp only [RWf] at hw; exact RD.dp r.exB _ _ hk hw.1
  | succ k ih =>
    intro w p v fp h hw
    cases h with
    | d hk => simp only [RWf] at hw; exact RD.dp r.exB _ _ hk hw.1
    | o e hl hi =>
      simp only [RWf] at hw
      obtain ⟨⟨a, h1, rfl⟩, _⟩ := hw
      obtain ⟨a', vs, ho, f, q1, q2, q3, q4, _⟩ := r.get e
      rw [h1] at q1; cases q1
      rw [show ho = .lst vs from q3] at q2
      refine Dp.lst (sq_of q2) (dpAll_of (by rw [q4.length, hl]) fun i v p e1 e2 => ?_)
      have hw : ∃ w, (_ : List W)[i]? = some w := ⟨_, List.getElem?_eq_getElem (by rw [hl]; exact (List.getElem?_eq_some_iff.mp e2).1)⟩
      obtain ⟨w, ew⟩ := hw
      obtain ⟨v', f', ev, rw'⟩ := q4.at ew
      rw [e1] at ev; cases ev
      exact ih (hi i w p ew e2) rw'
    | t hl hi =>
      simp only [RWf] at hw
      obtain ⟨a, vs, rfl, h2, h3⟩ := hw
      refine Dp.tup (st_of (r.exB _ _ h2)) (dpAll_of (by rw [h3.length, hl]) fun i v p e1 e2 => ?_)
      have hw : ∃ w, (_ : List W)[i]? = some w := ⟨_, List.getElem?_eq_getElem (by rw [hl]; exact (List.getElem?_eq_some_iff.mp e2).1)⟩
      obtain ⟨w, ew⟩ := hw
      obtain ⟨v', f', ev, rw'⟩ := h3.at ew
      rw [e1] at ev; cases ev
      exact ih (hi i w p ew e2) rw'
theorem PdN.lst {k n : Nat} {xs : List D} (e : O[n]? = some (some (.lst, xs.map W.d))) (h : ∀ y ∈ xs, y.okp = true) : PdN O (k + 1) (.o n) (.list (xs.map D.pd)) :=
  .o e (by simp) fun i w p e1 e2 => by
    rw [List.getElem?_map] at e1 e2
    cases hx : xs[i]? with
    | none => rw [hx] at e1; simp at e1
    | some y =>
      rw [hx] at e1 e2
      simp at e1 e2
      subst e1; subst e2
      exact .d (h y (List.mem_of_getElem? hx))
end
section
variable {X : Cx} {O : Ob} {Q : W → Ob → Prop}
theorem o2_eqD {k j : Nat} {x y : W} {p q : PyData} (hu : X.A.units + 64 < cLine) (hx : PdN O k x p) (hy : PdN O j y q) (sp : SeqAt.shaped p = true) (sq : SeqAt.shaped q = true) (h : Q (.d (dB (PyData.eqv p q))) O) : O2 X (compareOp .Eq) x y O Q := fun F B ρ a b H r h1 h2 =>
  S2.of (op_eqD hu) ⟨p, q, hx.dp r (RW.any h1), hy.dp r (RW.any h2), sp, sq, Post.here r rd_s h⟩
theorem o2_neD {k j : Nat} {x y : W} {p q : PyData} (hu : X.A.units + 64 < cLine) (hx : PdN O k x p) (hy : PdN O j y q) (sp : SeqAt.shaped p = true) (sq : SeqAt.shaped q = true) (h : Q (.d (dB (!PyData.eqv p q))) O) : O2 X (compareOp .NotEq) x y O Q := fun F B ρ a b H r h1 h2 =>
  S2.of (op_neD hu) ⟨p, q, hx.dp r (RW.any h1), hy.dp r (RW.any h2), sp, sq, Post.here r rd_s h⟩
theorem o2_inD {k j : Nat} {x y : W} {p : PyData} {qs : List PyData} (hu : X.A.units + 65 < cLine) (hx : PdN O k x p) (hy : PdN O j y (.list qs)) (sp : SeqAt.shaped p = true) (sq : SeqAt.shaped (.list qs) = true) (h : Q (.d (dB (qs.any fun z => PyData.eqv z p))) O) : O2 X (compareOp .In) x y O Q := fun F B ρ a b H r h1 h2 =>
  S2.of (op_inD hu) ⟨p, qs, hx.dp r (RW.any h1), hy.dp r (RW.any h2), sp, sq, Post.here r rd_s h⟩
theorem o2_notinD {k j : Nat} {x y : W} {p : PyData} {qs : List PyData} (hu : X.A.units + 65 < cLine) (hx : PdN O k x p) (hy : PdN O j y (.list qs)) (sp : SeqAt.shaped p = true) (sq : SeqAt.shaped (.list qs) = true) (h : Q (.d (dB (!qs.any fun z => PyData.eqv z p))) O) : O2 X (compareOp .NotIn) x y O Q := fun F B ρ a b H r h1 h2 =>
  S2.of (op_notInD hu) ⟨p, qs, hx.dp r (RW.any h1), hy.dp r (RW.any h2), sp, sq, Post.here r rd_s h⟩
end

/-! ### sorted -/
section
variable {X : Cx} {pins : List (Addr × Obj)} {σ : L2.St} {H : Hp} {s : Shared}
theorem each_rel {α : Type} : ∀ {ps : List (V × α)} {us : List Value}, Vals (ps.map (·.1)) us → EachIs (fun (u : Value) (p : V × α) => RelV p.1 u) us ps
  | [], us, h => by
    have h' : Vals [] us := h
    cases h'
    exact .nil
  | p :: ps, us, h => by
    have h' : Vals (p.1 :: ps.map (·.1)) us := h
    cases h' with
    | cons r t => exact .cons r (each_rel t)
theorem rel_each {α : Type} : ∀ {ps : List (V × α)} {us : List Value}, EachIs (fun (u : Value) (p : V × α) => RelV p.1 u) us ps → Vals (ps.map (·.1)) us
  | _, _, .nil => .nil
  | _, _, .cons r t => .cons r (rel_each t)
theorem each_reads {α : Type} (enc : α → PyData) (I : Inv X pins σ H s) : ∀ {ps : List (V × α)} {us : List Value}, (∀ p ∈ ps, Dp X.K H p.1 (enc p.2)) → EachIs (fun (u : Value) (p : V × α) => RelV p.1 u) us ps → EachIs (fun (u : Value) (p : V × α) => ∃ as, Reads s.heap u (enc p.2) as) us ps
  | _, _, _, .nil => .nil
  | _, _, h, .cons r t => .cons (Dp.reads I _ _ _ (h _ List.mem_cons_self) r) (each_reads enc I (fun p hp => h p (List.mem_cons_of_mem _ hp)) t)
/-- sorted(xs): xs's items with what they are, α -/
theorem cr_sortedD {α : Type} (enc : α → PyData) (hu : X.A.units + 64 < cLine) : CallR X (.builtin "sorted") (fun vs H Q => ∃ (a : Addr) (ps : List (V × α)), vs = [.ref a] ∧ SqL X.K H a (ps.map (·.1)) ∧ (∀ p ∈ ps, Dp X.K H p.1 (enc p.2)) ∧
    AllAlike (ps.map fun p => enc p.2) ∧ Sortable (ps.map fun p => enc p.2) ∧ (∀ p ∈ ps, (enc p.2).depth ≤ 16) ∧ ∀ q, H q = none → Q (.ref q) (upd H q (.lst ((ps.mergeSort (dataLe false fun p => enc p.2)).map (·.1))))) := by
  intro pins s σ H vs us Q I r h
  obtain ⟨a, ps, rfl, hs, hd, ha, hk, hdp, q⟩ := h
  obtain ⟨its, rv, hl, hz⟩ := I.list hs
  rw [Vals.ref1 r]
  have e := each_rel rv
  have hlen : (ps.mergeSort (dataLe false fun p => enc p.2)).length = ps.length := List.length_mergeSort _
  refine sorted_data (R := fun (u : Value) (p : V × α) => RelV p.1 u) (enc := fun p => enc p.2) hl.isList e (each_reads enc I hd e) ha hk (by rw [List.length_map] at hz; exact hz) (fun b hb => by have := hdp b hb; omega) fun out h1 h2 => ?_
  obtain ⟨ep, he'⟩ := PyProof.Rows.sortedAll_at s.heap its out.toArray
  refine ⟨.ref _, upd H (s.heap.objs.size + 1) (.lst ((ps.mergeSort (dataLe false fun p => enc p.2)).map (·.1))), I.laid (t' := s.toks) (fun _ _ => PyProof.Rows.sortedAll_old) (Nat.le_succ _) ⟨by rw [List.length_map, hlen]; rw [List.length_map] at hz; exact hz, out, ep, rel_each h2, he'⟩, rfl, q _ (I.hok.fresh (Nat.le_succ _))⟩
end
section
variable {X : Cx} {O : Ob} {Q : W → Ob → Prop} {K : PySem.W.Frag} {B F H : Hp} {ρ : List Addr}
theorem rds_zip {α : Type} (enc : α → D) : ∀ {bs : List α} {vs : List V}, RDs K B (bs.map enc) vs → ((vs.zip bs).map (·.1) = vs ∧ (vs.zip bs).map (·.2) = bs ∧ ∀ p ∈ vs.zip bs, RD K B (enc p.2) p.1)
  | [], vs, h => by simp only [List.map_nil, RDs] at h; subst h; exact ⟨rfl, rfl, fun p hp => by cases hp⟩
  | b :: bs, vs, h => by
    simp only [List.map_cons, RDs] at h
    obtain ⟨v, r, rfl, h2, h3⟩ := h
    obtain ⟨i1, i2, i3⟩ := rds_zip enc h3
    refine ⟨by rw [List.zip_cons_cons, List.map_cons, i1], by rw [List.zip_cons_cons, List.map_cons, i2], fun p hp => ?_⟩
    rw [List.zip_cons_cons] at hp
    rcases List.mem_cons.mp hp with rfl | hp
    · exact h2
    · exact i3 p hp
theorem rds_of_pairs {α : Type} (enc : α → D) : ∀ {ps : List (V × α)}, (∀ p ∈ ps, RD K B (enc p.2) p.1) → RDs K B ((ps.map (·.2)).map enc) (ps.map (·.1))
  | [], _ => by simp only [List.map_nil, RDs]
  | p :: ps, h => by
    simp only [List.map_cons, RDs]
    exact ⟨_, _, rfl, h p List.mem_cons_self, rds_of_pairs enc fun q hq => h q (List.mem_cons_of_mem _ hq)⟩
theorem sort_snd {α : Type} (enc : α → PyData) (ps : List (V × α)) : (ps.mergeSort (dataLe false fun p => enc p.2)).map (·.2) = (ps.map (·.2)).mergeSort (dataLe false enc) := sort_maps (r := dataLe false fun p : V × α => enc p.2) (s := dataLe false enc) (Prod.snd : V × α → α) fun _ _ _ _ => rfl
/-- sorted(xs): bs, each as enc tells -/
theorem oc_sorted {α : Type} (enc : α → D) (bs : List α) {w : W} (hu : X.A.units + 64 < cLine) (as : AsD w (bs.map enc) O) (ok : ∀ b ∈ bs, (enc b).okp = true) (al : ∀ b ∈ bs, ∀ c ∈ bs, alike (enc b).pd (enc c).pd = true)
    (so : Sortable (bs.map fun b => (enc b).pd)) (dp : ∀ b ∈ bs, (enc b).pd.depth ≤ 16) (q : Q (.o O.length) (O ++ [some (.lst, ((bs.mergeSort (dataLe false fun b => (enc b).pd)).map enc).map .d)])) : OC X (.builtin "sorted") [w] O Q := fun F B ρ vs H r h => by
  obtain ⟨v, rfl, h1⟩ := rw_1 h
  obtain ⟨p, us, rfl, hq, rd⟩ := as.sq r h1
  obtain ⟨z1, z2, z3⟩ := rds_zip enc rd
  have mem : ∀ p ∈ us.zip bs, p.2 ∈ bs := fun p hp => by rw [← z2]; exact List.mem_map_of_mem hp
  refine SC.of (cr_sortedD (fun b => (enc b).pd) hu) ⟨p, us.zip bs, rfl, by rw [z1]; exact hq, fun p hp => RD.dp r.exB _ _ (ok _ (mem p hp)) (z3 p hp), ?_, ?_, fun p hp => dp _ (mem p hp), fun l hl => ?_⟩
  · intro d hd d' hd'
    obtain ⟨a, ha, rfl⟩ := List.mem_map.mp hd
    obtain ⟨b, hb, rfl⟩ := List.mem_map.mp hd'
    exact al _ (mem a ha) _ (mem b hb)
  · have e : (us.zip bs).map (fun p => (enc p.2).pd) = bs.map fun b => (enc b).pd := by
      conv => rhs; rw [← z2]
      rw [List.map_map]; rfl
    rw [e]; exact so
  · refine ⟨B, ρ ++ [l], _, _, Gr.refl, List.prefix_append _ _, r.new (h := .lst) hl rfl ?_, rw_new r.len, q⟩
    have e : bs.mergeSort (dataLe false fun b => (enc b).pd) = ((us.zip bs).mergeSort (dataLe false fun p => (enc p.2).pd)).map (·.2) := by rw [sort_snd (fun b => (enc b).pd), z2]
    rw [e]
    exact rws_of_rds (rds_of_pairs enc fun p hp => z3 p ((List.mergeSort_perm _ _).mem_iff.mp hp))
end
end Vf
namespace Vf
open PySem L2 Evl PySem.W
mutual
theorem reads_lt {h : Heap} : ∀ (d : PyData) (v : Value) (as : List Addr), alike d d = true → Reads h v d as → ∀ b ∈ as, b < h.objs.size
  | .none, _, _, _, r => by cases r; intro b hb; cases hb
  | .bool _, _, _, _, r => by cases r; intro b hb; cases hb
  | .int _, _, _, _, r => by cases r; intro b hb; cases hb
  | .str _, _, _, _, r => by cases r; intro b hb; cases hb
  | .list xs, _, _, hal, r => by
    cases r with
    | list h1 h2 h3 h4 =>
      intro b hb
      rcases List.mem_cons.mp hb with rfl | hb
      · exact Heap.lt_size h1
      · exact readsAll_lt xs _ _ (by simpa [alike] using hal) h4 b hb
  | .tuple xs, _, _, hal, r => by
    cases r with
    | tuple h1 h2 h3 h4 => exact readsAll_lt xs _ _ (by simpa [alike] using hal) h4
  | .dict _, _, _, hal, _ => absurd hal (by simp [alike])
theorem readsAll_lt {h : Heap} : ∀ (ds : List PyData) (vs : List Value) (as : List Addr), alikeAll ds ds = true → ReadsAll h vs ds as → ∀ b ∈ as, b < h.objs.size
  | [], _, _, _, r => by cases r; intro b hb; cases hb
  | d :: ds, _, _, hal, r => by
    cases r with
    | cons h1 h2 =>
      intro b hb
      rcases List.mem_append.mp hb with hb | hb
      · exact reads_lt d _ _ (alike_all_cons hal).1 h1 b hb
      · exact readsAll_lt ds _ _ (alike_all_cons hal).2 h2 b hb
end
section
variable {X : Cx} {pins : List (Addr × Obj)} {σ : L2.St} {H : Hp} {s : Shared}
theorem each_dp {α : Type} (enc : α → PyData) (I : Inv X pins σ H s) : ∀ {bs : List α} {us : List Value} {vs : List V}, Vals vs us → vs.length = bs.length → (∀ (i : Nat) v b, vs[i]? = some v → bs[i]? = some b → Dp X.K H v (enc b)) → EachIs (fun (u : Value) (b : α) => ∃ as, Reads s.heap u (enc b) as) us bs
  | [], _, [], h, _, _ => by cases h; exact .nil
  | b :: bs, _, v :: vs, h, hl, hd => by
    cases h with
    | cons r t => exact .cons (Dp.reads I _ _ _ (hd 0 v b rfl rfl) r) (each_dp enc I t (by simpa using hl) fun i v b e1 e2 => hd (i + 1) v b (by simpa using e1) (by simpa using e2))
  | [], _, _ :: _, _, hl, _ => by simp at hl
  | _ :: _, _, [], _, hl, _ => by simp at hl
theorem eachIs_get {α β : Type} {R : α → β → Prop} {as : List α} {bs : List β} (hl : as.length = bs.length) (h : ∀ (i : Nat) a b, as[i]? = some a → bs[i]? = some b → R a b) : EachIs R as bs :=
  EachIs.of_zip hl fun p hp => by
    obtain ⟨i, hi⟩ := List.getElem?_of_mem hp
    obtain ⟨h1, h2⟩ := List.getElem?_zip_eq_some.mp hi
    exact h i _ _ h1 h2
theorem paired_get {α β : Type} {F : α → β → Prop} : ∀ {l₁ : List α} {l₂ : List β}, Paired F l₁ l₂ → ∀ {i : Nat} {b : β}, l₂[i]? = some b → ∃ a, l₁[i]? = some a ∧ F a b
  | _, _, .nil, _, _, e => by simp at e
  | _, _, .cons r t, 0, _, e => by simp at e; subst e; exact ⟨_, rfl, r⟩
  | _, _, .cons r t, i + 1, _, e => by simpa using paired_get t (i := i) (by simpa using e)
/-- sorted(d) of a dict whose keys are rows -/
theorem cr_sortedTD (hu : X.A.units + 64 < cLine) (hc : X.calm = true) : CallR X (.builtin "sorted") (fun vs H Q => ∃ (a : Addr) (kvs : List (List Key × V)), vs = [.ref a] ∧ H a = some (.dT kvs) ∧ (∀ p ∈ kvs, (rD p.1).okp = true) ∧
    AllAlike ((kvs.map (·.1)).map fun k => (rD k).pd) ∧ Sortable ((kvs.map (·.1)).map fun k => (rD k).pd) ∧ (∀ p ∈ kvs, (rD p.1).pd.depth ≤ 16) ∧
      ∀ (q : Addr) (ps : List (Addr × List Key)), H q = none → ps.map (·.2) = (kvs.map (·.1)).mergeSort (dataLe false fun k => (rD k).pd) → (∀ p ∈ ps, H p.1 = some (.tup (p.2.map kV))) → Q (.ref q) (upd H q (.lst (ps.map fun p => .ref p.1)))) := by
  intro pins s σ H vs us Q I r h
  obtain ⟨a, kvs, rfl, ha, hok, hal, hso, hdp, q⟩ := h
  rw [Vals.ref1 r]
  obtain ⟨z, hd, xs, rel, o, es, ep, ho, hx, hdat, hes, _, _⟩ := dt_of I.hok ha
  have hlen : xs.length = kvs.length := (Paired.length rel).symm
  have hesz : es.size = kvs.length := by rw [← Array.length_toList, hes, List.length_map, hlen]
  have kat : ∀ (i : Nat) (hi : i < es.size), ∃ k v q, kvs[i]? = some (k, v) ∧ es[i].key = .ref q ∧ H q = some (.tup (k.map kV)) := fun i hi => by
    have hi' : i < xs.length := by rw [hlen, ← hesz]; exact hi
    obtain ⟨p, h1, h2, h3, _⟩ := paired_get rel (List.getElem?_eq_getElem hi')
    refine ⟨p.1, p.2, xs[i].2.1, h1, ?_, h3⟩
    have : es[i]? = some (entryOfKey (tupleKind (mixKind X.prog X.w)) xs[i]) := by rw [← Array.getElem?_toList, hes, List.getElem?_map, List.getElem?_eq_getElem hi']; rfl
    have e2 : es[i] = entryOfKey (tupleKind (mixKind X.prog X.w)) xs[i] := by
      have := (Array.getElem?_eq_getElem hi).symm.trans this
      exact Option.some.inj this
    rw [e2]; rfl
  refine Calls.call_function_entry PyProof.Rows.kind_sorted PyProof.Rows.plain_sorted PyProof.Rows.entry_sorted (PyProof.Rows.args_sorted1 _) ?_
  unfold Builtin.«sorted»
  refine wpAny_bind (m := checkCount "sorted" 1 1 _) (wpAny_pure ?_)
  refine wpAny_bind (PySem.W.kdu_collect (A := X.A.in1) (KdlSrc.rawDict (es := es) (ep := ep) hd) (I.ok.hd hc) ⟨o, ho, hx, hdat⟩ (by rw [hesz]; exact z) fun h' tk acc hk hacc => ?_)
  have hal' : acc.toList.length = kvs.length := by rw [Array.length_toList, hacc.1, hesz]
  have I1 : Inv X pins σ H { s with heap := h', toks := tk } := I.kept hk
  -- the keys that came, as refs
  have key : ∀ (j : Nat) v, acc.toList[j]? = some v → ∃ k x q, kvs[j]? = some (k, x) ∧ v = .ref q ∧ H q = some (.tup (k.map kV)) := fun j v e => by
    obtain ⟨hi, e2⟩ := hacc.2 j v (by rw [← Array.getElem?_toList]; exact e)
    obtain ⟨k, x, q, h1, h2, h3⟩ := kat j hi
    exact ⟨k, x, q, h1, by rw [e2, h2], h3⟩
  refine wpAny_bind (wpAny_newList ?_ (by rw [hal']; exact z))
  have hoL : (h'.push (PyProof.Rows.seqObj "list" acc.toList.toArray 0)).get? h'.objs.size = some (PyProof.Rows.seqObj "list" acc.toList.toArray 0) := Heap.get?_push_size _ rfl
  show wpAny _ _ _ _ _ { s with heap := h'.push (PyProof.Rows.seqObj "list" acc.toList.toArray 0), toks := tk }
  have hR : EachIs (fun (u : Value) (k : List Key) => ∃ q, u = .ref q ∧ H q = some (.tup (k.map kV))) acc.toList (kvs.map (·.1)) := eachIs_get (by rw [hal', List.length_map]) fun i u k e1 e2 => by
    obtain ⟨k', x, q, h1, h2, h3⟩ := key i u e1
    rw [List.getElem?_map, h1] at e2
    cases e2
    exact ⟨q, h2, h3⟩
  have okk : ∀ k ∈ kvs.map (·.1), (rD k).okp = true := fun k hk => by
    obtain ⟨p, hp, rfl⟩ := List.mem_map.mp hk
    exact hok p hp
  have dpk : ∀ k ∈ kvs.map (·.1), (rD k).pd.depth ≤ 16 := fun k hk => by
    obtain ⟨p, hp, rfl⟩ := List.mem_map.mp hk
    exact hdp p hp
  have hE : EachIs (fun (u : Value) (k : List Key) => ∃ as, Reads (h'.push (PyProof.Rows.seqObj "list" acc.toList.toArray 0)) u (rD k).pd as ∧ h'.objs.size ∉ as) acc.toList (kvs.map (·.1)) := by
    refine eachIs_get (by rw [hal', List.length_map]) fun i u k e1 e2 => ?_
    obtain ⟨k', x, q, h1, h2, h3⟩ := key i u e1
    rw [List.getElem?_map, h1] at e2
    cases e2
    have dp : Dp X.K H (.ref q) (rD k').pd := RD.dp (Ex.refl H) (rD k') (.ref q) (okk _ (List.mem_map.mpr ⟨_, List.mem_of_getElem? h1, rfl⟩)) (by
      simp only [rD, RD, rds_kD]
      exact ⟨q, _, rfl, h3, rfl⟩)
    obtain ⟨as, ra⟩ := Dp.reads I1 _ _ (.ref q) dp rfl
    subst h2
    refine ⟨as, PyProof.Rows.Reads.keeps (fun b o e => Heap.get?_push_of_some _ e) ra, fun hb => ?_⟩
    have := reads_lt _ _ _ (hal _ (List.mem_map.mpr ⟨k', List.mem_map.mpr ⟨_, List.mem_of_getElem? h1, rfl⟩, rfl⟩) _ (List.mem_map.mpr ⟨k', List.mem_map.mpr ⟨_, List.mem_of_getElem? h1, rfl⟩, rfl⟩)) ra _ hb
    exact Nat.lt_irrefl _ this
  refine wpAny_bind (wpAny_holding (list_sort_data (s := { s with heap := h'.push (PyProof.Rows.seqObj "list" acc.toList.toArray 0), toks := tk }) hoL hR hE hal hso (by rw [List.length_map]; exact z) (fun k hk => by have := dpk k hk; show X.A.in1.units + 1 + _ < _; show X.A.units + 1 + 1 + _ < _; omega) fun out h1 h2 => ?_))
  obtain ⟨ep', he'⟩ := PyProof.Rows.sortedHeap_at (vs := acc.toList) (out := out.toArray) hoL
  -- the sorted refs
  have ex : ∃ ps : List (Addr × List Key), ps.map (·.2) = (kvs.map (·.1)).mergeSort (dataLe false fun k => (rD k).pd) ∧ (∀ p ∈ ps, H p.1 = some (.tup (p.2.map kV))) ∧ out = ps.map fun p => Value.ref p.1 := by
    clear he' hE hR h1
    generalize (kvs.map (·.1)).mergeSort (dataLe false fun k => (rD k).pd) = ks at h2
    induction h2 with
    | nil => exact ⟨[], rfl, fun _ hp => (by cases hp), rfl⟩
    | cons hr _ ih =>
      obtain ⟨q, rfl, hq⟩ := hr
      obtain ⟨ps, i1, i2, i3⟩ := ih
      refine ⟨(q, _) :: ps, by rw [List.map_cons, i1], fun p hp => ?_, by rw [List.map_cons, i3]⟩
      rcases List.mem_cons.mp hp with rfl | hp
      · exact hq
      · exact i2 p hp
  obtain ⟨ps, i1, i2, i3⟩ := ex
  have vl : ∀ ps : List (Addr × List Key), Vals (ps.map fun p => V.ref p.1) (ps.map fun p => Value.ref p.1) := fun ps => by
    induction ps with
    | nil => exact .nil
    | cons p ps ih => exact .cons rfl ih
  have hpl : ps.length ≤ sizeLine := by
    have := congrArg List.length i1
    rw [List.length_map, List.length_mergeSort, List.length_map] at this
    omega
  refine wpAny_pure ⟨_, rfl, .ref h'.objs.size, upd H h'.objs.size (.lst (ps.map fun p => V.ref p.1)), I1.laid (t' := tk) (fun b u e => ?_) (Nat.le_refl _)
    (show ObjOk X.prog X.w _ _ _ (.lst (ps.map fun p => V.ref p.1)) from ⟨by rw [List.length_map]; exact hpl, out, ep', by rw [i3]; exact vl ps, he'⟩), rfl, q _ ps (I1.hok.fresh (Nat.le_refl _)) i1 i2⟩
  have hb : b < h'.objs.size := Heap.lt_size e
  rw [PyProof.Rows.sortedHeap_old (Nat.ne_of_lt hb) (by show b < (h'.push _).objs.size; rw [Heap.size_push]; exact Nat.lt_succ_of_lt hb)]
  exact Heap.get?_push_of_some _ e
end
section
variable {X : Cx} {O : Ob} {Q : W → Ob → Prop} {K : PySem.W.Frag} {B F H : Hp} {ρ : List Addr}
/-- tuples that stand are data -/
theorem HR.addTs (r : HR K B F ρ O H) : ∀ (ps : List (Addr × List Key)), (∀ p ∈ ps, H p.1 = some (.tup (p.2.map kV))) → ∃ B', Gr F B B' ∧ HR K B' F ρ O H ∧ ∀ p ∈ ps, B' p.1 = some (.tup (p.2.map kV))
  | [], _ => ⟨B, Gr.refl, r, fun _ h => by cases h⟩
  | p :: ps, h => by
    obtain ⟨B1, g1, r1, h1⟩ := HR.addTs r ps fun q hq => h q (List.mem_cons_of_mem _ hq)
    obtain ⟨r2, g2⟩ := r1.addT (h p List.mem_cons_self)
    refine ⟨_, g1.trans g2, r2, fun q hq => ?_⟩
    rcases List.mem_cons.mp hq with rfl | hq
    · exact upd_same
    · exact g2.ex _ _ (h1 q hq)
theorem rds_refs : ∀ {ps : List (Addr × List Key)}, (∀ p ∈ ps, B p.1 = some (.tup (p.2.map kV))) → RDs K B ((ps.map (·.2)).map rD) (ps.map fun p => V.ref p.1)
  | [], _ => by simp only [List.map_nil, RDs]
  | p :: ps, h => by
    simp only [List.map_cons, RDs]
    refine ⟨_, _, rfl, ?_, rds_refs fun q hq => h q (List.mem_cons_of_mem _ hq)⟩
    simp only [rD, RD, rds_kD]
    exact ⟨p.1, _, rfl, h p List.mem_cons_self, rfl⟩
/-- sorted(d), keys are rows -/
theorem oc_sortedT {n : Nat} {kvs : List (List Key × D)} (hu : X.A.units + 64 < cLine) (e : O[n]? = some (some (dTD kvs))) (ok : ∀ k ∈ kvs.map (·.1), (rD k).okp = true) (al : ∀ k ∈ kvs.map (·.1), ∀ k' ∈ kvs.map (·.1), alike (rD k).pd (rD k').pd = true)
    (so : Sortable ((kvs.map (·.1)).map fun k => (rD k).pd)) (dp : ∀ k ∈ kvs.map (·.1), (rD k).pd.depth ≤ 16)
    (q : Q (.o O.length) (O ++ [some (.lst, (((kvs.map (·.1)).mergeSort (dataLe false fun k => (rD k).pd)).map rD).map .d)])) (hc : X.calm = true := by rfl) : OC X (.builtin "sorted") [.o n] O Q := fun F B ρ vs H r h => by
  obtain ⟨v, rfl, h1⟩ := rw_1 h
  obtain ⟨p, kvs', rfl, hp, rk, w⟩ := r.dT e h1
  have ek : kvs'.map (·.1) = kvs.map (·.1) := rk.keys
  refine SC.of (cr_sortedTD hu hc) ⟨p, kvs', rfl, hp, fun q hq => ok _ (by rw [← ek]; exact List.mem_map_of_mem hq), ?_, by rw [ek]; exact so, fun q hq => dp _ (by rw [← ek]; exact List.mem_map_of_mem hq), fun l ps hl hps ht => ?_⟩
  · rw [ek]
    intro d hd d' hd'
    obtain ⟨a, ha, rfl⟩ := List.mem_map.mp hd
    obtain ⟨b, hb, rfl⟩ := List.mem_map.mp hd'
    exact al _ ha _ hb
  · rw [ek] at hps
    obtain ⟨B1, g1, r1, ht1⟩ := r.addTs ps ht
    refine ⟨B1, ρ ++ [l], _, _, g1, List.prefix_append _ _, r1.new (h := .lst) hl rfl ?_, rw_new r.len, q⟩
    rw [← hps]
    exact rws_of_rds (rds_refs ht1)
end
end Vf

/-! Vf10: list.remove of data, extend, + and * of lists, join, isinstance. -/
namespace Vf
open PySem L2 Evl PySem.W

section
variable {X : Cx} {O : Ob} {Q : W → Ob → Prop} {K : PySem.W.Frag} {B F H : Hp} {ρ : List Addr}
theorem plain_pd : ∀ x : D, x.pd.plain = true ∧ True := by
  have h : (∀ x : D, x.pd.plain = true) ∧ ∀ xs : List D, PyData.plainAll (D.pds xs) = true := by
    constructor
    · exact D.rec (motive_1 := fun x => x.pd.plain = true) (motive_2 := fun xs => PyData.plainAll (D.pds xs) = true)
        (fun v => by cases v <;> rfl) (fun xs ih => by rw [D.pd, PyData.plain]; exact ih) (fun xs ih => by rw [D.pd, PyData.plain]; exact ih) rfl (fun x xs h1 h2 => by rw [D.pds, PyData.plainAll, h1, h2]; rfl)
    · exact D.rec_1 (motive_1 := fun x => x.pd.plain = true) (motive_2 := fun xs => PyData.plainAll (D.pds xs) = true)
        (fun v => by cases v <;> rfl) (fun xs ih => by rw [D.pd, PyData.plain]; exact ih) (fun xs ih => by rw [D.pd, PyData.plain]; exact ih) rfl (fun x xs h1 h2 => by rw [D.pds, PyData.plainAll, h1, h2]; rfl)
  exact fun x => ⟨h.1 x, trivial⟩
theorem plains_pd (xs : List D) : PyData.plainAll (xs.map D.pd) = true := by
  induction xs with
  | nil => rfl
  | cons x xs ih => rw [List.map_cons, PyData.plainAll, (plain_pd x).1, ih]; rfl
def rRemD (K : PySem.W.Frag) : V → List V → Hp → VK → Prop := fun x xs H Q => ∃ (l : Addr) (vs : List V) (y : V) (ds : List PyData) (d : PyData) (j : Nat), x = .ref l ∧ xs = [y] ∧ H l = some (.lst vs) ∧ DpAll K H vs ds ∧ Dp K H y d ∧ PyData.plainAll ds = true ∧ d.plain = true ∧ d.depth ≤ 16 ∧
  SeqAt.dataPlace ds d = some j ∧ Q .non (upd H l (.lst (vs.eraseIdx j)))
theorem mt_removeD (hu : X.A.units + 64 < cLine) : MtR X "list.remove" (rRemD X.K) := by
  intro pins s σ H x xs v us Q I rx rxs h
  obtain ⟨l, vs, y, ds, d, j, rfl, rfl, hH, hd, hy, p1, p2, hdp, hj, q⟩ := h
  cases rx
  obtain ⟨u, rfl, ru⟩ := rxs.one
  obtain ⟨z, its, n, r, hl, e⟩ := I.lstM hH
  obtain ⟨as, ra⟩ := Dp.readsAll I ds _ its hd r
  obtain ⟨bs, rb⟩ := Dp.reads I d _ _ hy ru
  have hmin : min (PyData.depthAll ds) d.depth ≤ 16 := Nat.le_trans (Nat.min_le_right _ _) hdp
  refine SeqAt.remove_list_data (vs := its.toArray) ⟨_, e, rfl, n, rfl⟩ (show ReadsAll s.heap its.toArray.toList ds as from ra) rb p1 p2 (by omega) hj (by rw [List.size_toArray, ← hl]; exact z) ?_
  refine ⟨.non, _, I.lset (its' := its.eraseIdx j) (t' := s.toks) hH e ?_ (r.eraseIdx j) (Nat.le_trans (len_erase _ _) z), rfl, q⟩
  show its.toArray.eraseIdxIfInBounds j = (its.eraseIdx j).toArray
  rw [List.eraseIdxIfInBounds_toArray]
theorem rds_erase : ∀ {xs : List D} {vs : List V} {j : Nat}, RDs K B xs vs → RDs K B (xs.eraseIdx j) (vs.eraseIdx j)
  | [], vs, j, h => by simp only [RDs] at h; subst h; simp only [List.eraseIdx_nil, RDs]
  | x :: xs, vs, 0, h => by
    simp only [RDs] at h
    obtain ⟨v, r, rfl, h2, h3⟩ := h
    exact h3
  | x :: xs, vs, j + 1, h => by
    simp only [RDs] at h
    obtain ⟨v, r, rfl, h2, h3⟩ := h
    simp only [List.eraseIdx_cons_succ, RDs]
    exact ⟨v, _, rfl, h2, rds_erase h3⟩
/-- xs.remove(x), x is there at j -/
theorem om_remove {n j : Nat} {xs : List D} {x : D} (hu : X.A.units + 64 < cLine) (e : O[n]? = some (some (.lst, xs.map .d))) (ok : ∀ y ∈ xs, y.okp = true) (okx : x.okp = true) (dp : x.pd.depth ≤ 16) (hj : xs.findIdx? (fun y => PyData.eqv y.pd x.pd) = some j)
    (q : Q (.d dN) (O.set n (some (.lst, (xs.eraseIdx j).map .d)))) : OM X "list" "list.remove" (.o n) [.d x] O Q := fun F B ρ a as H r h1 h2 => by
  obtain ⟨p, vs, rfl, hp, rd, w⟩ := r.lstD e h1
  obtain ⟨v, rfl, h3⟩ := rw_1 h2
  simp only [RWf] at h3
  refine SM.of (mt_removeD hu) ⟨p, vs, v, D.pds xs, x.pd, j, rfl, rfl, hp, RDs.dp r.exB _ _ (okps_all ok) rd, RD.dp r.exB _ _ okx h3.1, by rw [pds_map]; exact plains_pd xs, (plain_pd x).1, dp, ?_, ?_⟩
  · unfold SeqAt.dataPlace
    rw [pds_map, List.findIdx?_map]
    exact hj
  · exact ⟨B, ρ, _, _, Gr.refl, List.prefix_refl _, w _ _ (rws_of_rds (rds_erase rd)), rd_s, q⟩
/-- xs.extend(ys), both owned -/
theorem om_extend {n m : Nat} {xs ys : List D} (e : O[n]? = some (some (.lst, xs.map .d))) (e2 : O[m]? = some (some (.lst, ys.map .d))) (hl : xs.length + ys.length ≤ 1000000) (q : Q (.d dN) (O.set n (some (.lst, (xs ++ ys).map .d)))) : OM X "list" "list.extend" (.o n) [.o m] O Q := fun F B ρ a as H r h1 h2 => by
  obtain ⟨p, vs, rfl, hp, rd, w⟩ := r.lstD e h1
  obtain ⟨v, rfl, h3⟩ := rw_1 h2
  obtain ⟨p2, vs2, rfl, hp2, rd2, w2⟩ := r.lstD e2 h3
  refine SM.of mt_extend ⟨p, p2, vs, vs2, rfl, rfl, hp, hp2, Nat.le_trans (by rw [rd.length, rd2.length]; exact hl) (by decide), ?_⟩
  exact ⟨B, ρ, _, _, Gr.refl, List.prefix_refl _, w _ _ (rws_of_rds (rds_append rd rd2)), rd_s, q⟩
/-- xs + ys, both owned: a new list -/
theorem o2_addL {n m : Nat} {xs ys : List D} (e : O[n]? = some (some (.lst, xs.map .d))) (e2 : O[m]? = some (some (.lst, ys.map .d))) (hl : xs.length + ys.length ≤ 1000000) (q : Q (.o O.length) (O ++ [some (.lst, (xs ++ ys).map .d)])) : O2 X (binaryOp .Add) (.o n) (.o m) O Q := fun F B ρ a b H r h1 h2 => by
  obtain ⟨p, vs, rfl, hp, rd, w⟩ := r.lstD e h1
  obtain ⟨p2, vs2, rfl, hp2, rd2, w2⟩ := r.lstD e2 h2
  refine S2.of op_cat ⟨p, p2, vs, vs2, rfl, rfl, hp, hp2, Nat.le_trans (by rw [rd.length, rd2.length]; exact hl) (by decide), fun l hl => ?_⟩
  exact ⟨B, ρ ++ [l], _, _, Gr.refl, List.prefix_append _ _, r.new (h := .lst) hl rfl (rws_of_rds (rds_append rd rd2)), rw_new r.len, q⟩
theorem rds_rep (rd : RDs K B [x] vs) : ∀ k : Nat, RDs K B (List.replicate k x) (List.replicate k vs).flatten := by
  simp only [RDs] at rd
  obtain ⟨v, r, rfl, h2, rfl⟩ := rd
  intro k
  induction k with
  | zero => simp only [List.replicate_zero, List.flatten_nil, RDs]
  | succ k ih =>
    rw [List.replicate_succ, List.replicate_succ, List.flatten_cons]
    show RDs K B (x :: List.replicate k x) (v :: (List.replicate k [v]).flatten)
    simp only [RDs]
    exact ⟨v, _, rfl, h2, ih⟩
/-- [x] * k -/
theorem o2_rep {n : Nat} {x : D} {k : Int} (e : O[n]? = some (some (.lst, [x].map .d))) (h1 : -(2 ^ 63) ≤ k) (h2 : k < 1000000) (q : Q (.o O.length) (O ++ [some (.lst, (List.replicate k.toNat x).map .d)])) : O2 X (binaryOp .Mult) (.o n) (.d (dI k)) O Q := fun F B ρ a b H r h3 h4 => by
  obtain ⟨p, vs, rfl, hp, rd, w⟩ := r.lstD e h3
  refine S2.of op_rep ⟨p, k, vs, rfl, rw_s h4, hp, h1, by omega, Nat.le_trans (m := 1000000) (by rw [rd.length, List.length_singleton]; omega) (by decide), fun l hl => ?_⟩
  exact ⟨B, ρ ++ [l], _, _, Gr.refl, List.prefix_append _ _, r.new (h := .lst) hl rfl (rws_of_rds (rds_rep rd _)), rw_new r.len, q⟩
/-- sep.join(xs) -/
theorem rds_strs : ∀ {zs : List Str} {vs : List V}, RDs K B (zs.map dS) vs → vs = zs.map V.str
  | [], vs, h => by simp only [List.map_nil, RDs] at h; exact h
  | z :: zs, vs, h => by
    simp only [List.map_cons, RDs, RD] at h
    obtain ⟨v, r, rfl, rfl, h3⟩ := h
    rw [List.map_cons, rds_strs h3]
theorem om_join {w : W} {a : Str} {zs : List Str} (as : AsD w (zs.map dS) O) (hl : (zs.map (·.length)).sum + zs.length * a.length ≤ 16777216) (q : Q (.d (dS (Txt.join a zs))) O) : OM X "str" "str.join" (.d (dS a)) [w] O Q := fun F B ρ u vs H r h1 h2 => by
  obtain ⟨v, rfl, h3⟩ := rw_1 h2
  obtain ⟨p, us, rfl, hq, rd⟩ := as.sq r h3
  exact SM.of mt_join ⟨a, p, zs, rw_s h1, rfl, .inl (by rw [← rds_strs rd]; exact hq), hl, Post.here r rd_s q⟩
end
end Vf
namespace Vf
open PySem L2 Evl PySem.W
section
variable {X : Cx} {O : Ob} {Q : W → Ob → Prop} {K : PySem.W.Frag} {B F H : Hp} {ρ : List Addr}
/-! isinstance -/
inductive TyW (O : Ob) : W → String → Prop where
  | t {w ws} : AsT w ws → TyW O w "tuple"
  | l {w xs} : AsD w xs O → TyW O w "list"
  | int {i} : TyW O (.d (dI i)) "int"
  | str {x} : TyW O (.d (dS x)) "str"
  | bl {b} : TyW O (.d (dB b)) "bool"
  | non : TyW O (.d dN) "NoneType"
  | dct {w} : IsDW O w → TyW O w "dict"
theorem TyW.at {w : W} {tn : String} {v : V} (t : TyW O w tn) (r : HR K B F ρ O H) (h : RW K B ρ B w v) : TyX K H v (.type tn) := by
  cases t with
  | t a =>
    obtain ⟨p, vs, rfl, hq, _⟩ := a.sq h
    exact .base (.tup (r.exB _ _ hq))
  | l a =>
    obtain ⟨p, vs, rfl, hq, _⟩ := a.sq r h
    rcases hq with (hq | ⟨o, hq⟩) | ⟨o, its, n, h1, h2, _⟩
    · exact .base (.lst hq)
    · exact .base (.frz hq)
    · exact .kList h1 h2
  | int => rw [rw_s h]; exact .base (.int _)
  | str => rw [rw_s h]; exact .base (.str _)
  | bl => rw [rw_s h]; exact .base (.bl _)
  | non => rw [rw_s h]; exact .base .non
  | dct d =>
    obtain ⟨p, rfl, _, h2⟩ := d.at r h
    rcases h2 with ⟨kvs, h2⟩ | ⟨kvs, h2⟩
    · exact .base (.dK h2)
    · exact .base (.dT h2)
theorem oc_isi {w : W} {tn cn : String} {b : Bool} (t : TyW O w tn) (hb : kitB tn cn = some b) (q : Q (.d (dB b)) O) : OC X (.builtin "isinstance") [w, .d (.s (.ty cn))] O Q := fun F B ρ vs H r h => by
  obtain ⟨v, v', rfl, h1, h2⟩ := rw_2 h
  rw [rw_s h2]
  exact SC.of call_isi ⟨v, .ty cn, _, _, b, rfl, .ty cn, t.at r h1, kit_ty hb, Post.here r rd_s q⟩
/-- a built-in class by its name, as a value -/
theorem we_tyv {σ : List (Option W)} {x : Str} {pos : Pos} {n : String} (hm : X.mg x = none) (q : Q (.d (.s (.ty n))) O) (hv : bootBuiltins x = some (.type n) := by decide +kernel) (hg : Gl X x := by rfl) (hn : x ≠ "__name__" := by decide) (hd : (x == ("__debug__" : Str)) = false := by decide) : WE X (.Name x pos) σ O Q :=
  we_c (v := .ty n) (pe_bltn hg hm hv (show RelV (.ty n) (.type n) from rfl) hn hd) q
end
end Vf

/-! Vf11: walks over dicts whose keys are rows, while they are locked. -/
namespace Vf
open PySem L2 Evl PySem.W

/-- the pairs of the locked dict at d, each a new tuple of the key's own tuple and the value -/
def ItiT (d : Addr) (o : Obj) (kvs : List (List Key × V)) : It :=
  ⟨fun i H => H d = some (.frz o (.dT kvs)) ∧ i < kvs.length, fun i H x H' => ∃ T k v q, kvs[i]? = some (k, v) ∧ x = .ref T ∧ H T = none ∧ H q = some (.tup (k.map kV)) ∧ H' = upd H T (.tup [.ref q, v]), fun i H => H d = some (.frz o (.dT kvs)) ∧ kvs.length ≤ i⟩
section
variable {X : Cx} {pins : List (Addr × Obj)} {σ : L2.St} {H : Hp} {s : Shared} {d : Addr} {o : Obj}
/-- the entries of a locked dict -/
theorem lockedT {kvs : List (List Key × V)} (I : Inv X pins σ H s) (h : H d = some (.frz o (.dT kvs))) :
    (d == sysModules) = false ∧ ∃ (es : Array DictEntry) (ep : Nat), o.data = .dict es ep ∧ s.heap.DictRaw d es ep ∧ es.size = kvs.length ∧
      ∀ (i : Nat) (hi : i < es.size), ∃ k v q, kvs[i]? = some (k, v) ∧ es[i].key = .ref q ∧ H q = some (.tup (k.map kV)) ∧ RelV v es[i].val := by
  obtain ⟨hd, _, hs, xs, rel, o', es, ep, ho, hx, hdt, hes, _⟩ := I.hok d _ h
  rw [hd] at ho
  cases ho
  have hlen : xs.length = kvs.length := (Paired.length rel).symm
  have hesz : es.size = kvs.length := by rw [← Array.length_toList, hes, List.length_map, hlen]
  refine ⟨hs, es, ep, hdt, ⟨o, hd, hx, hdt⟩, hesz, fun i hi => ?_⟩
  have hi' : i < xs.length := by rw [hlen, ← hesz]; exact hi
  obtain ⟨p, h1, h2, h3, h4⟩ := Vf.paired_get rel (List.getElem?_eq_getElem hi')
  have e1 : es[i]? = some (entryOfKey (tupleKind (mixKind X.prog X.w)) xs[i]) := by rw [← Array.getElem?_toList, hes, List.getElem?_map, List.getElem?_eq_getElem hi']; rfl
  have e2 : es[i] = entryOfKey (tupleKind (mixKind X.prog X.w)) xs[i] := Option.some.inj ((Array.getElem?_eq_getElem hi).symm.trans e1)
  exact ⟨p.1, p.2, xs[i].2.1, h1, by rw [e2]; rfl, h3, by rw [e2]; exact h4⟩
end
section
variable {P : Program} {w : World} {K : PySem.W.Frag} {d : Addr} {o : Obj} {es : Array DictEntry} {ep : Nat}
theorem turn_itemsT {kvs : List (List Key × V)} {elts : List Expr} {kk : Nat} {tpos : Pos} (it : Addr) (hod : o.data = .dict es ep) :
    Turn P w K (.Tuple elts kk tpos) (ItiT d o kvs) [it] it (fun i h => ∃ ok ov, IsItemIter h it d i kvs.length ep ok ov) where
  mem := List.mem_singleton.mpr rfl
  obj := fun i h st b hb => by
    rcases List.mem_singleton.mp hb with rfl
    obtain ⟨ok, ov, e⟩ := st
    exact ⟨_, e, fun v z => nomatch z⟩
  keep := fun i h h' st k => by
    obtain ⟨ok, ov, e⟩ := st
    exact ⟨ok, ov, k it (List.mem_singleton.mpr rfl) _ e⟩
  item := by
    intro X hP hw hK hc i pins s σ H E I hf st hg
    subst hP hw hK
    obtain ⟨hd, hi⟩ := hg
    obtain ⟨hs, es', ep', hdt, hm, hsz, ent⟩ := lockedT I hd
    obtain ⟨rfl, rfl⟩ := dict_ep hod hdt
    have hie : i < es'.size := by rw [hsz]; exact hi
    obtain ⟨k, v, q, hkv, hkey, hq, hv⟩ := ent i hie
    obtain ⟨ok, ov, he⟩ := st
    rw [← hsz] at he
    have hlt : it < s.heap.objs.size := Heap.lt_size he
    refine wpAny_pyNext_items_item_raw he hm hie fun h' ho hT hz hk => ?_
    refine ⟨_, rfl, wpAny_letOwnedTupleGo_items (s := { s with heap := h' }) ho fun h'' he' sb => ?_⟩
    have hT2 : h''.get? s.heap.objs.size = some { cls := .type "tuple", data := .seq #[es'[i].key, es'[i].val] } := (sb.2 _ (Nat.ne_of_gt hlt)).trans hT
    have rk : RelV (.ref q) es'[i].key := hkey
    have new : ObjOk X.prog X.w (upd H s.heap.objs.size (.tup [.ref q, v])) h'' s.heap.objs.size (.tup [.ref q, v]) :=
      ⟨by show 2 ≤ sizeLine; decide, [es'[i].key, es'[i].val], .cons rk (.cons hv .nil), _, hT2, rfl, _, rfl⟩
    have I1 : Inv X pins σ (upd H s.heap.objs.size (.tup [.ref q, v])) { s with heap := h'' } :=
      I.turnedNew (t' := s.toks) (ch := [it]) (fun b ob hb e => (sb.2 b (fun z => hb (z ▸ List.mem_singleton.mpr rfl))).trans (hk b ob (fun z => hb (z ▸ List.mem_singleton.mpr rfl)) e)) hf (Nat.le_refl _) new
    refine ⟨.ref s.heap.objs.size, _, I1, rfl, ⟨_, k, v, q, hkv, rfl, I.hok.fresh (Nat.le_refl _), hq, rfl⟩, ⟨es'[i].key, es'[i].val, by rw [← hsz]; exact he'⟩, fun b hb => ?_⟩
    rcases List.mem_singleton.mp hb with rfl
    rw [upd_ne (Nat.ne_of_lt hlt)]
    exact (hf b (List.mem_singleton.mpr rfl)).1
  done := by
    intro X hP hw hK hc i pins s σ H E I hf st hg
    subst hP hw hK
    obtain ⟨hd, hi⟩ := hg
    obtain ⟨f0, f1, f2, f3, f4, f5⟩ := hf it (List.mem_singleton.mpr rfl)
    obtain ⟨hs, es', ep', hdt, hm, hsz, ent⟩ := lockedT I hd
    obtain ⟨rfl, rfl⟩ := dict_ep hod hdt
    obtain ⟨ok, ov, he⟩ := st
    rw [← hsz] at he
    exact wpAny_pyNext_items_end_raw (I.ok.hd hc) he hm (by rw [hsz]; exact hi) fun h' eb => ⟨rfl, I.turned (t' := s.toks) (fun b ob hb e => eb b ob hb e) f0 f1 f3 f4 f5⟩
  self := fun A i s Q E st h => by
    obtain ⟨_, _, e⟩ := st
    exact PySem.W.kcp_self e h
end
def iItemsT (td : TE) : TI := fun σ H R => td σ H fun x H1 => ∃ d o kvs, x = .ref d ∧ H1 d = some (.frz o (.dT kvs)) ∧ R (ItiT d o kvs) H1
section
variable {X : Cx} {e : Expr} {td : TE} {apos cpos : Pos}
theorem pi_itemsT {elts : List Expr} {kk : Nat} {tpos : Pos} (he : PE X e td) (hbase : attributeBase e "items" X.env (eval e X.env) = eval e X.env := by rfl) (hline : (apos.endLine == cpos.line) = true := by rfl) :
    PI X (.Tuple elts kk tpos) (.Call (.Attribute e "items" apos) [] [] cpos) (iItemsT td) := by
  refine ⟨fun pins s σ H R I h => ?_⟩
  refine wpAny_Call_method (T := "dict") (id := "dict.items") hbase rfl hline F.plainAttrs_dict F.slot_dict_items F.type_dict_items (thn (he.run pins s σ H _ I h) fun u s1 ⟨x, H1, I1, rx, d, o, kvs, ex, hd, q⟩ => ?_)
  subst ex
  obtain rfl : u = Value.ref d := rx
  obtain ⟨hs, es, ep, hdt, hm, hsz, ent⟩ := lockedT I1 hd
  refine ⟨hm.typeIs, ?_, ?_⟩
  · intro b hb
    cases hb
    obtain ⟨o', ho', hx', hd'⟩ := hm
    exact ⟨o', ho', hx'.2.1⟩
  have I2 : Inv X pins σ H1 { s1 with heap := s1.heap.push { cls := .type "dict_items", data := .fields #[.ref d] } } := I1.kept (t' := s1.toks) fun b ob q => Heap.get?_push_of_some _ q
  have fin : wpAny (model X.prog X.w) X.A (pyIter (.ref s1.heap.objs.size)) (PIE X pins σ (.Tuple elts kk tpos) R) X.xe { s1 with heap := s1.heap.push { cls := .type "dict_items", data := .fields #[.ref d] } } := by
    refine wpAny_pyIter_items_raw (d := d) ⟨_, Heap.get?_push_size _ rfl, rfl, rfl⟩ (hm.at fun o e => Heap.get?_push_of_some _ e) (pi_one (tk := s1.toks) I2 _ (turn_itemsT _ hdt) ⟨.none, .none, ?_⟩ q)
    rw [← hsz]
    exact Heap.get?_push_size _ rfl
  show wpAny _ _ (callWith cpos (.builtin "dict.items") [.ref d] [] []) _ X.xe s1
  exact method_meetsIn F.slot_dict_items F.entry_dict_items rfl (PySem.evalArgs_none ⟨rfl, hm.typeIs, F.args_dict_items_1 _, _, meets_dict_items_raw d hs, ⟨es, ep, hm⟩, fin⟩)
end

/-! ### while a dict is locked -/
section
variable {X : Cx} {K : PySem.W.Frag} {B B' F H : Hp} {ρ ρ' : List Addr} {O : Ob}
mutual
/-- what a value leans on: tuples and lists at B -/
theorem RD.cong (kt : ∀ a vs, B a = some (.tup vs) → B' a = some (.tup vs)) (kl : ∀ a vs, SqL K B a vs → SqL K B' a vs) : ∀ (y : D) (v : V), RD K B y v → RD K B' y v
  | .s _, u, h => by simp only [RD] at h ⊢; exact h
  | .t xs, u, h => by
    simp only [RD] at h ⊢
    obtain ⟨a, vs, h1, h2, h3⟩ := h
    exact ⟨a, vs, h1, kt _ _ h2, RDs.cong kt kl xs vs h3⟩
  | .l xs, u, h => by
    simp only [RD] at h ⊢
    obtain ⟨a, vs, h1, h2, h3⟩ := h
    exact ⟨a, vs, h1, kl _ _ h2, RDs.cong kt kl xs vs h3⟩
theorem RDs.cong (kt : ∀ a vs, B a = some (.tup vs) → B' a = some (.tup vs)) (kl : ∀ a vs, SqL K B a vs → SqL K B' a vs) : ∀ (xs : List D) (vs : List V), RDs K B xs vs → RDs K B' xs vs
  | [], vs, h => by simp only [RDs] at h ⊢; exact h
  | x :: xs, vs, h => by
    simp only [RDs] at h ⊢
    obtain ⟨v, r, h1, h2, h3⟩ := h
    exact ⟨v, r, h1, RD.cong kt kl x v h2, RDs.cong kt kl xs r h3⟩
end
mutual
theorem RWf.cong (kt : ∀ a vs, B a = some (.tup vs) → B' a = some (.tup vs)) (kl : ∀ a vs, SqL K B a vs → SqL K B' a vs) : ∀ (w : W) (v : V) (fp : List Addr), RWf K B ρ H w v fp → RWf K B' ρ H w v fp
  | .d y, v, fp, h => by
    simp only [RWf] at h ⊢
    exact ⟨RD.cong kt kl y v h.1, h.2⟩
  | .o n, v, fp, h => by simp only [RWf] at h ⊢; exact h
  | .t ws, v, fp, h => by
    simp only [RWf] at h ⊢
    obtain ⟨a, vs, h1, h2, h3⟩ := h
    exact ⟨a, vs, h1, kt _ _ h2, RWfs.cong kt kl ws vs fp h3⟩
  | .n hd ws, v, fp, h => by
    simp only [RWf] at h ⊢
    obtain ⟨a, vs, ho, f, h1, h2, h3, h4, h5⟩ := h
    exact ⟨a, vs, ho, f, h1, h2, h3, h4, RWfs.cong kt kl ws vs f h5⟩
  | .x, v, fp, h => by simp only [RWf] at h ⊢; exact h
theorem RWfs.cong (kt : ∀ a vs, B a = some (.tup vs) → B' a = some (.tup vs)) (kl : ∀ a vs, SqL K B a vs → SqL K B' a vs) : ∀ (ws : List W) (vs : List V) (fp : List Addr), RWfs K B ρ H ws vs fp → RWfs K B' ρ H ws vs fp
  | [], vs, fp, h => by simp only [RWfs] at h ⊢; exact h
  | w :: ws, vs, fp, h => by
    simp only [RWfs] at h ⊢
    obtain ⟨v, r, f1, f2, h1, h2, h3, h4⟩ := h
    exact ⟨v, r, f1, f2, h1, h2, RWf.cong kt kl w v f1 h3, RWfs.cong kt kl ws r f2 h4⟩
end
theorem RS.cong (kt : ∀ a vs, B a = some (.tup vs) → B' a = some (.tup vs)) (kl : ∀ a vs, SqL K B a vs → SqL K B' a vs) : ∀ {ws : List (Option W)} {vs : L2.St}, RS K B ρ ws vs → RS K B' ρ ws vs
  | [], _, h => h
  | w :: _, _, h => by
    obtain ⟨v, r, h1, h2, h3⟩ := h
    refine ⟨v, r, h1, ?_, RS.cong kt kl h3⟩
    cases w with
    | none => exact h2
    | some w =>
      cases w with
      | x => exact True.intro
      | d x => obtain ⟨u, e1, e2⟩ := h2; exact ⟨u, e1, RW.any (H := B) (RWf.cong kt kl _ _ _ e2)⟩
      | o x => obtain ⟨u, e1, e2⟩ := h2; exact ⟨u, e1, RW.any (H := B) (RWf.cong kt kl _ _ _ e2)⟩
      | t x => obtain ⟨u, e1, e2⟩ := h2; exact ⟨u, e1, RW.any (H := B) (RWf.cong kt kl _ _ _ e2)⟩
      | n x y => obtain ⟨u, e1, e2⟩ := h2; exact ⟨u, e1, RW.any (H := B) (RWf.cong kt kl _ _ _ e2)⟩
/-- a dict that is owned: its pairs, kept as one of the two kinds -/
inductive DOb : OO → List D → List D → Type where
  | t (kvs : List (List Key × D)) : DOb (dTD kvs) (kvs.map fun p => rD p.1) (kvs.map (·.2))
  | k (kvs : List (Key × D)) : DOb (dKD kvs) (kvs.map fun p => kD p.1) (kvs.map (·.2))
/-- the object n, a dict, is locked: it is data for now -/
structure Lk (K : PySem.W.Frag) (B : Hp) (ρ : List Addr) (n : Nat) (a : Addr) (od : Obj) (u : HO) (x : OO) : Prop where
  nm : ρ[n]? = some a
  at_ : B a = some (.frz od u)
  what : (∃ (kvs : List (List Key × D)) (kvs' : List (List Key × V)), x = dTD kvs ∧ u = .dT kvs' ∧ RKV K B kvs kvs') ∨ (∃ (kvs : List (Key × D)) (kvs' : List (Key × V)), x = dKD kvs ∧ u = .dK kvs' ∧ RKV K B kvs kvs')
theorem Lk.mono (h : Lk K B ρ n a od u x) (e : Ex B B') (p : ρ <+: ρ') : Lk K B' ρ' n a od u x := by
  refine ⟨pre_get p h.nm, e _ _ h.at_, ?_⟩
  rcases h.what with ⟨kvs, kvs', h1, h2, h3⟩ | ⟨kvs, kvs', h1, h2, h3⟩
  · exact .inl ⟨kvs, kvs', h1, h2, h3.mono e⟩
  · exact .inr ⟨kvs, kvs', h1, h2, h3.mono e⟩
theorem lock_in {n : Nat} {x : OO} (r : HR K B F ρ O H) (e : O[n]? = some (some x)) (hx : (∃ kvs, x = dTD kvs) ∨ ∃ kvs, x = dKD kvs) :
    ∃ a u, H a = some u ∧ Mut (some u) ∧ ∀ od, HR K (upd B a (.frz od u)) F ρ (O.set n none) (upd H a (.frz od u)) ∧ Gr F B (upd B a (.frz od u)) ∧ Lk K (upd B a (.frz od u)) ρ n a od u x ∧ B a = none ∧ F a = none ∧ ((∃ (kvs : List (List Key × D)) (kvs' : List (List Key × V)), x = dTD kvs ∧ u = .dT kvs' ∧ RKV K B kvs kvs') ∨ (∃ (kvs : List (Key × D)) (kvs' : List (Key × V)), x = dKD kvs ∧ u = .dK kvs' ∧ RKV K B kvs kvs')) := by
  have hn : n < O.length := (List.getElem?_eq_some_iff.mp e).1
  have core : ∃ a u, ρ[n]? = some a ∧ H a = some u ∧ Mut (some u) ∧ B a = none ∧ F a = none ∧ ((∃ (kvs : List (List Key × D)) (kvs' : List (List Key × V)), x = dTD kvs ∧ u = .dT kvs' ∧ RKV K B kvs kvs') ∨ (∃ (kvs : List (Key × D)) (kvs' : List (Key × V)), x = dKD kvs ∧ u = .dK kvs' ∧ RKV K B kvs kvs')) := by
    obtain ⟨hd, ws⟩ := x
    obtain ⟨a, vs, ho, f, q1, q2, q3, q4, q5, q6, _⟩ := r.get e
    rcases hx with ⟨kvs, ex⟩ | ⟨kvs, ex⟩
    · cases ex
      obtain ⟨hl, rfl⟩ := q3
      exact ⟨a, _, q1, q2, True.intro, q5, q6, .inl ⟨kvs, _, rfl, rfl, RKV.of (rds_of_rws q4).1⟩⟩
    · cases ex
      obtain ⟨hl, rfl⟩ := q3
      exact ⟨a, _, q1, q2, True.intro, q5, q6, .inr ⟨kvs, _, rfl, rfl, RKV.of (rds_of_rws q4).1⟩⟩
  obtain ⟨a, u, h1, h2, h3, h4, h5, h6⟩ := core
  refine ⟨a, u, h2, h3, fun od => ?_⟩
  have ex : Ex B (upd B a (.frz od u)) := Ex.new h4
  refine ⟨?_, ⟨ex, fun b o hb => ?_⟩, ⟨h1, upd_same, ?_⟩, h4, h5, h6⟩
  · obtain ⟨fps, q⟩ := r.ow
    have ha : a ∈ fps n := by
      obtain ⟨b, g1, g2⟩ := q.rd n x e
      rw [h1] at g1; cases g1
      simp only [RWf] at g2
      obtain ⟨c, _, _, f, g3, g4, _⟩ := g2
      cases g3
      rw [g4]; exact List.mem_cons_self
    have live : ∀ (k : Nat) y, (O.set n none)[k]? = some (some y) → k ≠ n ∧ O[k]? = some (some y) := fun k y ek => by
      by_cases hk : k = n
      · subst hk; rw [List.getElem?_set_self hn] at ek; cases ek
      · rw [List.getElem?_set_ne (Ne.symm hk)] at ek; exact ⟨hk, ek⟩
    have out : ∀ (k : Nat) y, (O.set n none)[k]? = some (some y) → a ∉ fps k := fun k y ek => q.dj n k x y (Ne.symm (live k y ek).1) e (live k y ek).2 a ha
    refine ⟨fun b o hb => ?_, r.exF.mut h5, by rw [List.length_set]; exact r.len, fps, ?_⟩
    · by_cases z : b = a
      · subst z; rw [upd_same] at hb ⊢; exact hb
      · rw [upd_ne z] at hb ⊢; exact r.exB b o hb
    · refine ⟨fun k y ek => ?_, fun k y ek => q.nd k y (live k y ek).2, fun k m y z hkm ek em => q.dj k m y z hkm (live k y ek).2 (live m z em).2, fun k y ek b hb => ?_⟩
      · obtain ⟨b, g1, g2⟩ := q.rd k y (live k y ek).2
        exact ⟨b, g1, RWf.mono ex (fun _ _ z => z) _ _ _ (fun c hc o ho => by rw [upd_out hc (out k y ek)]; exact ho) g2⟩
      · obtain ⟨z1, z2, o, z3⟩ := q.fr k y (live k y ek).2 b hb
        exact ⟨by rw [upd_out hb (out k y ek)]; exact z1, z2, o, by rw [upd_out hb (out k y ek)]; exact z3⟩
  · by_cases z : b = a
    · exact .inr (.inl (z ▸ h5))
    · rw [upd_ne z] at hb; exact .inl hb
  · rcases h6 with ⟨kvs, kvs', g1, g2, g3⟩ | ⟨kvs, kvs', g1, g2, g3⟩
    · exact .inl ⟨kvs, kvs', g1, g2, g3.mono ex⟩
    · exact .inr ⟨kvs, kvs', g1, g2, g3.mono ex⟩
/-- B without a -/
def less (B : Hp) (a : Addr) : Hp := fun b => if b = a then none else B b
theorem less_same : less B a a = none := if_pos rfl
theorem less_ne {b : Addr} (h : b ≠ a) : less B a b = B b := if_neg h
theorem unlock_out {n : Nat} {x : OO} {a : Addr} {od : Obj} {u : HO} {B0 : Hp} (r : HR K B F ρ O H) (L : Lk K B ρ n a od u x) (hO : O[n]? = some none) (hB0 : Ex B0 B) (h0 : B0 a = none) (hg : ∀ b o, B b = some o → b = a ∨ B0 b = some o ∨ F b = none ∨ ∃ vs, o = .tup vs) (hFa : F a = none)
    (rk0 : (∃ (kvs : List (List Key × D)) (kvs' : List (List Key × V)), x = dTD kvs ∧ u = .dT kvs' ∧ RKV K B0 kvs kvs') ∨ (∃ (kvs : List (Key × D)) (kvs' : List (Key × V)), x = dKD kvs ∧ u = .dK kvs' ∧ RKV K B0 kvs kvs')) :
    H a = some (.frz od u) ∧ HR K (less B a) F ρ (O.set n (some x)) (upd H a u) ∧ Gr F B0 (less B a) ∧ (∀ w v fp H, RWf K B ρ H w v fp → RWf K (less B a) ρ H w v fp) ∧ (∀ σ σc, RS K B ρ σ σc → RS K (less B a) ρ σ σc) := by
  have hn : n < O.length := (List.getElem?_eq_some_iff.mp hO).1
  have hH : H a = some (.frz od u) := r.exB _ _ L.at_
  have ndk : ∀ zs, u ≠ .lst zs := fun zs z => by
    rcases L.what with ⟨_, _, _, h, _⟩ | ⟨_, _, _, h, _⟩ <;> (rw [h] at z; cases z)
  have kt : ∀ b vs, B b = some (.tup vs) → less B a b = some (.tup vs) := fun b vs h => by
    rw [less_ne fun z => by rw [z, L.at_] at h; cases h]; exact h
  have kl : ∀ b vs, SqL K B b vs → SqL K (less B a) b vs := fun b vs h => by
    rcases h with (h | ⟨o, h⟩) | h
    · exact .inl (.inl (by rw [less_ne fun z => by rw [z, L.at_] at h; cases h]; exact h))
    · exact .inl (.inr ⟨o, by rw [less_ne fun z => by rw [z, L.at_] at h; cases h; exact ndk _ rfl]; exact h⟩)
    · exact .inr h
  have ex0 : Ex B0 (less B a) := fun b o h => by
    rw [less_ne fun z => by rw [z, h0] at h; cases h]; exact hB0 b o h
  refine ⟨hH, ?_, ⟨ex0, fun b o h => ?_⟩, fun w v fp H h => RWf.cong kt kl w v fp h, fun σ σc h => RS.cong kt kl h⟩
  · obtain ⟨fps, q⟩ := r.ow
    have live : ∀ (k : Nat) y, k ≠ n → (O.set n (some x))[k]? = some (some y) → O[k]? = some (some y) := fun k y hk ek => by
      rw [List.getElem?_set_ne (Ne.symm hk)] at ek; exact ek
    have out : ∀ (k : Nat) y, O[k]? = some (some y) → a ∉ fps k := fun k y ek ha => by
      have := (q.fr k y ek a ha).1
      rw [L.at_] at this; cases this
    refine ⟨fun b o hb => ?_, r.exF.mut hFa, by rw [List.length_set]; exact r.len, fun k => if k = n then [a] else fps k, ?_⟩
    · by_cases z : b = a
      · subst z; rw [less_same] at hb; cases hb
      · rw [less_ne z] at hb; rw [upd_ne z]; exact r.exB b o hb
    · refine ⟨fun k y ek => ?_, fun k y ek => ?_, fun k m y z hkm ek em c hc => ?_, fun k y ek b hb => ?_⟩
      · by_cases hk : k = n
        · subst hk
          rw [List.getElem?_set_self hn] at ek
          cases ek
          refine ⟨a, L.nm, ?_⟩
          simp only [if_pos]
          rcases rk0 with ⟨kvs, kvs', g1, g2, g3⟩ | ⟨kvs, kvs', g1, g2, g3⟩
          · subst g1; subst g2
            simp only [RWf, dTD]
            refine ⟨a, kvs'.map (·.2), _, [], rfl, rfl, upd_same, ⟨by rw [List.length_map, List.length_map, g3.len], by rw [← g3.keys, zip_un]⟩, rws_of_rds (RKV.mono ex0 g3).rds⟩
          · subst g1; subst g2
            simp only [RWf, dKD]
            refine ⟨a, kvs'.map (·.2), _, [], rfl, rfl, upd_same, ⟨by rw [List.length_map, List.length_map, g3.len], by rw [← g3.keys, zip_un]⟩, rws_of_rds (RKV.mono ex0 g3).rds⟩
        · have ek' := live k y hk ek
          obtain ⟨b, g1, g2⟩ := q.rd k y ek'
          refine ⟨b, g1, ?_⟩
          simp only [if_neg hk]
          exact RWf.mono (Ex.refl _) (fun _ _ z => z) _ _ _ (fun c hc o ho => by rw [upd_out hc (out k y ek')]; exact ho) (RWf.cong kt kl _ _ _ g2)
      · by_cases hk : k = n
        · simp only [if_pos hk]; exact List.nodup_cons.mpr ⟨by simp, List.nodup_nil⟩
        · simp only [if_neg hk]; exact q.nd k y (live k y hk ek)
      · by_cases hk : k = n
        · simp only [if_pos hk] at hc
          rcases List.mem_singleton.mp hc with rfl
          have hm : m ≠ n := fun w => hkm (hk.trans w.symm)
          simp only [if_neg hm]
          exact out m z (live m z hm em)
        · simp only [if_neg hk] at hc
          by_cases hm : m = n
          · simp only [if_pos hm]
            intro w
            rcases List.mem_singleton.mp w with rfl
            exact out k y (live k y hk ek) hc
          · simp only [if_neg hm]
            exact q.dj k m y z hkm (live k y hk ek) (live m z hm em) c hc
      · by_cases hk : k = n
        · simp only [if_pos hk] at hb
          rcases List.mem_singleton.mp hb with rfl
          exact ⟨less_same, hFa, u, upd_same⟩
        · simp only [if_neg hk] at hb
          have ek' := live k y hk ek
          obtain ⟨z1, z2, o, z3⟩ := q.fr k y ek' b hb
          have hba : b ≠ a := fun z => out k y ek' (z ▸ hb)
          exact ⟨by rw [less_ne hba]; exact z1, z2, o, by rw [upd_ne hba]; exact z3⟩
  · have hba : b ≠ a := fun z => by rw [z, less_same] at h; cases h
    rw [less_ne hba] at h
    rcases hg b o h with z | z
    · exact absurd z hba
    · exact z
end

/-- behind a lock the object n stands again -/
def unl (n : Nat) (x : OO) (E : EW) : EW := ⟨fun σ O => O[n]? = some none ∧ E.nx σ (O.set n (some x)), fun w O => O[n]? = some none ∧ E.rt w (O.set n (some x)), fun σ O => O[n]? = some none ∧ E.bk σ (O.set n (some x)), fun σ O => O[n]? = some none ∧ E.ct σ (O.set n (some x))⟩
def WSL (X : Cx) (st : Stmt) (σ : List (Option W)) (O : Ob) (n : Nat) (x : OO) (E : EW) : Prop :=
  ∀ F B ρ σc H a od u, Lk X.K B ρ n a od u x → HR X.K B F ρ O H → RS X.K B ρ σ σc → SS X st (EL X.K F B ρ (unl n x E)) σc H
section
variable {X : Cx} {σ : List (Option W)} {O : Ob} {E : EW} {n0 n : Nat} {pos p : Pos} {tg iter e : Expr} {st : Stmt} {body : List Stmt} {x : OO}
theorem ws_lock (e : O[n]? = some (some x)) (hx : (∃ kvs, x = dTD kvs) ∨ ∃ kvs, x = dKD kvs) (h : WSL X st σ (O.set n none) n x E) : WS X n0 st σ O E := fun F B0 ρ0 B ρ σc H e1 e2 e3 r s => by
  obtain ⟨a, u, hH, hm, k⟩ := lock_in r e hx
  refine SS.of (ps_lock ps_ss) ⟨a, u, hH, hm, fun od => ?_⟩
  obtain ⟨r1, g1, L, hB, hF, rk⟩ := k od
  refine (h F _ ρ σc _ a od u L r1 (s.mono g1.ex (List.prefix_refl _))).mono ?_
  have back : ∀ B2 ρ2 O2 H2, Gr F (upd B a (.frz od u)) B2 → ρ <+: ρ2 → HR X.K B2 F ρ2 O2 H2 → O2[n]? = some none →
      H2 a = some (.frz od u) ∧ HR X.K (less B2 a) F ρ2 (O2.set n (some x)) (upd H2 a u) ∧ Gr F B (less B2 a) ∧ (∀ w v fp H, RWf X.K B2 ρ2 H w v fp → RWf X.K (less B2 a) ρ2 H w v fp) ∧ (∀ σ σc, RS X.K B2 ρ2 σ σc → RS X.K (less B2 a) ρ2 σ σc) := fun B2 ρ2 O2 H2 g2 p2 r2 hO => by
    refine unlock_out r2 (L.mono g2.ex p2) hO (fun b o hb => g2.ex b o (g1.ex b o hb)) hB (fun b o hb => ?_) hF rk
    rcases g2.out b o hb with z | z
    · by_cases w : b = a
      · exact .inl w
      · rw [upd_ne w] at z; exact .inr (.inl z)
    · exact .inr (.inr z)
  have ls : ∀ (Pw : List (Option W) → Ob → Prop) σ' H', LS X.K F (upd B a (.frz od u)) ρ (fun σ O => O[n]? = some none ∧ Pw σ (O.set n (some x))) σ' H' → H' a = some (.frz od u) ∧ LS X.K F B0 ρ0 Pw σ' (upd H' a u) := fun Pw σ' H' ⟨B2, ρ2, σ2, O2, g2, p2, r2, s2, hO, q⟩ => by
    obtain ⟨z1, z2, z3, z4, z5⟩ := back B2 ρ2 O2 H' g2 p2 r2 hO
    exact ⟨z1, less B2 a, ρ2, σ2, _, e2.trans z3, e3.trans p2, z2, z5 _ _ s2, q⟩
  refine ⟨fun σ' H' z => ls E.nx σ' H' z, fun v H' ⟨B2, ρ2, w, O2, g2, p2, r2, rw2, hO, q⟩ => ?_, fun σ' H' z => ls E.bk σ' H' z, fun σ' H' z => ls E.ct σ' H' z⟩
  obtain ⟨z1, z2, z3, z4, z5⟩ := back B2 ρ2 O2 H' g2 p2 r2 hO
  exact ⟨z1, less B2 a, ρ2, w, _, e2.trans z3, e3.trans p2, z2, RW.any (z4 _ _ _ _ rw2), q⟩
theorem seq_keysT {K : PySem.W.Frag} {F B1 : Hp} {ρ1 : List Addr} {a : Addr} {od : Obj} {kvs : List (List Key × D)} {kvs' : List (List Key × V)} (hB : B1 a = some (.frz od (.dT kvs'))) (rk : RKV K B1 kvs kvs') : SeqJ K F B1 ρ1 (Itkt a od kvs') (kvs.map fun p => rD p.1) (fun _ => True) := fun i B ρ O H e p r _ => by
  have hH : H a = some (.frz od (.dT kvs')) := r.exB _ _ (e _ _ hB)
  rw [List.length_map]
  refine ⟨fun hi => ⟨⟨hH, by rw [rk.len]; exact hi⟩, fun v H' hy => ?_⟩, fun hi => ⟨hH, by rw [rk.len]; exact hi⟩⟩
  obtain ⟨rfl, k, v', q, hk, rfl, hq⟩ := hy
  obtain ⟨r2, g2⟩ := r.addT hq
  refine ⟨_, rD k, g2, r2, ?_, ?_⟩
  · have : (kvs.map (·.1))[i]? = some k := by rw [← rk.keys, List.getElem?_map, hk]; rfl
    rw [List.getElem?_map] at this ⊢
    cases h : kvs[i]? with
    | none => rw [h] at this; cases this
    | some p => rw [h] at this; cases this; rfl
  · simp only [rD, RD, rds_kD]
    exact ⟨q, _, rfl, upd_same, rfl⟩
theorem mapd_inj : ∀ {xs ys : List D}, xs.map W.d = ys.map W.d → xs = ys
  | [], [], _ => rfl
  | [], _ :: _, h => by cases h
  | _ :: _, [], h => by cases h
  | x :: xs, y :: ys, h => by
    have h1 : W.d x = W.d y ∧ xs.map W.d = ys.map W.d := by simpa using h
    rw [show x = y by injection h1.1, mapd_inj h1.2]
theorem rkv_at {κ : Type} {K : PySem.W.Frag} {B : Hp} : ∀ {kvs : List (κ × D)} {kvs' : List (κ × V)}, RKV K B kvs kvs' → ∀ {i : Nat} {k : κ} {v : V}, kvs'[i]? = some (k, v) → ∃ x, kvs[i]? = some (k, x) ∧ RD K B x v
  | [], ys, h, i, k, v, e => by rw [show ys = [] from h] at e; simp at e
  | (k', x) :: xs, ys, h, i, k, v, e => by
    obtain ⟨v', r, rfl, h2, h3⟩ := h
    cases i with
    | zero => simp at e; obtain ⟨rfl, rfl⟩ := e; exact ⟨x, rfl, h2⟩
    | succ i => simpa using rkv_at h3 (i := i) (by simpa using e)
theorem seq_itemsT {K : PySem.W.Frag} {F B1 : Hp} {ρ1 : List Addr} {a : Addr} {od : Obj} {kvs : List (List Key × D)} {kvs' : List (List Key × V)} (hB : B1 a = some (.frz od (.dT kvs'))) (rk : RKV K B1 kvs kvs') : SeqJ K F B1 ρ1 (ItiT a od kvs') (kvs.map fun p => D.t [rD p.1, p.2]) (fun _ => True) := fun i B ρ O H e p r _ => by
  have hH : H a = some (.frz od (.dT kvs')) := r.exB _ _ (e _ _ hB)
  rw [List.length_map]
  refine ⟨fun hi => ⟨⟨hH, by rw [rk.len]; exact hi⟩, fun v H' hy => ?_⟩, fun hi => ⟨hH, by rw [rk.len]; exact hi⟩⟩
  obtain ⟨T, k, v', q, hk, rfl, hT, hq, rfl⟩ := hy
  obtain ⟨r2, g2⟩ := r.addT hq
  obtain ⟨r3, g3⟩ := r2.frz (ho := .tup [.ref q, v']) hT
  obtain ⟨x, hx, rx⟩ := rkv_at rk hk
  refine ⟨_, D.t [rD k, x], g2.trans g3, r3, by rw [List.getElem?_map, hx]; rfl, ?_⟩
  simp only [RD, RDs]
  refine ⟨T, _, rfl, upd_same, .ref q, [v'], rfl, ?_, v', [], rfl, RD.mono ((e.trans g2.ex).trans g3.ex) _ _ rx, rfl⟩
  simp only [rD, RD, rds_kD]
  exact ⟨q, _, rfl, g3.ex _ _ upd_same, rfl⟩
/-- for k in d, keys are rows -/
theorem wsl_keysT {kvs : List (List Key × D)} (h : WE X iter σ O fun w O1 => w = .o n ∧ ∃ P, ForI X tg body (unl n (dTD kvs) E) σ O1 (kvs.map fun p => rD p.1) (fun _ => True) P) (hp : PassesOwn (model X.prog X.w) X.A X.env X.xe) (hc : X.calm = true := by rfl)
    (hs : ∀ x, foldedSetIterable iter X.env x = pure x := by intro _; rfl) : WSL X (.For tg iter body [] pos) σ O n (dTD kvs) E := fun F B ρ σc H a od u L r s =>
  SS.of (ps_for hp hc (pi_keys pe_se) pg_sg pss_sss hs) (h.then r s fun B1 ρ1 w O1 v H1 g1 p1 r1 s1 rw1 ⟨ew, P, q⟩ => by
    subst ew
    obtain ⟨b, hb, rfl⟩ := rw_o rw1
    have L1 := L.mono g1.ex p1
    rw [L1.nm] at hb
    cases hb
    rcases L1.what with ⟨kvs2, kvs', ex, rfl, rk⟩ | ⟨kvs2, kvs', ex, rfl, rk⟩
    · have ek : kvs2 = kvs := by
        have h1 : kvs.map (·.1) = kvs2.map (·.1) := by injection ex with h1 h2; injection h1
        have h2 : (kvs.map (·.2)).map W.d = (kvs2.map (·.2)).map W.d := by injection ex
        have h3 : kvs.map (·.2) = kvs2.map (·.2) := by
          exact mapd_inj h2
        rw [← zip_un kvs, ← zip_un kvs2, h1, h3]
      subst ek
      exact ⟨a, od, rfl, .inr ⟨kvs', r1.exB _ _ L1.at_, for_core g1 p1 r1 s1 (seq_keysT L1.at_ rk) q⟩⟩
    · injection ex with h1 h2; cases h1)
/-- for k, v in d.items(), keys are rows -/
theorem wsl_itemsT {kvs : List (List Key × D)} {apos cpos tpos : Pos} {elts : List Expr} {kk : Nat} (h : WE X e σ O fun w O1 => w = .o n ∧ ∃ P, ForI X (.Tuple elts kk tpos) body (unl n (dTD kvs) E) σ O1 (kvs.map fun p => D.t [rD p.1, p.2]) (fun _ => True) P) (hp : PassesOwn (model X.prog X.w) X.A X.env X.xe) (hc : X.calm = true := by rfl)
    (hbase : attributeBase e "items" X.env (eval e X.env) = eval e X.env := by rfl) (hline : (apos.endLine == cpos.line) = true := by rfl)
    (hs : ∀ x, foldedSetIterable (.Call (.Attribute e "items" apos) [] [] cpos) X.env x = pure x := by intro _; rfl) : WSL X (.For (.Tuple elts kk tpos) (.Call (.Attribute e "items" apos) [] [] cpos) body [] pos) σ O n (dTD kvs) E := fun F B ρ σc H a od u L r s =>
  SS.of (ps_for hp hc (pi_itemsT pe_se hbase hline) pg_sg pss_sss hs) (h.then r s fun B1 ρ1 w O1 v H1 g1 p1 r1 s1 rw1 ⟨ew, P, q⟩ => by
    subst ew
    obtain ⟨b, hb, rfl⟩ := rw_o rw1
    have L1 := L.mono g1.ex p1
    rw [L1.nm] at hb
    cases hb
    rcases L1.what with ⟨kvs2, kvs', ex, rfl, rk⟩ | ⟨kvs2, kvs', ex, rfl, rk⟩
    · have ek : kvs2 = kvs := by
        have h1 : kvs.map (·.1) = kvs2.map (·.1) := by injection ex with h1 h2; injection h1
        have h2 : (kvs.map (·.2)).map W.d = (kvs2.map (·.2)).map W.d := by injection ex
        have h3 : kvs.map (·.2) = kvs2.map (·.2) := by
          exact mapd_inj h2
        rw [← zip_un kvs, ← zip_un kvs2, h1, h3]
      subst ek
      exact ⟨a, od, kvs', rfl, r1.exB _ _ L1.at_, for_core g1 p1 r1 s1 (seq_itemsT L1.at_ rk) q⟩
    · injection ex with h1 h2; cases h1)
end
end Vf

/-! Vf12: dict comprehensions, keys of any kind that DPut knows; reads of a locked dict. -/
namespace Vf
open PySem L2 Evl

/-! ### the store of a pair by a comprehension -/
theorem dset_put {X : Cx} {pins : List (Addr × Obj)} {σ : L2.St} {H H' : Hp} {s : Shared} {A : Around} {E : Value → Shared → Prop} {a : Addr} {y v : V} {u r : Value} {Q : Unit → Shared → Prop} (hu : A.units + 1 < cLine) (I : Inv X pins σ H s) (g : DPut H a y v H') (ry : RelV y u) (rv : RelV v r) (h : ∀ s', Inv X pins σ H' s' → Q () s') :
    wpAny (model X.prog X.w) A (dictSet a u r) Q E s := by
  rcases g with ⟨kvs, k, e, ey, l, eH⟩ | ⟨kvs, k, b, e, ey, eb, l, eH⟩
  · subst ey eH
    obtain ⟨z, hd, vs, rel, dd⟩ := dk_of I.hok e
    have hl : (putK kvs k v).length ≤ sizeLine := by have := length_putK kvs k v; omega
    refine PySem.wpAny_dictSet_pairs (hsz := by rw [← rel.length]; exact z) (kV_is ry) dd fun h' dd' hs => h _ ?_
    exact d_write I (by rw [e]; exact True.intro) hs (let ⟨q, _, _, hq, _⟩ := dd'; ⟨q, hq⟩) (dk_new hl hd (rel.put k rv) dd')
  · subst ey eH
    cases (show u = Value.ref b from ry)
    obtain ⟨z, hd, xs, rel, dd⟩ := dt_of I.hok e
    have hl : (putK kvs k v).length ≤ sizeLine := by have := length_putK kvs k v; omega
    refine PySem.wpAny_dictSet_heap (hsz := by rw [← Paired.length rel]; exact z) (show (tupleKind (mixKind X.prog X.w)).room A from Nat.lt_of_succ_lt hu) (key_of I.hok eb) dd fun h' dd' hs => h _ ?_
    obtain ⟨q, es, ep, hq, h2, h3, h4, _, h5⟩ := dd'
    refine d_write I (by rw [e]; exact True.intro) hs ⟨q, hq⟩ ⟨hl, hd, _, (rel.put k eb rv).keeps fun c ys ec => ?_, q, es, ep, hq, h2, h3, h4, h5⟩
    rw [upd_ne (ne_of ec e (fun z => nomatch z))]
    exact ec
/-! ### the comprehension -/
/-- {k: v for target in iter if ..}: D the new dict, u0 what it starts as -/
def tDg (wi : TI) (g : TG) (tt : TT) (tk tv : TE) (u0 : HO) (vs : List Nat) : TE := fun σ H Q => wi σ H fun J H1 => ∀ D, H1 D = none → ∃ W : Nat → Nat → Hp → Prop, (∃ m, W 0 m (upd H1 D u0)) ∧ ∀ i m H, W i m H →
  (J.stop i H ∧ Q (.ref D) H) ∨ (J.go i H ∧ ∃ Nx : Hp → Prop, (∀ H', Nx H' → ∃ m', m' < m ∧ W (i + 1) m' H') ∧ ∀ x H', J.yld i H x H' → g x (wipe σ vs) H' fun σ2 H2 => wipe σ2 vs = wipe σ vs ∧ tt σ2 H2 fun b H3 =>
    if b = true then tk σ2 H3 fun y H4 => tv σ2 H4 fun z H5 => ∃ H6, DPut H5 D y z H6 ∧ Nx H6 else Nx H3)
def Empt (u : HO) : Prop := u = .dK [] ∨ u = .dT []
theorem Empt.ok {P : Program} {w : World} {H : Hp} {u : HO} (e : Empt u) (h : Heap) (hb : sysModules < h.objs.size) : ObjOk P w H (h.push { cls := .type "dict", data := .dict #[] }) h.objs.size u := by
  rcases e with rfl | rfl
  · exact dk_empty h hb
  · exact dt_empty h hb
section
variable {X : Cx}
abbrev Inner (X : Cx) (scope : Scope) (p : Cx → Prop) : Prop := ∀ X', Blk X scope X' → p X'
theorem dcg {pins : List (Addr × Obj)} {s : Shared} {σ : L2.St} {H : Hp} {Q : VK} {kx vx tg iter : Expr} {ifs : List Expr} {scope : Scope} {own : List (Str × Nat)} {pos pos' : Pos} {wi : TI} {g : TG} {tt : TT} {tk tv : TE} {u0 : HO} {use : Option (Value → Sem Unit)} {Qf : Value → Shared → Prop}
    (hu : X.A.units + 1 < cLine) (he0 : Empt u0) (hc : X.calm = true) (hN : X.N.Nodup) (I : Inv X pins σ H s) (hi : PI X tg iter wi) (ok : BlkOk X.N X.env.scope scope own)
    (hg : Inner X scope fun X' => PG X' tg g) (ht : Inner X scope fun X' => PTs X' ifs tt) (hk : Inner X scope fun X' => PE X' kx tk) (he : Inner X scope fun X' => PE X' vx tv) (hs : ∀ x, foldedSetIterable iter X.env x = pure x)
    (h : tDg wi g tt tk tv u0 (own.map (·.2)) σ H Q)
    (hRR : ∀ D C s' m H', Inv X pins σ H' s' → Q (.ref D) H' → s'.heap.Ns C m → FpOk X pins H' C → compPost (model X.prog X.w) X.A X.xe use Qf (.ref D) C (.ok .next) s') :
    wpAny (model X.prog X.w) X.A (comprehension (.DictComp kx vx [⟨tg, iter, ifs, 0⟩] scope pos) scope X.env pos' newDict false (eval iter X.env) use) Qf X.xe s := by
  refine wpAny_comprehension_free (use := use) rfl hs (closure_ok fun y hy e => (ok.free y hy e).elim (fun k => I.ok.has _ (.inl k)) fun k => I.ok.has _ (.inr k)) ok.kind (fun y hy e => by rw [ok.uniq y hy, e])
    (thn (hi.run pins s σ H _ I h) fun xv s1 hx => thn hx fun itv s2 h2 => ?_)
  obtain ⟨it, fp, tn, J, H2, rfl, I2, T, st2, f2, q⟩ := h2
  refine wpAny_newObj_type (newEnv_comp ?_)
  generalize hD : s2.heap.objs.size = D
  obtain ⟨W, ⟨m0, w0⟩, turn⟩ := q D (I2.hok.fresh (Nat.le_of_eq hD))
  generalize hs3 : ({ s2 with heap := s2.heap.push { cls := .type "dict", data := .dict #[] } } : Shared) = s3
  have h3 : s3.heap = s2.heap.push { cls := .type "dict", data := .dict #[] } := by rw [← hs3]
  have I3 : Inv X pins σ (upd H2 D u0) s3 := by
    rw [← hs3]
    refine I2.laid (t' := s2.toks) (fun b o e => Heap.get?_push_of_some _ e) (Nat.le_of_eq hD) ?_
    rw [← hD]
    exact he0.ok s2.heap I2.big
  have f3 : ∀ b ∈ fp, FpOk X pins (upd H2 D u0) b ∧ b < s3.heap.objs.size := fun b hb => by
    obtain ⟨o, e, _⟩ := T.obj _ _ st2 b hb
    have hlt := Heap.lt_size e
    refine ⟨⟨?_, (f2 b hb).2⟩, by rw [h3, Heap.size_push]; exact Nat.lt_succ_of_lt hlt⟩
    rw [upd_ne (by rw [← hD]; exact Nat.ne_of_lt hlt)]
    exact (f2 b hb).1
  have st3 : tn 0 s3.heap := T.keep _ _ _ st2 fun b _ o e => by rw [h3]; exact Heap.get?_push_of_some _ e
  have I4 := block_start I3 ok hN f3
  have B' : Blk X scope (X.blk s3 (upd H2 D u0) scope (compEnvC scope (cellsFrom (s3.heap.objs.size + 1) scope.names (cloFrom X.env.cells scope.names [])) s3.heap.objs.size X.env) fp) := ⟨_, _, _, _, _, rfl⟩
  have pg := hg _ B'
  have pt := ht _ B'
  have pk := hk _ B'
  have pe := he _ B'
  show codeAny _ _ (.compStart (.DictComp kx vx [⟨tg, iter, ifs, 0⟩] scope pos) 0 (.ref it) (.ref D) (compEnvC scope (cellsFrom (s3.heap.objs.size + 1) scope.names (cloFrom X.env.cells scope.names [])) s3.heap.objs.size X.env)) (compPost (model X.prog X.w) X.A X.xe use Qf (.ref D) s3.heap.objs.size) { s3 with heap := pushCells (s3.heap.push { cls := .type "dict", data := .dict #[] }) scope.names }
  have nfp : ∀ b ∈ fp, (upd H2 D u0) b = none := fun b hb => (f3 b hb).1.1
  generalize hce : compEnvC scope (cellsFrom (s3.heap.objs.size + 1) scope.names (cloFrom X.env.cells scope.names [])) s3.heap.objs.size X.env = ce at I4 pg pt pk pe ⊢
  have cL : ce.locals = s3.heap.objs.size := by subst hce; rfl
  generalize hH3 : upd H2 D u0 = H3 at I3 I4 pg pt pk pe w0 nfp f3
  generalize hs4 : ({ s3 with heap := pushCells (s3.heap.push { cls := .type "dict", data := .dict #[] }) scope.names } : Shared) = s4 at I4 ⊢
  have st4 : tn 0 s4.heap := T.keep _ _ _ st3 fun b _ o e => by rw [← hs4]; exact pushCells_keeps _ _ _ _ (Heap.get?_push_of_some _ e)
  generalize hY : X.blk s3 H3 scope ce fp = Y at I4 pg pt pk pe
  have stat : ∀ {σ' : L2.St} {H' : Hp} {s' : Shared}, Inv Y [] σ' H' s' → (∀ b ∈ fp, H' b = none) → ∀ b ∈ fp, FpOk Y [] H' b := fun {σ' H' s'} I' hn b hb =>
    ⟨hn b hb, (I'.ok.exf b (by rw [← hY]; exact hb)).1, I'.ok.exfs b (by rw [← hY]; exact hb), .inl (by rw [← hY]; exact hb), fun x c e => (I'.ok.exf b (by rw [← hY]; exact hb)).2 x c e, fun p hp => absurd (show p ∈ ([] : List (Addr × Obj)) ++ [] by rw [← hY] at hp; exact hp) (by simp)⟩
  have loop : codeAny (model X.prog X.w) X.A (.compLoop (.DictComp kx vx [⟨tg, iter, ifs, 0⟩] scope pos) 0 (.ref it) (.ref D) ce) (compPost (model X.prog X.w) X.A X.xe use Qf (.ref D) s3.heap.objs.size) s4 := by
    refine compLoop_anyD (fun n s' => ∃ i H', Inv Y [] (wipe σ (own.map (·.2))) H' s' ∧ tn i s'.heap ∧ (∀ b ∈ fp, H' b = none) ∧ W i n H') ?_ m0 ⟨0, H3, I4, st4, nfp, w0⟩
    rintro n s5 ⟨i, H5, I5, st5, n5, w5⟩
    subst hY
    rcases turn i n H5 w5 with ⟨stop, qq⟩ | ⟨go, Nx, hNx, step⟩
    · refine thnF (T.done (X.blk s3 H3 scope ce fp) rfl rfl rfl hc i [] s5 _ H5 (fun _ _ => False) I5 (stat I5 n5) st5 stop) fun r s6 ⟨hr, I6⟩ => ?_
      subst hr
      have I7 : Inv X pins σ H5 s6 := I3.call' (ch := fp) I6.os I6.base I6.hok I6.bare fun b hb => ⟨(f3 b hb).1.2.2.2.1, (f3 b hb).1.2.1, (f3 b hb).1.2.2.2.2.1, (f3 b hb).1.2.2.2.2.2⟩
      have nC : H5 s3.heap.objs.size = none := by
        have z : H5 ce.locals = none := I6.free
        rwa [cL] at z
      obtain ⟨m, hn, _⟩ := I6.loc
      have hn : s6.heap.Ns ce.locals m := hn
      rw [cL] at hn
      exact hRR D s3.heap.objs.size s6 m H5 I7 qq hn (I3.fpOk (Nat.le_refl _) nC)
    · refine thnF (T.item (X.blk s3 H3 scope ce fp) rfl rfl rfl hc i [] s5 _ H5 (fun _ _ => False) I5 (stat I5 n5) st5 go) fun r s6 ⟨u, hr, h6⟩ => ?_
      subst hr
      refine thnF h6 fun _ s7 ⟨x, H7, I7, r7, y7, st7, n7⟩ => ?_
      refine thnF (pg.run _ s7 _ H7 x u _ (I7.pinned (stat I7 n7) (T.obj _ _ st7)) r7 (step x H7 y7)) fun _ s8 ⟨σ8, H8, I8, hw8, q8⟩ => ?_
      refine thnF (pt.run _ s8 σ8 H8 _ I8 q8) fun b s9 ⟨H9, I9, q9⟩ => ?_
      have fin : ∀ {s' : Shared} {H' : Hp}, Inv (X.blk s3 H3 scope ce fp) ([] ++ pinsAt fp s7.heap) σ8 H' s' → Nx H' → ∃ m, m < n ∧ ∃ i H', Inv (X.blk s3 H3 scope ce fp) [] (wipe σ (own.map (·.2))) H' s' ∧ tn i s'.heap ∧ (∀ b ∈ fp, H' b = none) ∧ W i m H' := fun {s' H'} I' nx => by
        obtain ⟨m', hm, w'⟩ := hNx H' nx
        have pin' : ∀ b ∈ fp, ∀ o, s7.heap.get? b = some o → s'.heap.get? b = some o ∧ H' b = none := fun b hb o e =>
          let z := I'.pin (b, o) (List.mem_append_right _ (List.mem_append_right _ (mem_pinsAt hb e)))
          ⟨z.1, z.2.1⟩
        refine ⟨m', hm, i + 1, H', (I'.unpinned (pins := [])).weak (by rw [← hw8, wipe_length]) (fun j v e => ?_), T.keep _ _ _ st7 fun b hb o e => (pin' b hb o e).1, fun b hb => ?_, w'⟩
        · rw [← hw8] at e
          exact (wipe_some e).1
        · obtain ⟨o, e, _⟩ := T.obj _ _ st7 b hb
          exact (pin' b hb o e).2
      cases b with
      | false =>
        simp only [Bool.false_eq_true, if_false] at q9 ⊢
        exact fin I9 q9
      | true =>
        simp only [if_true] at q9 ⊢
        refine thnF (pk.run _ s9 σ8 H9 _ I9 q9) fun z s10 ⟨yk, H10, I10, r10, q10⟩ => ?_
        refine thnF (pe.run _ s10 σ8 H10 _ I10 q10) fun z2 s11 ⟨yv, H11, I11, r11, H12, dp, nx⟩ => ?_
        exact dset_put (X := X.blk s3 H3 scope ce fp) hu I11 dp r10 r11 fun s12 I12 => fin I12 nx
  exact codeAny_compStart_dict loop (T.self X.A 0 _ _ _ st4 loop)
/-- name = {..} on one line, the name a local -/
theorem ps_setDg {i : Nat} {y : Str} {py : Pos} {kx vx tg iter : Expr} {ifs : List Expr} {scope : Scope} {own : List (Str × Nat)} {pos spos : Pos} {wi : TI} {g : TG} {tt : TT} {tk tv : TE} {u0 : HO} (hu : X.A.units + 1 < cLine) (he0 : Empt u0) (hc : X.calm = true) (hN : X.N.Nodup) (hy : X.N[i]? = some y) (hyl : X.env.scope.names.lookup y = some .local)
    (hsw : swapsWith (.DictComp kx vx [⟨tg, iter, ifs, 0⟩] scope pos) (some (.Name y py)) spos.line X.env = pure true) (hi : PI X tg iter wi) (ok : BlkOk X.N X.env.scope scope own)
    (hg : Inner X scope fun X' => PG X' tg g) (ht : Inner X scope fun X' => PTs X' ifs tt) (hk : Inner X scope fun X' => PE X' kx tk) (he : Inner X scope fun X' => PE X' vx tv) (hs : ∀ x, foldedSetIterable iter X.env x = pure x := by intro _; rfl) :
    PS X (.Assign [.Name y py] (.DictComp kx vx [⟨tg, iter, ifs, 0⟩] scope pos) spos) (tAsg (tDg wi g tt tk tv u0 (own.map (·.2))) (gName i)) := by
  refine ⟨fun pins s σ H D I h => ?_⟩
  rw [exec_Assign_Name_used _ _ _ _ hsw]
  refine wpAny_bind (wpAny_standAt (wpAny_bind ?_))
  show wpAny _ X.A (do let _ ← comprehension (.DictComp kx vx [⟨tg, iter, ifs, 0⟩] scope pos) scope X.env (firstIterPos [⟨tg, iter, ifs, 0⟩] pos) newDict false (eval iter X.env) (some (assign (.Name y py) X.env))) _ _ s
  have h : tDg wi g tt tk tv u0 (own.map (·.2)) σ H (fun x H1 => gName i x σ H1 D.nx) := h
  refine wpAny_bind (thn (dcg (Qf := fun _ s' => SP X pins D .next s') hu he0 hc hN I hi ok hg ht hk he hs h fun L C s' m H' I' q hn f => ?_) fun _ s' hq => wpAny_pure (wpAny_pure hq))
  show wpAny _ _ (assign (.Name y py) X.env (.ref L)) _ _ _
  refine wpAny_assign_Name (store_ok2 (v := V.ref L) I' hN hy (.inl hyl) rfl (fun s2 I2 ⟨a, sb, ha⟩ => ?_) (.inr hyl))
  obtain ⟨f0, f1, f2, f3, f4, f5⟩ := f
  have haC : C ≠ a := ha.elim (fun z => by rw [z]; exact f1) fun z e => f4 y a z e.symm
  refine ⟨m, hn.sameBut sb haC, fun h3 sb3 => ?_⟩
  exact ⟨_, H', I2.turned (t' := s2.toks) (fun b o hb e => (sb3.2 b hb).trans e) f0 f1 f3 f4 f5, q⟩
theorem pe_dg {kx vx tg iter : Expr} {ifs : List Expr} {scope : Scope} {own : List (Str × Nat)} {pos : Pos} {wi : TI} {g : TG} {tt : TT} {tk tv : TE} {u0 : HO} (hu : X.A.units + 1 < cLine) (he0 : Empt u0) (hc : X.calm = true) (hN : X.N.Nodup) (hi : PI X tg iter wi) (ok : BlkOk X.N X.env.scope scope own)
    (hg : Inner X scope fun X' => PG X' tg g) (ht : Inner X scope fun X' => PTs X' ifs tt) (hk : Inner X scope fun X' => PE X' kx tk) (he : Inner X scope fun X' => PE X' vx tv) (hs : ∀ x, foldedSetIterable iter X.env x = pure x := by intro _; rfl) :
    PE X (.DictComp kx vx [⟨tg, iter, ifs, 0⟩] scope pos) (tDg wi g tt tk tv u0 (own.map (·.2))) := by
  refine ⟨fun pins s σ H Q I h => ?_⟩
  rw [arm_eval_DictComp]
  refine dcg hu he0 hc hN I hi ok hg ht hk he hs h fun D C s' m H' I' q hn f => ⟨m, hn, fun h'' sb => ?_⟩
  obtain ⟨f0, f1, f2, f3, f4, f5⟩ := f
  exact ⟨.ref D, H', I'.turned (t' := s'.toks) (fun b o hb e => (sb.2 b hb).trans e) f0 f1 f3 f4 f5, rfl, q⟩
theorem sw_trueD {kx vx : Expr} {gs : List Comprehension} {scope : Scope} {pos py : Pos} {y : Str} {l : Nat} {env : Env} (hk : env.scope.kind = .function) (hy : env.scope.names.lookup y = some .local) (hl : (py.line == pos.line) = true)
    (ha : (scope.names.any fun (n, k) => n == y && (k == .local || k == .cell)) = false) : swapsWith (.DictComp kx vx gs scope pos) (some (.Name y py)) l env = pure true := by
  have ky : env.kindOf y = some .local := hy
  have hb : env.blockKind = .function := by unfold Env.blockKind; rw [hk]; rfl
  unfold swapsWith
  simp only [hb, ky, ha, Expr.pos, hl]
  rfl
end

/-! ### beside a locked dict -/
def WEL (X : Cx) (e : Expr) (σ : List (Option W)) (O : Ob) (n : Nat) (x : OO) (Q : W → Ob → Prop) : Prop :=
  ∀ F B ρ σc H a od u, Lk X.K B ρ n a od u x → HR X.K B F ρ O H → RS X.K B ρ σ σc → SE X e σc H (Post X.K F B ρ Q)
def WTL (X : Cx) (e : Expr) (σ : List (Option W)) (O : Ob) (n : Nat) (x : OO) (Q : Bool → Ob → Prop) : Prop :=
  ∀ F B ρ σc H a od u, Lk X.K B ρ n a od u x → HR X.K B F ρ O H → RS X.K B ρ σ σc → ST X e σc H (PostB X.K F B ρ Q)
section
variable {X : Cx} {σ : List (Option W)} {O : Ob} {E : EW} {n0 n : Nat} {pos p : Pos} {a b e f tg iter kx vx c : Expr} {x : OO} {Q : W → Ob → Prop}
theorem wel_of (h : WE X e σ O Q) : WEL X e σ O n x Q := fun F B ρ σc H a od u L r s => h F B ρ σc H r s
theorem WEL.then {R : VK} {F B : Hp} {ρ : List Addr} {σc : L2.St} {H : Hp} {a : Addr} {od : Obj} {u : HO} (h : WEL X e σ O n x Q) (L : Lk X.K B ρ n a od u x) (r : HR X.K B F ρ O H) (s : RS X.K B ρ σ σc)
    (k : ∀ B1 ρ1 w O1 v H1, Gr F B B1 → ρ <+: ρ1 → HR X.K B1 F ρ1 O1 H1 → RS X.K B1 ρ1 σ σc → RW X.K B1 ρ1 B1 w v → Lk X.K B1 ρ1 n a od u x → Q w O1 → R v H1) : SE X e σc H R :=
  (h F B ρ σc H a od u L r s).mono fun v H' ⟨B', ρ', w, O', g, p, r', rw', q⟩ => k B' ρ' w O' v H' g p r' (s.mono g.ex p) rw' (L.mono g.ex p) q
theorem wel_dget {kvs : List (List Key × D)} (hu : X.A.units + 1 < cLine) (h : WE X e σ O fun w O1 => w = .o n ∧ WE X f σ O1 fun y O2 => ∃ k z, y = .d (rD k) ∧ lkG kvs k = some z ∧ Q (.d z) O2) (hs : NoSl f := by exact fun _ _ => rfl) : WEL X (.Subscript e f pos) σ O n (dTD kvs) Q := fun F B ρ σc H a od u L r s =>
  SE.of (pe_dget hu pe_se pe_se hs) (h.then r s fun B1 ρ1 w O1 v H1 g1 p1 r1 s1 rw1 ⟨ew, h1⟩ => h1.then r1 s1 fun B2 ρ2 y O2 uv H2 g2 p2 r2 s2 rw2 ⟨k, z, ey, hz, q⟩ => by
    subst ew ey
    obtain ⟨p, hp, rfl⟩ := rw_o rw1
    have L1 := L.mono g1.ex p1
    have L2 := L1.mono g2.ex p2
    rw [L1.nm] at hp
    cases hp
    obtain ⟨q', rfl, hq⟩ := rw_rD r2 rw2
    rcases L2.what with ⟨kvs2, kvs', ex, rfl, rk⟩ | ⟨kvs2, kvs', ex, rfl, rk⟩
    · have ek : kvs2 = kvs := by
        have h1 : kvs.map (·.1) = kvs2.map (·.1) := by injection ex with h1 h2; injection h1
        have h3 : kvs.map (·.2) = kvs2.map (·.2) := mapd_inj (by injection ex)
        rw [← zip_un kvs, ← zip_un kvs2, h1, h3]
      subst ek
      have ro := rk.ro k
      rw [hz] at ro
      cases hv : valV kvs' k with
      | none => rw [hv] at ro; exact ro.elim
      | some zv =>
        rw [hv] at ro
        exact ⟨a, zv, rfl, .inr ⟨kvs', k, q', .inr ⟨od, r2.exB _ _ L2.at_⟩, rfl, hq, hv.symm⟩, B2, ρ2, _, O2, g1.trans g2, p1.trans p2, r2, rw_d ro, q⟩
    · injection ex with h1 h2; cases h1)
theorem wel_op {op : Operator} (h : WEL X a σ O n x fun u O1 => WEL X b σ O1 n x fun v O2' => O2 X (binaryOp op) u v O2' Q) : WEL X (.BinOp a op b pos) σ O n x Q := fun F B ρ σc H a od u L r s =>
  SE.of (pe_op op_s2 pe_se pe_se) (h.then L r s fun B1 ρ1 w O1 v H1 g1 p1 r1 s1 rw1 L1 h1 => h1.then L1 r1 s1 fun B2 ρ2 w2 O2 v2 H2 g2 p2 r2 s2 rw2 L2 h2 =>
    (h2 F B2 ρ2 v v2 H2 r2 (RW.mono' g2.ex p2 rw1) rw2).mono fun v' H' z => z.back (g1.trans g2) (p1.trans p2))
theorem wtl_cmp {op : CmpOp} {Q : Bool → Ob → Prop} (h : WEL X a σ O n x fun u O1 => WEL X b σ O1 n x fun v O2' => O2 X (compareOp op) u v O2' fun w O' => ∃ k, w = .d (.s (.bl k)) ∧ Q k O') (hm : behindInMarks op b = false := by first | rfl | exact nobehind _ (by decide) (by decide)) : WTL X (.Compare a [op] [b] pos) σ O n x Q := fun F B ρ σc H a od u L r s =>
  ST.of (pt_cmpR op_s2 pe_se pe_se hm) (h.then L r s fun B1 ρ1 w O1 v H1 g1 p1 r1 s1 rw1 L1 h1 => h1.then L1 r1 s1 fun B2 ρ2 w2 O2 v2 H2 g2 p2 r2 s2 rw2 L2 h2 =>
    (h2 F B2 ρ2 v v2 H2 r2 (RW.mono' g2.ex p2 rw1) rw2).mono fun v' H' ⟨B3, ρ3, w3, O3, g3, p3, r3, rw3, k, ek, q⟩ => by
      subst ek
      exact ⟨k, rw_s rw3, B3, ρ3, O3, (g1.trans g2).trans g3, (p1.trans p2).trans p3, r3, q⟩)
/-- {k: v for target in d if c}: O1 what stands before, the new dict is O1.length -/
structure DcI (X : Cx) (scope : Scope) (c kx vx : Expr) (O : Ob) (n : Nat) (x : OO) (u0 : OO) (xs : List D) (σx : D → List (Option W)) (P : Nat → Ob → Prop) (Q : W → Ob → Prop) : Prop where
  h0 : P 0 (O ++ [some u0])
  turn : ∀ j y O', xs[j]? = some y → P j O' → ∀ X', Blk X scope X' → WTL X' c (σx y) O' n x fun b O3 =>
    (b = true → ∀ X2, Blk X scope X2 → WEL X2 kx (σx y) O3 n x fun k O4 => ∀ X3, Blk X scope X3 → WEL X3 vx (σx y) O4 n x fun w O5 => ∃ d O6, w = .d d ∧ DPu O5 (.o O.length) k d O6 ∧ DnO (O.length + 1) (P (j + 1)) O6) ∧ (b = false → DnO (O.length + 1) (P (j + 1)) O3)
  done : ∀ O', P xs.length O' → Q (.o O.length) O'
def ttL (X : Cx) (scope : Scope) (c : Expr) : TT := fun σ H Q => ∀ X', Blk X scope X' → ST X' c σ H Q
theorem ws_dcT {kvs : List (List Key × D)} {scope : Scope} {own : List (Str × Nat)} {spos py : Pos} {y : Str} {g : TG} (i : Nat) (hu : X.A.units + 1 < cLine)
    (h : WE X iter σ O fun w O1 => w = .o n ∧ ∃ σx P, TgOk X scope tg (own.map (·.2)) g σ (kvs.map fun p => rD p.1) σx ∧ DcI X scope c kx vx O1 n (dTD kvs) (dTD []) (kvs.map fun p => rD p.1) σx P fun w O' => (unl n (dTD kvs) E).nx (σ.set i (some w)) O')
    (nd : X.N.Nodup) (ok : BlkOk X.N X.env.scope scope own) (hg : ∀ X', Blk X scope X' → PG X' tg g)
    (hsw : swapsWith (.DictComp kx vx [⟨tg, iter, [c], 0⟩] scope pos) (some (.Name y py)) spos.line X.env = pure true) (hy : X.N[i]? = some y := by rfl) (hyl : X.env.scope.names.lookup y = some .local := by rfl) (hc : X.calm = true := by rfl)
    (hs : ∀ x, foldedSetIterable iter X.env x = pure x := by intro _; rfl) : WSL X (.Assign [.Name y py] (.DictComp kx vx [⟨tg, iter, [c], 0⟩] scope pos) spos) σ O n (dTD kvs) E := fun F B ρ σc H a od u L r s => by
  refine SS.of (ps_setDg (u0 := .dT []) (tt := ttL X scope c) (tk := teS X scope kx) (tv := teS X scope vx) hu (.inr rfl) hc nd hy hyl hsw (pi_keys pe_se) ok (fun X' b => hg X' b) (fun X' b => pts_one ⟨fun pins s' σ H' Q I h => h X' b pins s' I⟩) (fun X' b => ⟨fun pins s' σ H' Q I h => h X' b pins s' I⟩) (fun X' b => ⟨fun pins s' σ H' Q I h => h X' b pins s' I⟩) hs) ?_
  refine h.then r s fun B1 ρ1 w O1 v H1 g1 p1 r1 s1 rw1 ⟨ew, σx, P, T, q⟩ => ?_
  subst ew
  obtain ⟨b, hb, rfl⟩ := rw_o rw1
  have L1 := L.mono g1.ex p1
  rw [L1.nm] at hb
  cases hb
  rcases L1.what with ⟨kvs2, kvs', ex, rfl, rk⟩ | ⟨kvs2, kvs', ex, rfl, rk⟩
  case inr => injection ex with h1 h2; cases h1
  have ek : kvs2 = kvs := by
    have h1 : kvs.map (·.1) = kvs2.map (·.1) := by injection ex with h1 h2; injection h1
    have h3 : kvs.map (·.2) = kvs2.map (·.2) := mapd_inj (by injection ex)
    rw [← zip_un kvs, ← zip_un kvs2, h1, h3]
  subst ek
  have hJ := seq_keysT (F := F) (ρ1 := ρ1) L1.at_ rk
  refine ⟨a, od, rfl, .inr ⟨kvs', r1.exB _ _ L1.at_, fun D hD => ?_⟩⟩
  generalize hxs : (kvs2.map fun p => rD p.1) = xs at *
  have el : ρ1.length = O1.length := r1.len
  have hDρ : ∀ ρ, ρ1 ++ [D] <+: ρ → ρ[O1.length]? = some D := fun ρ h => pre_get h (by rw [← el]; exact len_get _ _)
  have dn : ∀ (n : Nat) (B' : Hp) (ρ' : List Addr) (O' : Ob) (H' : Hp), Gr F B1 B' → ρ1 ++ [D] <+: ρ' → HR X.K B' F ρ' O' H' → DnO (O1.length + 1) (P n) O' → ∃ B ρ O, Gr F B1 B ∧ ρ1 ++ [D] <+: ρ ∧ HR X.K B F ρ O H' ∧ P n O := fun n B' ρ' O' H' g p r ⟨O2, q1, q2, q3⟩ =>
    ⟨B', ρ'.take O2.length, O2, g, pre_take p (by rw [List.length_append, el]; exact q1), r.wk q2, q3⟩
  refine ⟨fun i m H' => m = xs.length - i ∧ i ≤ xs.length ∧ ∃ B ρ O, Gr F B1 B ∧ ρ1 ++ [D] <+: ρ ∧ HR X.K B F ρ O H' ∧ P i O, ⟨_, rfl, Nat.zero_le _, B1, ρ1 ++ [D], _, Gr.refl, List.prefix_refl _, r1.new (h := .dT []) (ws := []) (vs := []) hD ⟨rfl, rfl⟩ rws_nil, q.h0⟩, ?_⟩
  rintro i m H' ⟨rfl, hi, B2, ρ2, O2, g2, p2, r2, q2⟩
  have p12 : ρ1 <+: ρ2 := (List.prefix_append _ _).trans p2
  obtain ⟨z1, z2⟩ := hJ i B2 ρ2 O2 H' g2.ex p12 r2 trivial
  by_cases hlt : i < xs.length
  · obtain ⟨y1, y2⟩ := z1 hlt
    refine .inr ⟨y1, fun H' => ∃ B ρ O, Gr F B1 B ∧ ρ1 ++ [D] <+: ρ ∧ HR X.K B F ρ O H' ∧ P (i + 1) O, fun H3 z => ⟨_, by omega, rfl, hlt, z⟩, fun y H3 hy => ?_⟩
    obtain ⟨B3, x, g3, r3, hx, rx⟩ := y2 y H3 hy
    have g13 := g2.trans g3
    refine T.2 x (List.mem_of_getElem? hx) F B3 ρ2 y σc O2 H3 _ r3 (s1.mono g13.ex p12) rx fun σ2 hw rs2 => ⟨hw, fun X' hX' => ?_⟩
    have hK : X'.K = X.K := by obtain ⟨_, _, _, _, _, rfl⟩ := hX'; rfl
    refine (q.turn i x O2 hx q2 X' hX' F B3 ρ2 σ2 H3 a od (.dT kvs') (hK ▸ L1.mono g13.ex p12) (hK ▸ r3) (hK ▸ rs2)).mono fun b H4 ⟨B4, ρ4, O4, g4, p4, r4, q4⟩ => ?_
    rw [hK] at r4
    cases b with
    | false =>
      simp only [Bool.false_eq_true, if_false]
      exact dn _ B4 ρ4 O4 H4 (g13.trans g4) (p2.trans p4) r4 (q4.2 rfl)
    | true =>
      simp only [if_true]
      intro X2 hX2
      have hK2 : X2.K = X.K := by obtain ⟨_, _, _, _, _, rfl⟩ := hX2; rfl
      have g14 := g13.trans g4
      have p := p2.trans p4
      have rs4 := rs2.mono g4.ex p4
      refine (q4.1 rfl X2 hX2 F B4 ρ4 σ2 H4 a od (.dT kvs') (hK2 ▸ L1.mono g14.ex ((p12).trans p4)) (hK2 ▸ r4) (hK2 ▸ rs4)).mono fun ku H5 ⟨B5, ρ5, kw, O5, g5, p5, r5, rw5, q5⟩ => ?_
      rw [hK2] at r5 rw5
      intro X3 hX3
      have hK3 : X3.K = X.K := by obtain ⟨_, _, _, _, _, rfl⟩ := hX3; rfl
      have g15 := g14.trans g5
      refine (q5 X3 hX3 F B5 ρ5 σ2 H5 a od (.dT kvs') (hK3 ▸ L1.mono g15.ex ((p12.trans p4).trans p5)) (hK3 ▸ r5) (hK3 ▸ rs4.mono g5.ex p5)).mono fun zu H6 ⟨B6, ρ6, zw, O6, g6, p6, r6, rw6, d, O7, ed, dp, q7⟩ => ?_
      rw [hK3] at r6 rw6
      subst ed
      have pD := (p.trans p5).trans p6
      have rwD : RW X.K B6 ρ6 B6 (.o O1.length) (.ref D) := by
        simp only [RWf]
        exact ⟨⟨D, hDρ _ pD, rfl⟩, trivial⟩
      obtain ⟨p', H7, e', dput, r7⟩ := dp.put r6 rwD (RW.mono' g6.ex p6 rw5) rw6
      cases e'
      exact ⟨H7, dput, dn _ B6 ρ6 _ _ (g15.trans g6) pD r7 q7⟩
  · have e : i = xs.length := by omega
    subst e
    refine .inl ⟨z2 (Nat.le_refl _), ?_⟩
    have := q.done O2 q2
    refine ⟨B2, ρ2, _, O2, g1.trans g2, p1.trans p12, r2, (s1.mono g2.ex p12).set (RS1.of ?_), this⟩
    simp only [RWf]
    exact ⟨⟨D, hDρ _ p2, rfl⟩, trivial⟩
end
end Vf

/-! Vf13: returns that forget; calls with plain arguments; lists of objects. -/
namespace Vf
open PySem L2 Evl

section
variable {X : Cx} {σ : List (Option W)} {O : Ob} {E : EW} {n0 : Nat} {rest : List Stmt} {Q : W → Ob → Prop}
/-- what a def returns may be told with objects forgotten -/
theorem wss_dn (h : WSs X n0 rest σ O ⟨E.nx, DnV n0 E.rt, E.bk, E.ct⟩) : WSs X n0 rest σ O E := fun F B0 ρ0 B ρ σc H h1 h2 h3 h4 h5 =>
  (h F B0 ρ0 B ρ σc H h1 h2 h3 h4 h5).mono ⟨fun _ _ z => z, fun _ _ z => LV.dn (h1 ▸ z), fun _ _ z => z, fun _ _ z => z⟩
theorem wkl_d {m : Nat} {h : Hd} {xs : List D} {O O' : Ob} (k : WkL m O O') : WkL m (some (h, xs.map .d) :: O) (some (h, xs.map .d) :: O') := .same (fun y e => by cases e; exact belows_d m xs) k
theorem wkl_n {m : Nat} {O O' : Ob} (k : WkL m O O') : WkL m (none :: O) (none :: O') := .drop k
theorem wks_d {m : Nat} {x : D} {σ σ' : List (Option W)} (k : WkS m σ σ') : WkS m (some (.d x) :: σ) (some (.d x) :: σ') := .same (fun w e => by cases e; rfl) k
theorem wks_o {m n : Nat} (hn : n < m) {σ σ' : List (Option W)} (k : WkS m σ σ') : WkS m (some (.o n) :: σ) (some (.o n) :: σ') := .same (fun w e => by cases e; simpa [W.bel] using hn) k
theorem wks_x {m : Nat} {σ σ' : List (Option W)} (k : WkS m σ σ') : WkS m (some .x :: σ) (some .x :: σ') := .same (fun w e => by cases e; rfl) k
theorem wks_n {m : Nat} {σ σ' : List (Option W)} (k : WkS m σ σ') : WkS m (none :: σ) (none :: σ') := .same (fun w e => by cases e) k
theorem wkl_all {m : Nat} {O : Ob} (h : ∀ x, some x ∈ O → W.bels m x.2 = true) : WkL m O O := by
  induction O with
  | nil => exact .nil
  | cons a O ih => exact .same (fun y e => h y (by rw [e]; exact List.mem_cons_self)) (ih fun x hx => h x (List.mem_cons_of_mem _ hx))
theorem wkl_take {m : Nat} {O : Ob} (n : Nat) (h : ∀ x, some x ∈ O.take n → W.bels m x.2 = true) : WkL m O (O.take n) := by
  induction O generalizing n with
  | nil => rw [List.take_nil]; exact .nil
  | cons a O ih =>
    cases n with
    | zero => exact .nil
    | succ n =>
      rw [List.take_succ_cons] at h ⊢
      exact .same (fun y e => h y (by rw [e]; exact List.mem_cons_self)) (ih n fun x hx => h x (List.mem_cons_of_mem _ hx))
/-- xs[i], an object stands there -/
theorem oi_lstO {n k : Nat} {ws : List W} {i : Int} (e : O[n]? = some (some (.lst, ws))) (ei : atI ws i = some (.o k)) (q : Q (.o k) O) : OI X (.o n) (.d (dI i)) O Q := fun F B ρ u v H r h1 h2 => by
  obtain ⟨a, g1, g2⟩ := rw_o h1
  obtain ⟨a', vs, ho, f, q1, q2, q3, q4, _⟩ := r.get e
  rw [g1] at q1
  cases q1
  rw [show ho = .lst vs from q3] at q2
  unfold atI at ei
  cases hj : ixN ws.length i with
  | none => rw [hj] at ei; cases ei
  | some j =>
    rw [hj] at ei
    obtain ⟨z, f', ez, rz⟩ := q4.at (i := j) ei
    refine SI.of ix_list ⟨a, vs, i, z, g2, rw_s h2, sq_of q2, ?_, Post.here r (RW.any (H := H) ?_) q⟩
    · unfold atI
      rw [q4.length, hj]
      exact ez
    · simp only [RWf] at rz ⊢
      exact ⟨rz.1, trivial⟩

/-! ### calls -/
theorem rens_id (f : Nat → Nat) (xs : List D) : W.rens f (xs.map W.d) = xs.map W.d := rens_d f xs
theorem vw_d {bor : Lent} {f : Nat → Nat} {d : D} {ws wc : List W} (h : Vw bor f ws wc) : Vw bor f (.d d :: ws) (.d d :: wc) := .same (w := .d d) h
theorem vw_o {bor : Lent} {f : Nat → Nat} {s j : Nat} {ws wc : List W} (e : f j = s) (h : Vw bor f ws wc) : Vw bor f (.o s :: ws) (.o j :: wc) := by
  have := Vw.same (bor := bor) (f := f) (w := .o j) h
  rw [W.ren, e] at this
  exact this
/-- flat objects are handed, no list is lent -/
theorem cs_own {S : FS} {sel : List Nat} {ws wc : List W} (xs : List (Hd × List D)) (nd : sel.Nodup) (hl : xs.length = sel.length) (e : ∀ (j : Nat) n, sel[j]? = some n → O[n]? = (xs[j]?).map fun x => some (x.1, x.2.map W.d)) (v : Vw [] (rn sel O.length) ws wc)
    (q : S wc (xs.map fun x => some (x.1, x.2.map W.d)) fun w Oc' => ImOk [] w Oc' ∧ Q (w.ren (rn sel O.length)) (mrg sel Oc' O)) : CallS S ws O Q :=
  ⟨sel, [], wc, _, ⟨nd, v, fun p hp => (List.not_mem_nil hp).elim, by rw [List.length_map]; exact hl, fun j n en => by
    have hj : j < xs.length := by rw [hl]; exact (List.getElem?_eq_some_iff.mp en).1
    refine ⟨(xs[j].1, xs[j].2.map W.d), by rw [List.getElem?_map, List.getElem?_eq_getElem hj]; rfl, ?_⟩
    rw [e j n en, List.getElem?_eq_getElem hj]
    show some (some (xs[j].1, xs[j].2.map W.d)) = some (some (xs[j].1, W.rens _ (xs[j].2.map W.d)))
    rw [rens_d]⟩, q⟩
theorem cs_own1 {S : FS} {s : Nat} {ws wc : List W} {h : Hd} {xs : List D} (e : O[s]? = some (some (h, xs.map W.d))) (v : Vw [] (rn [s] O.length) ws wc)
    (q : S wc [some (h, xs.map W.d)] fun w Oc' => ImOk [] w Oc' ∧ Q (w.ren (rn [s] O.length)) (mrg [s] Oc' O)) : CallS S ws O Q :=
  cs_own [(h, xs)] (by simp) rfl (fun j n en => by
    cases j with
    | zero => simp at en; subst en; exact e
    | succ j => simp at en) v q
theorem mrg1 {s : Nat} {h : Hd} {xs : List D} {O : Ob} : mrg [s] [some (h, xs.map W.d)] O = O.set s (some (h, xs.map W.d)) := by
  simp [mrg, putAll, renO, rens_d]
theorem mrg_two {s : Nat} {h h2 : Hd} {xs ys : List D} {O : Ob} : mrg [s] [some (h, xs.map W.d), some (h2, ys.map W.d)] O = O.set s (some (h, xs.map W.d)) ++ [some (h2, ys.map W.d)] := by
  simp [mrg, putAll, renO, rens_d]
theorem mrg0 {O : Ob} : mrg [] [] O = O := by simp [mrg, putAll]
theorem mrg01 {h : Hd} {xs : List D} {O : Ob} : mrg [] [some (h, xs.map W.d)] O = O ++ [some (h, xs.map W.d)] := by
  simp [mrg, putAll, renO, rens_d]
/-- lists are lent, nothing else is handed -/
theorem cs_lent {S : FS} {bor : Lent} {ws wc : List W} (hb : ∀ p ∈ bor, O[p.1]? = some (some (.lst, p.2.map .d))) (v : Vw bor (rn [] O.length) ws wc) (q : S wc [] fun w Oc' => ImOk bor w Oc' ∧ Q (w.ren (rn [] O.length)) (mrg [] Oc' O)) : CallS S ws O Q :=
  ⟨[], bor, wc, [], ⟨List.nodup_nil, v, fun p hp => ⟨List.not_mem_nil, hb p hp⟩, rfl, fun j n e => by simp at e⟩, q⟩
end
end Vf

namespace K86
open PySem L2 Evl Vf PySem.W
abbrev Row := List Key
abbrev Bag := List (Row × Int)
def enI (b : Bag) : List (Row × D) := b.map fun p => (p.1, dI p.2)
def bD (b : Bag) : OO := dTD (enI b)
def lk0 (b : Bag) (r : Row) : Int := (lkG b r).getD 0
def putR (b : Bag) (r : Row) (m : Int) : Bag := putG b r m
def addR (b : Bag) (r : Row) (m : Int) : Bag := if lk0 b r + m = 0 then dropG b r else putG b r (lk0 b r + m)
def bagOf (rows : List Row) : Bag := rows.foldl (fun b r => putG b r (lk0 b r + 1)) []
theorem lk_en (b : Bag) (r : Row) : lkG (enI b) r = (lkG b r).map dI := by
  unfold lkG enI
  rw [List.find?_map, Option.map_map, Option.map_map]
  rfl
theorem put_en (b : Bag) (r : Row) (m : Int) : putG (enI b) r (dI m) = enI (putG b r m) := by
  unfold putG enI
  rw [List.any_map]
  by_cases h : (b.any fun kv => decide (kv.1 = r)) = true
  · rw [if_pos (by exact h), if_pos h, List.map_map, List.map_map]
    refine List.map_congr_left fun p _ => ?_
    simp only [Function.comp]
    split <;> rfl
  · rw [if_neg (by exact h), if_neg h, List.map_append]
    rfl
theorem drop_en (b : Bag) (r : Row) : dropG (enI b) r = enI (dropG b r) := by
  unfold dropG enI
  rw [List.filter_map]
  rfl
theorem put_len (b : Bag) (r : Row) (m : Int) : (putG b r m).length ≤ b.length + 1 := by
  unfold putG
  split
  · rw [List.length_map]; omega
  · rw [List.length_append]; exact Nat.le_refl _
theorem bagOf_len (rows : List Row) : (bagOf rows).length ≤ rows.length := by
  unfold bagOf
  suffices h : ∀ (rows : List Row) (b : Bag), (rows.foldl (fun b r => putG b r (lk0 b r + 1)) b).length ≤ b.length + rows.length by simpa using h rows []
  intro rows
  induction rows with
  | nil => intro b; simp
  | cons r rows ih =>
    intro b
    rw [List.foldl_cons]
    refine Nat.le_trans (ih _) ?_
    have := put_len b r (lk0 b r + 1)
    rw [List.length_cons]
    omega
theorem take_fold {α β : Type} (f : β → α → β) (xs : List α) (b : β) {i : Nat} {x : α} (h : xs[i]? = some x) : (xs.take (i + 1)).foldl f b = f ((xs.take i).foldl f b) x := by
  rw [List.take_succ, h]
  simp
theorem bagOf_step {rows : List Row} {i : Nat} {r : Row} (h : rows[i]? = some r) : bagOf (rows.take (i + 1)) = putG (bagOf (rows.take i)) r (lk0 (bagOf (rows.take i)) r + 1) := take_fold _ _ _ h
theorem get_lk0 (b : Bag) (r : Row) : ((lkG (enI b) r).map W.d).getD (W.d (D.s (V.int 0))) = W.d (dI (lk0 b r)) := by
  rw [lk_en, lk0]
  cases lkG b r <;> rfl
theorem bD_put (b : Bag) (r : Row) (m : Int) : dTD (putG (enI b) r (dI m)) = bD (putG b r m) := by rw [put_en]; rfl
theorem bD_drop (b : Bag) (r : Row) : dTD (dropG (enI b) r) = bD (dropG b r) := by rw [drop_en]; rfl
def allR (b more : Bag) : Bag := more.foldl (fun b p => addR b p.1 p.2) b
theorem allR_step {b more : Bag} {i : Nat} {r : Row} {m : Int} (h : more[i]? = some (r, m)) : allR b (more.take (i + 1)) = addR (allR b (more.take i)) r m := take_fold _ _ _ h
theorem addR_len (b : Bag) (r : Row) (m : Int) : (addR b r m).length ≤ b.length + 1 := by
  unfold addR
  split
  · exact Nat.le_succ_of_le (List.length_filter_le _ _)
  · exact put_len _ _ _
theorem allR_len (more b : Bag) : (allR b more).length ≤ b.length + more.length := by
  unfold allR
  induction more generalizing b with
  | nil => simp
  | cons p more ih =>
    rw [List.foldl_cons]
    have h1 := ih (addR b p.1 p.2)
    have h2 := addR_len b p.1 p.2
    rw [List.length_cons]
    omega
def lstR (rows : List Row) : OO := (.lst, (rows.map rD).map .d)
theorem mrg_bl {s : Nat} {b : Bag} {l : List Row} {O : Ob} : mrg [s] [some (bD b), some (lstR l)] O = O.set s (some (bD b)) ++ [some (lstR l)] := mrg_two
theorem mrg1b {s : Nat} {b : Bag} {O : Ob} : mrg [s] [some (bD b)] O = O.set s (some (bD b)) := mrg1
/-! rows of one kind: true an int, false a text of small letters -/
def OkK : Bool → Key → Prop
  | true, .inl _ => True
  | false, .inr z => PyData.canLay0 (.str z) = true
  | _, _ => False
def OkR : List Bool → Row → Prop
  | [], [] => True
  | k :: ks, x :: xs => OkK k x ∧ OkR ks xs
  | _, _ => False
def sortR (rows : List Row) : List Row := rows.mergeSort (dataLe false fun k => (rD k).pd)
def spr (b : Bag) : List Row := (sortR (b.map (·.1))).flatMap fun k => List.replicate (lk0 b k).toNat k
theorem OkR.okp : ∀ {ks : List Bool} {r : Row}, OkR ks r → D.okps (r.map kD) = true
  | [], [], _ => rfl
  | true :: ks, .inl i :: r, h => by simp only [List.map_cons, D.okps, kD, D.okp, OkR.okp h.2, Bool.and_self]
  | false :: ks, .inr z :: r, h => by
    have hz : PyData.canLay0 (.str z) = true := h.1
    simp only [List.map_cons, D.okps, kD, D.okp, OkR.okp h.2, hz, Bool.and_self]
  | true :: ks, .inr _ :: r, h => h.1.elim
  | false :: ks, .inl _ :: r, h => h.1.elim
  | [], _ :: _, h => h.elim
  | _ :: _, [], h => by cases h
theorem OkR.alike : ∀ {ks : List Bool} {r r' : Row}, OkR ks r → OkR ks r' → alikeAll (D.pds (r.map kD)) (D.pds (r'.map kD)) = true
  | [], [], [], _, _ => rfl
  | true :: ks, .inl i :: r, .inl j :: r', h, h' => by simp only [List.map_cons, D.pds, kD, D.pd, alikeAll, W.alike, OkR.alike h.2 h'.2, Bool.and_self]
  | false :: ks, .inr z :: r, .inr z' :: r', h, h' => by simp only [List.map_cons, D.pds, kD, D.pd, alikeAll, W.alike, OkR.alike h.2 h'.2, Bool.and_self]
  | true :: ks, .inr _ :: r, _, h, _ => h.1.elim
  | false :: ks, .inl _ :: r, _, h, _ => h.1.elim
  | true :: ks, _, .inr _ :: r, _, h => h.1.elim
  | false :: ks, _, .inl _ :: r, _, h => h.1.elim
  | [], _ :: _, _, h, _ => h.elim
  | [], _, _ :: _, _, h => h.elim
  | _ :: _, [], _, h, _ => by cases h
  | _ :: _, _, [], _, h => by cases h
theorem depth_row : ∀ r : Row, PyData.depthAll (D.pds (r.map kD)) = 0
  | [] => rfl
  | .inl _ :: r => by simp [D.pds, kD, D.pd, PyData.depthAll, PyData.depth, depth_row r]
  | .inr _ :: r => by simp [D.pds, kD, D.pd, PyData.depthAll, PyData.depth, depth_row r]
theorem rD_depth (r : Row) : (rD r).pd.depth ≤ 16 := by
  rw [rD, D.pd, PyData.depth, depth_row]
  decide
theorem rD_okp {ks : List Bool} {r : Row} (h : OkR ks r) : (rD r).okp = true := by
  rw [rD, D.okp]; exact h.okp
theorem rD_alike {ks : List Bool} {r r' : Row} (h : OkR ks r) (h' : OkR ks r') : W.alike (rD r).pd (rD r').pd = true := by
  rw [rD, rD, D.pd, D.pd, W.alike]
  exact h.alike h'
theorem en_keys (b : Bag) : (enI b).map (·.1) = b.map (·.1) := by
  unfold enI
  rw [List.map_map]
  rfl
theorem sortable_rows {ks : List Bool} (hk : ks ≠ []) {rows : List Row} (h : ∀ r ∈ rows, OkR ks r) : Sortable (rows.map fun k => (rD k).pd) := .inl fun d hd => by
  obtain ⟨r, hr, rfl⟩ := List.mem_map.mp hd
  have := h r hr
  cases ks with
  | nil => exact absurd rfl hk
  | cons k ks =>
    cases r with
    | nil => cases this
    | cons x r => exact ⟨_, _, rfl⟩
theorem lkG_mem {b : Bag} {r : Row} (h : r ∈ b.map (·.1)) : lkG (enI b) r = some (dI (lk0 b r)) := by
  rw [lk_en, lk0]
  cases hk : lkG b r with
  | some v => rfl
  | none =>
    unfold lkG at hk
    rw [Option.map_eq_none_iff, List.find?_eq_none] at hk
    obtain ⟨p, hp, rfl⟩ := List.mem_map.mp h
    exact absurd (decide_eq_true rfl) (hk p hp)
theorem lk0_mem {b : Bag} {r : Row} (h : r ∈ b.map (·.1)) : (r, lk0 b r) ∈ b := by
  unfold lk0
  cases hk : lkG b r with
  | some v =>
    unfold lkG at hk
    obtain ⟨p, hp, rfl⟩ := Option.map_eq_some_iff.mp hk
    have h1 := List.find?_some hp
    have h2 := List.mem_of_find?_eq_some hp
    rw [← of_decide_eq_true h1]
    exact h2
  | none =>
    unfold lkG at hk
    rw [Option.map_eq_none_iff, List.find?_eq_none] at hk
    obtain ⟨p, hp, rfl⟩ := List.mem_map.mp h
    exact absurd (decide_eq_true rfl) (hk p hp)
theorem take_flat {α β : Type} (f : α → List β) (xs : List α) {i : Nat} {x : α} (h : xs[i]? = some x) : (xs.take (i + 1)).flatMap f = (xs.take i).flatMap f ++ f x := by
  rw [List.take_succ, h]
  simp
theorem flat_len {α β : Type} (f : α → List β) (xs : List α) (i : Nat) : ((xs.take i).flatMap f).length ≤ (xs.flatMap f).length := by
  conv => rhs; rw [← List.take_append_drop i xs, List.flatMap_append, List.length_append]
  omega
end K86

namespace K86
open PySem L2 Evl Vf PySem.W
/-! plain: bags -/
theorem mem_put {b : Bag} {r : Row} {m : Int} {p : Row × Int} (h : p ∈ putG b r m) : p = (r, m) ∨ (p ∈ b ∧ p.1 ≠ r) := by
  unfold putG at h
  split at h
  · obtain ⟨q, hq, rfl⟩ := List.mem_map.mp h
    by_cases e : q.1 = r
    · simp only [if_pos e]; exact .inl (by rw [e])
    · simp only [if_neg e]; exact .inr ⟨hq, e⟩
  · rename_i hn
    rcases List.mem_append.mp h with h | h
    · refine .inr ⟨h, fun e => hn ?_⟩
      exact List.any_eq_true.mpr ⟨p, h, decide_eq_true e⟩
    · exact .inl (List.mem_singleton.mp h)
theorem put_keys (b : Bag) (r : Row) (m : Int) : (r ∈ b.map (·.1) ∧ (putG b r m).map (·.1) = b.map (·.1)) ∨ (r ∉ b.map (·.1) ∧ (putG b r m).map (·.1) = b.map (·.1) ++ [r]) := by
  unfold putG
  by_cases h : (b.any fun kv => decide (kv.1 = r)) = true
  · have h' : r ∈ b.map (·.1) := by
      obtain ⟨q, hq, e⟩ := List.any_eq_true.mp h
      exact List.mem_map.mpr ⟨q, hq, of_decide_eq_true e⟩
    refine .inl ⟨h', ?_⟩
    rw [if_pos h, List.map_map]
    refine List.map_congr_left fun q _ => ?_
    simp only [Function.comp]
    split <;> rfl
  · have h' : r ∉ b.map (·.1) := fun hr => by
      obtain ⟨q, hq, e⟩ := List.mem_map.mp hr
      exact h (List.any_eq_true.mpr ⟨q, hq, decide_eq_true e⟩)
    refine .inr ⟨h', ?_⟩
    rw [if_neg h, List.map_append]
    rfl
theorem put_nodup {b : Bag} (h : (b.map (·.1)).Nodup) (r : Row) (m : Int) : ((putG b r m).map (·.1)).Nodup := by
  rcases put_keys b r m with ⟨_, e⟩ | ⟨hn, e⟩
  · rw [e]; exact h
  · rw [e, List.nodup_append]
    exact ⟨h, by simp, fun a ha c hc e => by
      have : c = r := by simpa using hc
      exact hn (this ▸ e ▸ ha)⟩
theorem drop_nodup {b : Bag} (h : (b.map (·.1)).Nodup) (r : Row) : ((dropG b r).map (·.1)).Nodup := by
  refine List.Sublist.nodup ?_ h
  exact List.Sublist.map _ List.filter_sublist
theorem add_nodup {b : Bag} (h : (b.map (·.1)).Nodup) (r : Row) (m : Int) : ((addR b r m).map (·.1)).Nodup := by
  unfold addR
  split
  · exact drop_nodup h r
  · exact put_nodup h r _
theorem lk0_of_mem {b : Bag} (h : (b.map (·.1)).Nodup) {p : Row × Int} (hp : p ∈ b) : lk0 b p.1 = p.2 := by
  induction b with
  | nil => cases hp
  | cons q b ih =>
    rw [List.map_cons, List.nodup_cons] at h
    rcases List.mem_cons.mp hp with rfl | hp
    · simp [lk0, lkG]
    · have hne : q.1 ≠ p.1 := fun e => h.1 (List.mem_map.mpr ⟨p, hp, e.symm⟩)
      have := ih h.2 hp
      simp only [lk0, lkG, List.find?_cons] at this ⊢
      rw [decide_eq_false hne]
      exact this
theorem lk0_not {b : Bag} {r : Row} (h : r ∉ b.map (·.1)) : lk0 b r = 0 := by
  unfold lk0 lkG
  have : (b.find? fun kv => decide (kv.1 = r)) = none := by
    rw [List.find?_eq_none]
    intro p hp e
    exact h (List.mem_map.mpr ⟨p, hp, of_decide_eq_true e⟩)
  rw [this]; rfl
theorem lk0_put (b : Bag) (r : Row) (m : Int) (k : Row) (h : (b.map (·.1)).Nodup) : lk0 (putG b r m) k = if k = r then m else lk0 b k := by
  by_cases hk : k ∈ (putG b r m).map (·.1)
  · obtain ⟨p, hp, rfl⟩ := List.mem_map.mp hk
    rw [lk0_of_mem (put_nodup h r m) hp]
    rcases mem_put hp with rfl | ⟨hq, hne⟩
    · simp
    · rw [if_neg hne, lk0_of_mem h hq]
  · rw [lk0_not hk]
    rcases put_keys b r m with ⟨hr, e⟩ | ⟨hr, e⟩
    · rw [e] at hk
      have hne : k ≠ r := fun e => hk (e ▸ hr)
      rw [if_neg hne, lk0_not hk]
    · rw [e, List.mem_append] at hk
      have hne : k ≠ r := fun e => hk (.inr (by simp [e]))
      rw [if_neg hne, lk0_not (fun h => hk (.inl h))]
theorem lk0_drop (b : Bag) (r k : Row) (h : (b.map (·.1)).Nodup) : lk0 (dropG b r) k = if k = r then 0 else lk0 b k := by
  by_cases hk : k ∈ (dropG b r).map (·.1)
  · obtain ⟨p, hp, rfl⟩ := List.mem_map.mp hk
    rw [lk0_of_mem (drop_nodup h r) hp]
    obtain ⟨h1, h2⟩ := List.mem_filter.mp hp
    rw [if_neg (of_decide_eq_true h2), lk0_of_mem h h1]
  · rw [lk0_not hk]
    by_cases e : k = r
    · rw [if_pos e]
    · rw [if_neg e, lk0_not]
      intro hm
      obtain ⟨p, hp, rfl⟩ := List.mem_map.mp hm
      exact hk (List.mem_map.mpr ⟨p, List.mem_filter.mpr ⟨hp, decide_eq_true e⟩, rfl⟩)
theorem lk0_add (b : Bag) (r : Row) (m : Int) (k : Row) (h : (b.map (·.1)).Nodup) : lk0 (addR b r m) k = if k = r then lk0 b r + m else lk0 b k := by
  unfold addR
  split
  · rename_i e
    rw [lk0_drop b r k h, e]
  · rw [lk0_put b r _ k h]
theorem mem_add {b : Bag} {r : Row} {m : Int} {p : Row × Int} (h : p ∈ addR b r m) : p = (r, lk0 b r + m) ∨ (p ∈ b ∧ p.1 ≠ r) := by
  unfold addR at h
  split at h
  · obtain ⟨h1, h2⟩ := List.mem_filter.mp h
    exact .inr ⟨h1, of_decide_eq_true h2⟩
  · exact mem_put h
/-! those of some counts -/
def selB (f : Int → Option Int) (b : Bag) (ks : List Row) : Bag := ks.foldl (fun g k => match f (lk0 b k) with | some v => putG g k v | none => g) []
def fGone (m : Int) : Option Int := if m < 0 then some (0 - m) else none
def fCome (m : Int) : Option Int := if 0 < m then some m else none
def goneB (b : Bag) : Bag := selB fGone b (b.map (·.1))
def comeB (b : Bag) : Bag := selB fCome b (b.map (·.1))
theorem sel_step (f : Int → Option Int) (b : Bag) (ks : List Row) {i : Nat} {k : Row} (h : ks[i]? = some k) : selB f b (ks.take (i + 1)) = (match f (lk0 b k) with | some v => putG (selB f b (ks.take i)) k v | none => selB f b (ks.take i)) := take_fold _ _ _ h
theorem sel_ok (f : Int → Option Int) (b : Bag) (ks : List Row) : (selB f b ks).length ≤ ks.length ∧ ((selB f b ks).map (·.1)).Nodup ∧ (∀ p ∈ selB f b ks, p.1 ∈ ks ∧ f (lk0 b p.1) = some p.2) ∧ ∀ r ∈ ks, lk0 (selB f b ks) r = (f (lk0 b r)).getD 0 := by
  suffices h : ∀ n, (selB f b (ks.take n)).length ≤ n ∧ ((selB f b (ks.take n)).map (·.1)).Nodup ∧ (∀ p ∈ selB f b (ks.take n), p.1 ∈ ks.take n ∧ f (lk0 b p.1) = some p.2) ∧ ∀ r ∈ ks.take n, lk0 (selB f b (ks.take n)) r = (f (lk0 b r)).getD 0 by
    have := h ks.length
    rwa [List.take_length] at this
  intro n
  induction n with
  | zero => exact ⟨Nat.le_refl _, List.nodup_nil, fun p hp => (by cases hp), fun r hr => (by cases hr)⟩
  | succ n ih =>
    obtain ⟨h1, h2, h3, h4⟩ := ih
    cases hk : ks[n]? with
    | none =>
      have hl : ks.length ≤ n := List.getElem?_eq_none_iff.mp hk
      rw [List.take_of_length_le hl] at h1 h2 h3 h4
      rw [List.take_of_length_le (Nat.le_succ_of_le hl)]
      exact ⟨Nat.le_succ_of_le h1, h2, h3, h4⟩
    | some k =>
      have ht : ks.take (n + 1) = ks.take n ++ [k] := by rw [List.take_succ, hk]; rfl
      rw [sel_step f b ks hk, ht]
      cases hf : f (lk0 b k) with
      | none =>
        simp only
        refine ⟨Nat.le_succ_of_le h1, h2, fun p hp => ⟨List.mem_append_left _ (h3 p hp).1, (h3 p hp).2⟩, fun r hr => ?_⟩
        rcases List.mem_append.mp hr with hr | hr
        · exact h4 r hr
        · have e : r = k := by simpa using hr
          subst e
          rw [hf]
          refine lk0_not fun hm => ?_
          obtain ⟨p, hp, e⟩ := List.mem_map.mp hm
          have := (h3 p hp).2
          rw [e, hf] at this
          cases this
      | some v =>
        simp only
        refine ⟨Nat.le_trans (put_len _ _ _) (Nat.succ_le_succ h1), put_nodup h2 k v, fun p hp => ?_, fun r hr => ?_⟩
        · rcases mem_put hp with rfl | ⟨hp, _⟩
          · exact ⟨List.mem_append_right _ List.mem_cons_self, hf⟩
          · exact ⟨List.mem_append_left _ (h3 p hp).1, (h3 p hp).2⟩
        · rw [lk0_put _ _ _ _ h2]
          by_cases e : r = k
          · subst e
            rw [if_pos rfl, hf]; rfl
          · rw [if_neg e]
            refine h4 r ?_
            rcases List.mem_append.mp hr with hr | hr
            · exact hr
            · exact absurd (List.mem_singleton.mp hr) e
theorem flat_bound {α β : Type} (f : α → List β) (n : Nat) : ∀ xs : List α, (∀ x ∈ xs, (f x).length ≤ n) → (xs.flatMap f).length ≤ xs.length * n
  | [], _ => by simp
  | x :: xs, h => by
    rw [List.flatMap_cons, List.length_append, List.length_cons, Nat.succ_mul]
    have h1 := flat_bound f n xs fun y hy => h y (List.mem_cons_of_mem _ hy)
    have h2 := h x List.mem_cons_self
    omega
theorem spr_len {b : Bag} (n : Nat) (h : ∀ p ∈ b, p.2 ≤ n) : (spr b).length ≤ b.length * n := by
  have := flat_bound (fun k => List.replicate (lk0 b k).toNat k) n (sortR (b.map (·.1))) fun k hk => by
    rw [List.length_replicate]
    have hm : k ∈ b.map (·.1) := (List.mergeSort_perm _ _).mem_iff.mp hk
    have := h _ (lk0_mem hm)
    simp only at this
    omega
  rw [show (sortR (b.map (·.1))).length = b.length by unfold sortR; rw [List.length_mergeSort, List.length_map]] at this
  exact this
end K86
namespace K86
open PySem L2 Evl Vf PySem.W
def subR (b : Bag) (rows : List Row) : Bag := rows.foldl (fun b r => addR b r (-1)) b
theorem subR_step {b : Bag} {rows : List Row} {i : Nat} {r : Row} (h : rows[i]? = some r) : subR b (rows.take (i + 1)) = addR (subR b (rows.take i)) r (-1) := take_fold _ _ _ h
structure BInv (ks : List Bool) (lo hi : Int) (n : Nat) (b : Bag) : Prop where
  ok : ∀ p ∈ b, OkR ks p.1
  nd : (b.map (·.1)).Nodup
  bd : ∀ p ∈ b, lo ≤ p.2 ∧ p.2 ≤ hi
  len : b.length ≤ n
  z1 : lo ≤ 0
  z2 : 0 ≤ hi
theorem BInv.lk {ks : List Bool} {lo hi : Int} {n : Nat} {b : Bag} (h : BInv ks lo hi n b) (r : Row) : lo ≤ lk0 b r ∧ lk0 b r ≤ hi := by
  by_cases hr : r ∈ b.map (·.1)
  · exact h.bd _ (lk0_mem hr)
  · rw [lk0_not hr]; exact ⟨h.z1, h.z2⟩
theorem BInv.put {ks : List Bool} {lo hi : Int} {n : Nat} {b : Bag} (h : BInv ks lo hi n b) {r : Row} (hr : OkR ks r) : BInv ks lo (hi + 1) (n + 1) (putG b r (lk0 b r + 1)) := by
  have hk := h.lk r
  have h1 := h.z1
  have h2 := h.z2
  refine ⟨fun p hp => ?_, put_nodup h.nd _ _, fun p hp => ?_, Nat.le_trans (put_len _ _ _) (Nat.succ_le_succ h.len), h.z1, by omega⟩
  · rcases mem_put hp with rfl | ⟨hp, _⟩
    · exact hr
    · exact h.ok p hp
  · rcases mem_put hp with rfl | ⟨hp, _⟩
    · simp only; omega
    · have := h.bd p hp; omega
theorem BInv.add {ks : List Bool} {lo hi : Int} {n : Nat} {b : Bag} (h : BInv ks lo hi n b) {r : Row} (hr : OkR ks r) {m u v : Int} (h3 : u ≤ m) (h4 : m ≤ v) (hu : u ≤ 0) (hv : 0 ≤ v) : BInv ks (lo + u) (hi + v) (n + 1) (addR b r m) := by
  have hk := h.lk r
  have h1 := h.z1
  have h2 := h.z2
  refine ⟨fun p hp => ?_, add_nodup h.nd _ _, fun p hp => ?_, Nat.le_trans (addR_len _ _ _) (Nat.succ_le_succ h.len), by omega, by omega⟩
  · rcases mem_add hp with rfl | ⟨hp, _⟩
    · exact hr
    · exact h.ok p hp
  · rcases mem_add hp with rfl | ⟨hp, _⟩
    · simp only; omega
    · have := h.bd p hp; omega
theorem BInv.nil (ks : List Bool) : BInv ks 0 0 0 [] := ⟨fun p h => (by cases h), List.nodup_nil, fun p h => (by cases h), Nat.le_refl _, Int.le_refl _, Int.le_refl _⟩
theorem BInv.of (ks : List Bool) : ∀ (rows : List Row), (∀ r ∈ rows, OkR ks r) → BInv ks 0 rows.length rows.length (bagOf rows) := by
  intro rows h
  suffices H : ∀ i, i ≤ rows.length → BInv ks 0 (i : Nat) i (bagOf (rows.take i)) by
    have := H rows.length (Nat.le_refl _)
    rwa [List.take_length] at this
  intro i
  induction i with
  | zero => intro _; exact BInv.nil ks
  | succ i ih =>
    intro hi
    have hr : rows[i]? = some rows[i] := List.getElem?_eq_getElem hi
    rw [bagOf_step hr]
    exact (ih (Nat.le_of_succ_le hi)).put (h _ (List.getElem_mem _))
theorem BInv.sub {ks : List Bool} {lo hi : Int} {n : Nat} {b : Bag} (h : BInv ks lo hi n b) : ∀ (rows : List Row), (∀ r ∈ rows, OkR ks r) → BInv ks (lo - rows.length) hi (n + rows.length) (subR b rows) := by
  intro rows hr
  induction rows generalizing b lo n with
  | nil => simpa [subR] using h
  | cons r rows ih =>
    have h1 := h.add (r := r) (m := -1) (u := -1) (v := 0) (hr r List.mem_cons_self) (by omega) (by omega) (by omega) (by omega)
    rw [Int.add_zero] at h1
    have h2 := ih h1 (fun r hr' => hr r (List.mem_cons_of_mem _ hr'))
    have e1 : lo + -1 - (rows.length : Int) = lo - ((r :: rows).length : Nat) := by rw [List.length_cons]; omega
    have e2 : n + 1 + rows.length = n + (r :: rows).length := by rw [List.length_cons]; omega
    rw [e1, e2] at h2
    exact h2
theorem BInv.all {ks : List Bool} {lo hi v : Int} {n : Nat} {b : Bag} (h : BInv ks lo hi n b) (hv : 0 ≤ v) : ∀ (more : Bag), (∀ p ∈ more, OkR ks p.1 ∧ 0 ≤ p.2 ∧ p.2 ≤ v) → BInv ks lo (hi + more.length * v) (n + more.length) (allR b more) := by
  intro more hr
  induction more generalizing b hi n with
  | nil => simpa [allR] using h
  | cons p more ih =>
    obtain ⟨k1, k2, k3⟩ := hr p List.mem_cons_self
    have h1 := h.add (r := p.1) (m := p.2) (u := 0) (v := v) k1 k2 k3 (by omega) hv
    rw [Int.add_zero] at h1
    have h2 := ih h1 (fun r hr' => hr r (List.mem_cons_of_mem _ hr'))
    have e1 : hi + v + (more.length : Int) * v = hi + ((p :: more).length : Nat) * v := by
      rw [List.length_cons, Int.natCast_succ, Int.add_mul]; omega
    have e2 : n + 1 + more.length = n + (p :: more).length := by rw [List.length_cons]; omega
    rw [e1, e2] at h2
    exact h2
end K86

namespace K86
open PySem L2 Evl Vf PySem.W
def top (i : Nat) : Stmt := PySem.Challenge.pw_planstead_k86_differences_of_rows.main.body.getD i (.Pass ⟨0, 0, 0, 0⟩)
abbrev sBag : Stmt := top 1
theorem scBag : FnScope ["rows", "bag", "row"] ["rows"] (defScope sBag) := ⟨rfl, rfl, rfl, by decide +kernel, rfl, by decide +kernel, by decide +kernel⟩
def spBag : FS := fun ws O Q => ∃ rows : List Row, ws = [.d (.l (rows.map rD))] ∧ O = [] ∧ rows.length < 1000000 ∧ Q (.o 0) [some (bD (bagOf rows))]
abbrev sAdd : Stmt := top 2
theorem scAdd : FnScope ["bag", "row", "many", "left"] ["bag", "row", "many"] (defScope sAdd) := ⟨rfl, rfl, rfl, by decide +kernel, rfl, by decide +kernel, by decide +kernel⟩
def spAdd : FS := fun ws O Q => ∃ (b : Bag) (r : Row) (m : Int), ws = [.o 0, .d (rD r), .d (dI m)] ∧ O = [some (bD b)] ∧ b.length < 1000000 ∧ Q (.d dN) [some (bD (addR b r m))]
abbrev sAll : Stmt := top 3
theorem scAll : FnScope ["bag", "more", "row", "many"] ["bag", "more"] (defScope sAll) := ⟨rfl, rfl, rfl, by decide +kernel, rfl, by decide +kernel, by decide +kernel⟩
def spAll : FS := fun ws O Q => ∃ (b more : Bag), ws = [.o 0, .o 1] ∧ O = [some (bD b), some (bD more)] ∧ b.length + more.length < 1000000 ∧ Q (.d dN) [some (bD (allR b more)), some (bD more)]
abbrev sSpread : Stmt := top 4
theorem scSpread : FnScope ["bag", "found", "row"] ["bag"] (defScope sSpread) := ⟨rfl, rfl, rfl, by decide +kernel, rfl, by decide +kernel, by decide +kernel⟩
def spSpread : FS := fun ws O Q => ∃ (b : Bag) (ks : List Bool), ws = [.o 0] ∧ O = [some (bD b)] ∧ (∀ p ∈ b, OkR ks p.1) ∧ ks ≠ [] ∧ (b.map (·.1)).Nodup ∧ ((∀ p ∈ b, p.2 < 1000000 ∧ -(2 ^ 63) ≤ p.2) ∧ (spr b).length ≤ 1000000) ∧ Q (.o 1) [some (bD b), some (lstR (spr b))]
structure Txt (K : PySem.W.Frag) (mg : Str → Option Value) : Prop where
  int : mg "int" = none
  sorted : mg "sorted" = none
  range : mg "range" = none
  enum : mg "enumerate" = none
  len : mg "len" = none
  list : mg "list" = none
  tuple : mg "tuple" = none
  isi : mg "isinstance" = none
  max : mg "max" = none
  min : mg "min" = none
local macro_rules
  | `(tactic| walk_at "go") => `(tactic| first
    | ((with_reducible show WE _ (.Constant _ _ _) _ _ _) <;> first | refine we_int ?_ | refine we_str ?_ | refine we_bl ?_ | refine we_non ?_)
    | ((with_reducible show WE _ (.BinOp _ _ _ _) _ _ _) <;> first | refine we_op ?_)
    | ((with_reducible show WE _ (.Compare _ [_] _ _) _ _ _) <;> first | refine we_cmp ?_)
    | ((with_reducible show WE _ (.UnaryOp .USub _ _) _ _ _) <;> first | refine we_un ?_)
    | ((with_reducible show WE _ (.UnaryOp .Not _ _) _ _ _) <;> first | refine we_not ?_)
    | ((with_reducible show WE _ (.Subscript _ (.Slice _ _ _ _) _) _ _ _) <;> first | refine we_sliceL ?_)
    | ((with_reducible show WE _ (.Subscript _ _ _) _ _ _) <;> first | refine we_ix ?_)
    | ((with_reducible show WE _ (.IfExp _ _ _ _) _ _ _) <;> first | refine we_ifExp ?_)
    | ((with_reducible show WE _ (.Tuple _ _ _) _ _ _) <;> first | refine we_tup ?_)
    | ((with_reducible show WE _ (.List _ _) _ _ _) <;> first | refine we_lst ?_)
    | ((with_reducible show WE _ (.Call (.Name "int" _) _ _ _) _ _ _) <;> first | refine we_callTy (T := "int") ?_ (by assumption))
    | ((with_reducible show WE _ (.Name "int" _) _ _ _) <;> first | refine we_tyv (n := "int") (by assumption) ?_)
    | ((with_reducible show WE _ (.Call (.Name "list" _) _ _ _) _ _ _) <;> first | refine we_callTy (T := "list") ?_ (by assumption))
    | ((with_reducible show WE _ (.Name "list" _) _ _ _) <;> first | refine we_tyv (n := "list") (by assumption) ?_)
    | ((with_reducible show WE _ (.Call (.Name "tuple" _) _ _ _) _ _ _) <;> first | refine we_callTy (T := "tuple") ?_ (by assumption))
    | ((with_reducible show WE _ (.Name "tuple" _) _ _ _) <;> first | refine we_tyv (n := "tuple") (by assumption) ?_)
    | ((with_reducible show WE _ (.Call (.Name "str" _) _ _ _) _ _ _) <;> first | refine we_callTy (T := "str") ?_ (by assumption))
    | ((with_reducible show WE _ (.Name "str" _) _ _ _) <;> first | refine we_tyv (n := "str") (by assumption) ?_)
    | ((with_reducible show WE _ (.Call (.Name "dict" _) _ _ _) _ _ _) <;> first | refine we_callTy (T := "dict") ?_ (by assumption))
    | ((with_reducible show WE _ (.Name "dict" _) _ _ _) <;> first | refine we_tyv (n := "dict") (by assumption) ?_)
    | ((with_reducible show WE _ (.Call (.Name "bool" _) _ _ _) _ _ _) <;> first | refine we_callTy (T := "bool") ?_ (by assumption))
    | ((with_reducible show WE _ (.Name "bool" _) _ _ _) <;> first | refine we_tyv (n := "bool") (by assumption) ?_)
    | ((with_reducible show WE _ (.Call (.Name "len" _) _ _ _) _ _ _) <;> first | refine we_callB (id := "len") ?_ (by assumption))
    | ((with_reducible show WE _ (.Call (.Name "max" _) _ _ _) _ _ _) <;> first | refine we_callB (id := "max") ?_ (by assumption))
    | ((with_reducible show WE _ (.Call (.Name "min" _) _ _ _) _ _ _) <;> first | refine we_callB (id := "min") ?_ (by assumption))
    | ((with_reducible show WE _ (.Call (.Name "sorted" _) _ _ _) _ _ _) <;> first | refine we_callB (id := "sorted") ?_ (by assumption))
    | ((with_reducible show WE _ (.Call (.Name "isinstance" _) _ _ _) _ _ _) <;> first | refine we_callB (id := "isinstance") ?_ (by assumption))
    | ((with_reducible show WE _ (.Call (.Name "sum" _) _ _ _) _ _ _) <;> first | refine we_callB (id := "sum") ?_ (by assumption))
    | ((with_reducible show WE _ (.Call (.Name "repr" _) _ _ _) _ _ _) <;> first | refine we_callB (id := "repr") ?_ (by assumption))
    | ((with_reducible show WE _ (.Call (.Name "abs" _) _ _ _) _ _ _) <;> first | refine we_callB (id := "abs") ?_ (by assumption))
    | ((with_reducible show WE _ (.Call (.Name "ord" _) _ _ _) _ _ _) <;> first | refine we_callB (id := "ord") ?_ (by assumption))
    | ((with_reducible show WE _ (.Call (.Name "chr" _) _ _ _) _ _ _) <;> first | refine we_callB (id := "chr") ?_ (by assumption))
    | ((with_reducible show WE _ (.Name _ _) _ _ _) <;> first | refine we_var 0 rfl ?_ | refine we_var 1 rfl ?_ | refine we_var 2 rfl ?_ | refine we_var 3 rfl ?_ | refine we_var 4 rfl ?_ | refine we_var 5 rfl ?_ | refine we_var 6 rfl ?_ | refine we_var 7 rfl ?_ | refine we_var 8 rfl ?_ | refine we_var 9 rfl ?_ | refine we_var 10 rfl ?_ | refine we_var 11 rfl ?_ | refine we_var 12 rfl ?_ | refine we_var 13 rfl ?_)
    | ((with_reducible show WA _ ([]) _ _ _) <;> first | refine wa_nil ?_)
    | ((with_reducible show WA _ (_ :: _) _ _ _) <;> first | refine wa_cons ?_)
    | ((with_reducible show WO _ (none) _ _ _) <;> first | refine wo_none ?_)
    | ((with_reducible show WO _ (some _) _ _ _) <;> first | refine wo_some ?_)
    | ((with_reducible show WT _ (.Compare _ [_] _ _) _ _ _) <;> first | refine wt_cmp ?_)
    | ((with_reducible show WT _ (.BoolOp _ _ _) _ _ _) <;> first | refine wt_bool ?_)
    | ((with_reducible show WT _ (.UnaryOp .Not _ _) _ _ _) <;> first | refine wt_not ?_)
    | ((with_reducible show WW _ (.BoolOp .And [_] _) _ _ _) <;> first | refine ww_and1 ?_)
    | ((with_reducible show WW _ (.BoolOp .Or [_] _) _ _ _) <;> first | refine ww_or1 ?_)
    | ((with_reducible show WW _ (.BoolOp .And _ _) _ _ _) <;> first | refine ww_and ?_)
    | ((with_reducible show WW _ (.BoolOp .Or _ _) _ _ _) <;> first | refine ww_or ?_)
    | ((with_reducible show WG _ (.Name _ _) _ _ _ _) <;> first | refine wg_name 0 ?_ (by assumption) | refine wg_name 1 ?_ (by assumption) | refine wg_name 2 ?_ (by assumption) | refine wg_name 3 ?_ (by assumption) | refine wg_name 4 ?_ (by assumption) | refine wg_name 5 ?_ (by assumption) | refine wg_name 6 ?_ (by assumption) | refine wg_name 7 ?_ (by assumption) | refine wg_name 8 ?_ (by assumption) | refine wg_name 9 ?_ (by assumption) | refine wg_name 10 ?_ (by assumption) | refine wg_name 11 ?_ (by assumption) | refine wg_name 12 ?_ (by assumption) | refine wg_name 13 ?_ (by assumption))
    | ((with_reducible show WG _ (.Subscript _ _ _) _ _ _ _) <;> first | refine wg_sub ?_)
    | ((with_reducible show WGs _ ([]) _ _ _ _) <;> first | refine wgs_nil ?_)
    | ((with_reducible show WGs _ (_ :: _) _ _ _ _) <;> first | refine wgs_cons ?_)
    | ((with_reducible show WSs _ _ _ _ _ _) <;> first | refine wss1 ?_ | refine wss ?_ | refine wss_nil ?_)
    | ((with_reducible show WS _ _ ((.Return (some _) _)) _ _ _) <;> first | refine ws_ret ?_)
    | ((with_reducible show WS _ _ ((.Return none _)) _ _ _) <;> first | refine ws_retN ?_)
    | ((with_reducible show WS _ _ ((.If _ _ _ _)) _ _ _) <;> first | refine ws_if ?_)
    | ((with_reducible show WS _ _ ((.Expr _ _)) _ _ _) <;> first | refine ws_expr ?_)
    | ((with_reducible show WS _ _ ((.Pass _)) _ _ _) <;> first | refine ws_pass ?_)
    | ((with_reducible show WS _ _ ((.Break _)) _ _ _) <;> first | refine ws_break ?_)
    | ((with_reducible show WS _ _ ((.Continue _)) _ _ _) <;> first | refine ws_cont ?_)
    | ((with_reducible show WS _ _ ((.Assign [.Name _ _] _ _)) _ _ _) <;> first | refine ws_set 0 ?_ (by assumption) | refine ws_set 1 ?_ (by assumption) | refine ws_set 2 ?_ (by assumption) | refine ws_set 3 ?_ (by assumption) | refine ws_set 4 ?_ (by assumption) | refine ws_set 5 ?_ (by assumption) | refine ws_set 6 ?_ (by assumption) | refine ws_set 7 ?_ (by assumption) | refine ws_set 8 ?_ (by assumption) | refine ws_set 9 ?_ (by assumption) | refine ws_set 10 ?_ (by assumption) | refine ws_set 11 ?_ (by assumption) | refine ws_set 12 ?_ (by assumption) | refine ws_set 13 ?_ (by assumption))
    | ((with_reducible show WS _ _ ((.Assign _ _ _)) _ _ _) <;> first | refine ws_asg ?_)
    | ((with_reducible show O2 _ (binaryOp .Add) _ _ _ _) <;> first | refine o2_addI ?_)
    | ((with_reducible show O2 _ (binaryOp .Sub) _ _ _ _) <;> first | refine o2_subI ?_)
    | ((with_reducible show O2 _ (binaryOp .Mult) _ _ _ _) <;> first | refine o2_mulI (by decide) ?_ | refine o2_mulL (by omega) (by omega) ?_ | refine o2_mulR (by omega) (by omega) ?_)
    | ((with_reducible show O2 _ (binaryOp .Mod) _ _ _ _) <;> first | refine o2_modI (by decide) ?_ | refine o2_modI (by omega) ?_)
    | ((with_reducible show O2 _ (binaryOp .FloorDiv) _ _ _ _) <;> first | refine o2_divI (by decide) ?_ | refine o2_divI (by omega) ?_)
    | ((with_reducible show O2 _ (compareOp .Lt) _ _ _ _) <;> first | refine o2_lt ?_)
    | ((with_reducible show O2 _ (compareOp .LtE) _ _ _ _) <;> first | refine o2_le ?_)
    | ((with_reducible show O2 _ (compareOp .Gt) _ _ _ _) <;> first | refine o2_gt ?_)
    | ((with_reducible show O2 _ (compareOp .GtE) _ _ _ _) <;> first | refine o2_ge ?_)
    | ((with_reducible show O2 _ (compareOp .Eq) _ _ _ _) <;> first | refine o2_eqI ?_ | refine o2_eqS ?_)
    | ((with_reducible show O2 _ (compareOp .NotEq) _ _ _ _) <;> first | refine o2_neI ?_ | refine o2_neS ?_)
    | ((with_reducible show Vf.O1 _ (unaryOp .USub) _ _ _) <;> first | refine o1_neg ?_)
    | ((with_reducible show OC _ (.type "int") _ _ _) <;> first | refine oc_intI ?_ | refine oc_intB ?_)
    | ((with_reducible show OC _ (.builtin "len") _ _ _) <;> first | refine oc_lenL (.o rfl) ?_ | refine oc_lenL .d ?_)
    | ((with_reducible show OI _ _ _ _ _) <;> first | refine oi_lst (.o rfl) rfl ?_ | refine oi_lst .d rfl ?_)
    | ((with_reducible show OSet _ _ _ _ _ _) <;> first | refine os_lst rfl rfl ?_)
    | ((with_reducible show ∃ b, W.d (D.s (V.bl _)) = W.d (D.s (V.bl b)) ∧ _) <;> refine ⟨_, rfl, ?_⟩)
    | ((with_reducible show List.length _ ≤ 1000 ∧ ∃ xs, PureL _ xs ∧ _) <;> first | refine ⟨by simp, _, .nil, ?_⟩ | refine ⟨by simp, _, .cons .nil, ?_⟩ | refine ⟨by simp, _, .cons (.cons .nil), ?_⟩ | refine ⟨by simp, _, .cons (.cons (.cons .nil)), ?_⟩ | refine ⟨by simp, _, .cons (.cons (.cons (.cons .nil))), ?_⟩)
    | ((with_reducible show List.length _ ≤ 1000 ∧ _) <;> refine ⟨by simp, ?_⟩))
local macro_rules
  | `(tactic| walk_at "wkl") => `(tactic| repeat first | exact WkL.nil | refine wkl_d ?_ | refine wkl_n ?_ | refine WkL.drop ?_)
local macro_rules
  | `(tactic| walk_at "wks") => `(tactic| repeat first | exact WkS.nil | refine wks_d ?_ | refine wks_n ?_ | refine wks_x ?_ | refine wks_o (by first | decide | simp | omega) ?_ | refine WkS.junk ?_)
section
variable {P : Program} {w : World} {K : PySem.W.Frag} {mg : Str → Option Value} {base : Heap}
theorem ok_bag {f : Addr} {fd : FuncData} (F : Fun K "bag_of" "bag_of" sBag f fd) : FnOk P w K mg base CX0 1 f fd ["rows"] (lft K spBag) := by
  have nd := scBag.nd
  refine fn_wp F scBag (fun ws O Q h => ?_) (fun cdv A outer s H E ws O Q hr h => ?_)
  · obtain ⟨_, rfl, _⟩ := h
    rfl
  · obtain ⟨rows, rfl, rfl, hl, q⟩ := h
    have u1 : (A.deeper (PyProof.Rows.envOfC "bag_of" (defScope sBag) s.heap.objs.size f cdv)).units + 1 < cLine := by have := hr.units; exact Nat.lt_of_le_of_lt (Nat.add_le_add_left (by decide) _) this
    refine wss (ws_set 1 (we_dict0T ?_) nd)
    refine wss (ws_for ?_ PassesOwn.never)
    refine wi_list (we_var 0 rfl ⟨_, .d, ?_⟩)
    refine ⟨fun i σ' O' => ∃ x, σ' = [some (.d (.l (rows.map rD))), some (.o 0), x] ∧ O' = [some (bD (bagOf (rows.take i)))], ⟨none, rfl, rfl⟩, fun _ _ _ _ => .d, ?_, ?_⟩
    · rintro i x σ' O' hx ⟨y, rfl, rfl⟩
      obtain ⟨r, hr', rfl⟩ : ∃ r, rows[i]? = some r ∧ rD r = x := by simpa using hx
      have hi := (List.getElem?_eq_some_iff.mp hr').1
      refine wg_name 2 ?_ nd
      have bl : (bagOf (rows.take i)).length < 1000000 := Nat.lt_of_le_of_lt (bagOf_len _) (by rw [List.length_take]; omega)
      refine wss1 (ws_dput u1 (we_op (we_dget2 u1 (we_var 1 rfl ⟨.t rfl, we_var 2 rfl (we_int ⟨_, .t rfl, ?_⟩)⟩))))
      rw [get_lk0]
      repeat walk_at "go"
      refine ⟨_, _, rfl, .t rfl (by unfold enI; rw [List.length_map]; exact bl), ?_⟩
      refine ⟨[some (.d (.l (rows.map rD))), some (.o 0), some .x], [some (bD (bagOf (rows.take (i + 1))))], Nat.le_refl _, ?_, by walk_at "wks", _, rfl, rfl⟩
      rw [bagOf_step hr', bD_put]
      refine wkl_d .nil
    · rintro σ' O' ⟨y, rfl, rfl⟩
      rw [List.length_map, List.take_length]
      refine wss1 (ws_ret (we_var 1 rfl ?_))
      exact q
theorem ok_add {f : Addr} {fd : FuncData} (F : Fun K "add_row_to" "add_row_to" sAdd f fd) : FnOk P w K mg base CX0 1 f fd ["bag", "row", "many"] (lft K spAdd) := by
  have nd := scAdd.nd
  refine fn_wp F scAdd (fun ws O Q h => ?_) (fun cdv A outer s H E ws O Q hr h => ?_)
  · obtain ⟨_, _, _, rfl, _⟩ := h
    rfl
  · obtain ⟨b, r, m, rfl, rfl, hl, q⟩ := h
    have u1 : (A.deeper (PyProof.Rows.envOfC "add_row_to" (defScope sAdd) s.heap.objs.size f cdv)).units + 1 < cLine := by have := hr.units; exact Nat.lt_of_le_of_lt (Nat.add_le_add_left (by decide) _) this
    refine wss (ws_set 3 (we_op (we_dget2 u1 (we_var 0 rfl ⟨.t rfl, we_var 1 rfl (we_int ⟨_, .t rfl, ?_⟩)⟩))) nd)
    rw [get_lk0]
    repeat walk_at "go"
    refine ⟨fun hc => ?_, fun hc => ?_⟩
    · have hc' := of_decide_eq_true hc
      rw [addR, if_pos hc', ← bD_drop] at q
      refine wss1 (ws_expr (we_bm PySem.F.plainAttrs_dict PySem.F.slot_dict_pop PySem.F.type_dict_pop (we_var 0 rfl ⟨ty_dict (.t rfl), ?_⟩)))
      repeat walk_at "go"
      refine om_popT u1 rfl (fun d hd => q) fun hd => ?_
      have : dropG (enI b) r = enI b := by
        unfold dropG
        rw [List.filter_eq_self]
        intro p hp
        refine decide_eq_true fun e => ?_
        unfold lkG at hd
        rw [Option.map_eq_none_iff, List.find?_eq_none] at hd
        exact hd p hp (decide_eq_true e)
      rw [this] at q
      exact q
    · have hc' := of_decide_eq_false hc
      rw [addR, if_neg hc', ← bD_put] at q
      refine wss1 (ws_dput u1 ?_)
      repeat walk_at "go"
      exact ⟨_, _, rfl, .t rfl (by unfold enI; rw [List.length_map]; exact hl), q⟩
theorem ok_all {f : Addr} {fd : FuncData} (F : Fun K "add_all_to" "add_all_to" sAll f fd) (D_add : DefOk P w K mg base "add_row_to" 1 spAdd) : FnOk P w K mg base CX0 2 f fd ["bag", "more"] (lft K spAll) := by
  have nd := scAll.nd
  refine fn_wp F scAll (fun ws O Q h => ?_) (fun cdv A outer s H E ws O Q hr h => ?_)
  · obtain ⟨_, _, rfl, _⟩ := h
    rfl
  · obtain ⟨b, more, rfl, rfl, hl, q⟩ := h
    refine wss1 (ws_lock (n := 1) rfl (.inl ⟨_, rfl⟩) (wsl_itemsT (we_var 1 rfl ⟨rfl, ?_⟩) PassesOwn.never))
    refine ⟨fun i σ' O' => ∃ x y, σ' = [some (.o 0), some (.o 1), x, y] ∧ O' = [some (bD (allR b (more.take i))), none], ⟨none, none, rfl, rfl⟩, fun _ _ _ _ => trivial, ?_, ?_⟩
    · rintro i x σ' O' hx ⟨y, z, rfl, rfl⟩
      obtain ⟨r, m, hm, rfl⟩ : ∃ r m, more[i]? = some (r, m) ∧ x = D.t [rD r, dI m] := by
        rw [List.getElem?_map] at hx
        unfold enI at hx
        rw [List.getElem?_map] at hx
        cases h : more[i]? with
        | none => rw [h] at hx; cases hx
        | some p => rw [h] at hx; cases hx; exact ⟨_, _, rfl, rfl⟩
      refine wg_tup (.d (xs := [rD r, dI m])) rfl ?_
      repeat walk_at "go"
      refine we_call D_add hr ?_
      repeat walk_at "go"
      refine cs_own1 rfl (vw_o (j := 0) rfl (vw_d (vw_d .nil))) ?_
      refine ⟨_, r, m, rfl, rfl, ?_, .inl rfl, ?_⟩
      · have := allR_len (more.take i) b
        rw [List.length_take] at this
        omega
      · refine ⟨[some (.o 0), some (.o 1), some .x, some .x], [some (bD (allR b (more.take (i + 1)))), none], Nat.le_refl _, ?_, by walk_at "wks", _, _, rfl, rfl⟩
        rw [allR_step hm, mrg1b]
        exact wkl_d (.drop .nil)
    · rintro σ' O' ⟨y, z, rfl, rfl⟩
      have e : more.take ((enI more).map fun p => D.t [rD p.1, p.2]).length = more := by simp [enI]
      rw [e]
      exact ⟨rfl, q⟩
theorem ok_spread {f : Addr} {fd : FuncData} (F : Fun K "spread" "spread" sSpread f fd) (T : Txt K mg) : FnOk P w K mg base CX0 1 f fd ["bag"] (lft K spSpread) := by
  have nd := scSpread.nd
  have bi := T.sorted
  refine fn_wp F scSpread (fun ws O Q h => ?_) (fun cdv A outer s H E ws O Q hr h => ?_)
  · obtain ⟨_, _, rfl, _⟩ := h
    rfl
  · obtain ⟨b, ks, rfl, rfl, hk, hks, hn, hl, q⟩ := h
    have u0 : (A.deeper (PyProof.Rows.envOfC "spread" (defScope sSpread) s.heap.objs.size f cdv)).units + 64 < cLine := hr.units
    have u1 : (A.deeper (PyProof.Rows.envOfC "spread" (defScope sSpread) s.heap.objs.size f cdv)).units + 1 < cLine := Nat.lt_of_le_of_lt (Nat.add_le_add_left (by decide) _) u0
    refine wss_dn ?_
    refine wss (ws_set 1 (we_lst (wa_nil ⟨by decide, ?_⟩)) nd)
    refine wss (ws_for ?_ PassesOwn.never)
    refine wi_list ?_
    repeat walk_at "go"
    refine oc_sortedT u0 rfl ?_ ?_ ?_ ?_ ⟨_, .o rfl, ?_⟩
    · intro k hk'
      rw [en_keys] at hk'
      obtain ⟨p, hp, rfl⟩ := List.mem_map.mp hk'
      exact rD_okp (hk p hp)
    · intro k hk' k2 hk2
      rw [en_keys] at hk' hk2
      obtain ⟨p, hp, rfl⟩ := List.mem_map.mp hk'
      obtain ⟨p2, hp2, rfl⟩ := List.mem_map.mp hk2
      exact rD_alike (hk p hp) (hk p2 hp2)
    · rw [en_keys]
      refine sortable_rows hks fun r hr => ?_
      obtain ⟨p, hp, rfl⟩ := List.mem_map.mp hr
      exact hk p hp
    · exact fun k _ => rD_depth k
    · rw [en_keys]
      have hmem : ∀ r ∈ sortR (b.map (·.1)), r ∈ b.map (·.1) := fun r h => (List.mergeSort_perm _ _).mem_iff.mp h
      have hspr : spr b = (sortR (b.map (·.1))).flatMap fun k => List.replicate (lk0 b k).toNat k := rfl
      rw [show (b.map (·.1)).mergeSort (dataLe false fun k => (rD k).pd) = sortR (b.map (·.1)) from rfl]
      generalize sortR (b.map (·.1)) = sk at *
      refine ⟨fun i σ' O' => ∃ x, σ' = [some (.o 0), some (.o 1), x] ∧ O' = [some (bD b), some (.lst, (((sk.take i).flatMap fun k => List.replicate (lk0 b k).toNat k).map rD).map .d), some (.lst, (sk.map rD).map .d)], ⟨none, rfl, ?_⟩, ?_, ?_, ?_⟩
      · rfl
      · rintro i σ' O' ⟨x, rfl, rfl⟩
        exact .o rfl
      · rintro i x σ' O' hx ⟨y, rfl, rfl⟩
        obtain ⟨r, hr', rfl⟩ : ∃ r, sk[i]? = some r ∧ rD r = x := by simpa using hx
        have hm := hmem r (List.mem_of_getElem? hr')
        have hb := hl.1 _ (lk0_mem hm)
        have h1 := flat_len (fun k => List.replicate (lk0 b k).toNat k) sk (i + 1)
        rw [take_flat _ _ hr', ← hspr, List.length_append, List.length_replicate] at h1
        refine wg_name 2 ?_ nd
        refine wss1 (ws_expr (we_bm PySem.F.plainAttrs_list PySem.F.slot_list_extend PySem.F.type_list_extend (we_var 1 rfl ⟨ty_lst (.o rfl), wa_cons (we_op (we_lst (wa_cons (we_var 2 rfl (wa_nil ⟨by simp, ?_⟩))))) ⟩)))
        refine we_dget u1 (we_var 0 rfl (we_var 2 rfl ⟨_, (lkG_mem hm ▸ DG.t rfl : DG _ _ _ (some (dI (lk0 b r)))), ?_⟩))
        refine o2_rep (x := rD r) rfl (by simpa using hb.2) (by exact hb.1) (wa_nil (om_extend rfl rfl ?_ ?_))
        · rw [List.length_map, List.length_replicate]
          exact Nat.le_trans h1 hl.2
        · refine ⟨[some (.o 0), some (.o 1), some .x], [some (bD b), some (.lst, (((sk.take (i + 1)).flatMap fun k => List.replicate (lk0 b k).toNat k).map rD).map .d), some (.lst, (sk.map rD).map .d)], by simp, ?_, by walk_at "wks", _, rfl, rfl⟩
          rw [take_flat _ _ hr', List.map_append, List.map_replicate]
          exact wkl_d (wkl_d (wkl_d .nil))
      · rintro σ' O' ⟨y, rfl, rfl⟩
        rw [List.length_map, List.take_length, ← hspr]
        refine wss1 (ws_ret (we_var 1 rfl ?_))
        exact ⟨_, by simp, wkl_d (wkl_d .nil), rfl, q⟩
end
end K86

namespace K86
open PySem L2 Evl Vf PySem.W
abbrev sPart : Stmt := top 5
theorem scPart : FnScope ["changes", "gone", "come", "row"] ["changes"] (defScope sPart) := ⟨rfl, rfl, rfl, by decide +kernel, rfl, by decide +kernel, by decide +kernel⟩
def BagOk (ks : List Bool) (b : Bag) : Prop := (∀ p ∈ b, OkR ks p.1) ∧ ks ≠ [] ∧ (b.map (·.1)).Nodup ∧ b.length ≤ 1000 ∧ ∀ p ∈ b, -1000 ≤ p.2 ∧ p.2 ≤ 1000
def spPart : FS := fun ws O Q => ∃ (b : Bag) (ks : List Bool), ws = [.o 0] ∧ O = [some (bD b)] ∧ BagOk ks b ∧ Q (.t [.o 3, .o 4]) [none, none, none, some (lstR (spr (goneB b))), some (lstR (spr (comeB b)))]
theorem keys_at {b : Bag} {i : Nat} {x : D} (hx : ((enI b).map fun p => rD p.1)[i]? = some x) : ∃ r, (b.map (·.1))[i]? = some r ∧ rD r = x := by
  have : (enI b).map (fun p => rD p.1) = ((enI b).map (·.1)).map rD := by rw [List.map_map]; rfl
  rw [this, en_keys, List.getElem?_map] at hx
  cases h : (b.map (·.1))[i]? with
  | none => rw [h] at hx; cases hx
  | some r => rw [h] at hx; cases hx; exact ⟨_, rfl, rfl⟩
theorem keys_len {b : Bag} : (b.map (·.1)).take ((enI b).map fun p => rD p.1).length = b.map (·.1) := by
  unfold enI
  rw [List.length_map, List.length_map, ← List.length_map (f := fun p : Row × Int => p.1), List.take_length]
theorem sel_fit {ks : List Bool} {b : Bag} (ok : BagOk ks b) (f : Int → Option Int) (hf : ∀ m v, f m = some v → -1000 ≤ m → m ≤ 1000 → 0 ≤ v ∧ v ≤ 1000) :
    (∀ p ∈ selB f b (b.map (·.1)), OkR ks p.1) ∧ ((selB f b (b.map (·.1))).map (·.1)).Nodup ∧ (∀ p ∈ selB f b (b.map (·.1)), p.2 < 1000000 ∧ -(2 ^ 63) ≤ p.2) ∧ (spr (selB f b (b.map (·.1)))).length ≤ 1000000 := by
  obtain ⟨h1, h2, h3, h4⟩ := sel_ok f b (b.map (·.1))
  have hb : ∀ p ∈ selB f b (b.map (·.1)), 0 ≤ p.2 ∧ p.2 ≤ 1000 := fun p hp => by
    obtain ⟨k1, k2⟩ := h3 p hp
    have := ok.2.2.2.2 _ (lk0_mem k1)
    exact hf _ _ k2 this.1 this.2
  refine ⟨fun p hp => ?_, h2, fun p hp => ?_, ?_⟩
  · obtain ⟨q, hq, e⟩ := List.mem_map.mp (h3 p hp).1
    rw [← e]
    exact ok.1 q hq
  · have := hb p hp
    omega
  · have := spr_len (b := selB f b (b.map (·.1))) 1000 fun p hp => (hb p hp).2
    rw [List.length_map] at h1
    have h5 := ok.2.2.2.1
    omega
local macro_rules
  | `(tactic| walk_at "go") => `(tactic| first
    | ((with_reducible show WE _ (.Constant _ _ _) _ _ _) <;> first | refine we_int ?_ | refine we_str ?_ | refine we_bl ?_ | refine we_non ?_)
    | ((with_reducible show WE _ (.BinOp _ _ _ _) _ _ _) <;> first | refine we_op ?_)
    | ((with_reducible show WE _ (.Compare _ [_] _ _) _ _ _) <;> first | refine we_cmp ?_)
    | ((with_reducible show WE _ (.UnaryOp .USub _ _) _ _ _) <;> first | refine we_un ?_)
    | ((with_reducible show WE _ (.UnaryOp .Not _ _) _ _ _) <;> first | refine we_not ?_)
    | ((with_reducible show WE _ (.Subscript _ (.Slice _ _ _ _) _) _ _ _) <;> first | refine we_sliceL ?_)
    | ((with_reducible show WE _ (.Subscript _ _ _) _ _ _) <;> first | refine we_ix ?_)
    | ((with_reducible show WE _ (.IfExp _ _ _ _) _ _ _) <;> first | refine we_ifExp ?_)
    | ((with_reducible show WE _ (.Tuple _ _ _) _ _ _) <;> first | refine we_tup ?_)
    | ((with_reducible show WE _ (.List _ _) _ _ _) <;> first | refine we_lst ?_)
    | ((with_reducible show WE _ (.Call (.Name "int" _) _ _ _) _ _ _) <;> first | refine we_callTy (T := "int") ?_ (by assumption))
    | ((with_reducible show WE _ (.Name "int" _) _ _ _) <;> first | refine we_tyv (n := "int") (by assumption) ?_)
    | ((with_reducible show WE _ (.Call (.Name "list" _) _ _ _) _ _ _) <;> first | refine we_callTy (T := "list") ?_ (by assumption))
    | ((with_reducible show WE _ (.Name "list" _) _ _ _) <;> first | refine we_tyv (n := "list") (by assumption) ?_)
    | ((with_reducible show WE _ (.Call (.Name "tuple" _) _ _ _) _ _ _) <;> first | refine we_callTy (T := "tuple") ?_ (by assumption))
    | ((with_reducible show WE _ (.Name "tuple" _) _ _ _) <;> first | refine we_tyv (n := "tuple") (by assumption) ?_)
    | ((with_reducible show WE _ (.Call (.Name "str" _) _ _ _) _ _ _) <;> first | refine we_callTy (T := "str") ?_ (by assumption))
    | ((with_reducible show WE _ (.Name "str" _) _ _ _) <;> first | refine we_tyv (n := "str") (by assumption) ?_)
    | ((with_reducible show WE _ (.Call (.Name "dict" _) _ _ _) _ _ _) <;> first | refine we_callTy (T := "dict") ?_ (by assumption))
    | ((with_reducible show WE _ (.Name "dict" _) _ _ _) <;> first | refine we_tyv (n := "dict") (by assumption) ?_)
    | ((with_reducible show WE _ (.Call (.Name "bool" _) _ _ _) _ _ _) <;> first | refine we_callTy (T := "bool") ?_ (by assumption))
    | ((with_reducible show WE _ (.Name "bool" _) _ _ _) <;> first | refine we_tyv (n := "bool") (by assumption) ?_)
    | ((with_reducible show WE _ (.Call (.Name "len" _) _ _ _) _ _ _) <;> first | refine we_callB (id := "len") ?_ (by assumption))
    | ((with_reducible show WE _ (.Call (.Name "max" _) _ _ _) _ _ _) <;> first | refine we_callB (id := "max") ?_ (by assumption))
    | ((with_reducible show WE _ (.Call (.Name "min" _) _ _ _) _ _ _) <;> first | refine we_callB (id := "min") ?_ (by assumption))
    | ((with_reducible show WE _ (.Call (.Name "sorted" _) _ _ _) _ _ _) <;> first | refine we_callB (id := "sorted") ?_ (by assumption))
    | ((with_reducible show WE _ (.Call (.Name "isinstance" _) _ _ _) _ _ _) <;> first | refine we_callB (id := "isinstance") ?_ (by assumption))
    | ((with_reducible show WE _ (.Call (.Name "sum" _) _ _ _) _ _ _) <;> first | refine we_callB (id := "sum") ?_ (by assumption))
    | ((with_reducible show WE _ (.Call (.Name "repr" _) _ _ _) _ _ _) <;> first | refine we_callB (id := "repr") ?_ (by assumption))
    | ((with_reducible show WE _ (.Call (.Name "abs" _) _ _ _) _ _ _) <;> first | refine we_callB (id := "abs") ?_ (by assumption))
    | ((with_reducible show WE _ (.Call (.Name "ord" _) _ _ _) _ _ _) <;> first | refine we_callB (id := "ord") ?_ (by assumption))
    | ((with_reducible show WE _ (.Call (.Name "chr" _) _ _ _) _ _ _) <;> first | refine we_callB (id := "chr") ?_ (by assumption))
    | ((with_reducible show WE _ (.Name _ _) _ _ _) <;> first | refine we_var 0 rfl ?_ | refine we_var 1 rfl ?_ | refine we_var 2 rfl ?_ | refine we_var 3 rfl ?_ | refine we_var 4 rfl ?_ | refine we_var 5 rfl ?_ | refine we_var 6 rfl ?_ | refine we_var 7 rfl ?_ | refine we_var 8 rfl ?_ | refine we_var 9 rfl ?_ | refine we_var 10 rfl ?_ | refine we_var 11 rfl ?_ | refine we_var 12 rfl ?_ | refine we_var 13 rfl ?_)
    | ((with_reducible show WA _ ([]) _ _ _) <;> first | refine wa_nil ?_)
    | ((with_reducible show WA _ (_ :: _) _ _ _) <;> first | refine wa_cons ?_)
    | ((with_reducible show WO _ (none) _ _ _) <;> first | refine wo_none ?_)
    | ((with_reducible show WO _ (some _) _ _ _) <;> first | refine wo_some ?_)
    | ((with_reducible show WT _ (.Compare _ [_] _ _) _ _ _) <;> first | refine wt_cmp ?_)
    | ((with_reducible show WT _ (.BoolOp _ _ _) _ _ _) <;> first | refine wt_bool ?_)
    | ((with_reducible show WT _ (.UnaryOp .Not _ _) _ _ _) <;> first | refine wt_not ?_)
    | ((with_reducible show WW _ (.BoolOp .And [_] _) _ _ _) <;> first | refine ww_and1 ?_)
    | ((with_reducible show WW _ (.BoolOp .Or [_] _) _ _ _) <;> first | refine ww_or1 ?_)
    | ((with_reducible show WW _ (.BoolOp .And _ _) _ _ _) <;> first | refine ww_and ?_)
    | ((with_reducible show WW _ (.BoolOp .Or _ _) _ _ _) <;> first | refine ww_or ?_)
    | ((with_reducible show WG _ (.Name _ _) _ _ _ _) <;> first | refine wg_name 0 ?_ (by assumption) | refine wg_name 1 ?_ (by assumption) | refine wg_name 2 ?_ (by assumption) | refine wg_name 3 ?_ (by assumption) | refine wg_name 4 ?_ (by assumption) | refine wg_name 5 ?_ (by assumption) | refine wg_name 6 ?_ (by assumption) | refine wg_name 7 ?_ (by assumption) | refine wg_name 8 ?_ (by assumption) | refine wg_name 9 ?_ (by assumption) | refine wg_name 10 ?_ (by assumption) | refine wg_name 11 ?_ (by assumption) | refine wg_name 12 ?_ (by assumption) | refine wg_name 13 ?_ (by assumption))
    | ((with_reducible show WG _ (.Subscript _ _ _) _ _ _ _) <;> first | refine wg_sub ?_)
    | ((with_reducible show WGs _ ([]) _ _ _ _) <;> first | refine wgs_nil ?_)
    | ((with_reducible show WGs _ (_ :: _) _ _ _ _) <;> first | refine wgs_cons ?_)
    | ((with_reducible show WSs _ _ _ _ _ _) <;> first | refine wss1 ?_ | refine wss ?_ | refine wss_nil ?_)
    | ((with_reducible show WS _ _ ((.Return (some _) _)) _ _ _) <;> first | refine ws_ret ?_)
    | ((with_reducible show WS _ _ ((.Return none _)) _ _ _) <;> first | refine ws_retN ?_)
    | ((with_reducible show WS _ _ ((.If _ _ _ _)) _ _ _) <;> first | refine ws_if ?_)
    | ((with_reducible show WS _ _ ((.Expr _ _)) _ _ _) <;> first | refine ws_expr ?_)
    | ((with_reducible show WS _ _ ((.Pass _)) _ _ _) <;> first | refine ws_pass ?_)
    | ((with_reducible show WS _ _ ((.Break _)) _ _ _) <;> first | refine ws_break ?_)
    | ((with_reducible show WS _ _ ((.Continue _)) _ _ _) <;> first | refine ws_cont ?_)
    | ((with_reducible show WS _ _ ((.Assign [.Name _ _] _ _)) _ _ _) <;> first | refine ws_set 0 ?_ (by assumption) | refine ws_set 1 ?_ (by assumption) | refine ws_set 2 ?_ (by assumption) | refine ws_set 3 ?_ (by assumption) | refine ws_set 4 ?_ (by assumption) | refine ws_set 5 ?_ (by assumption) | refine ws_set 6 ?_ (by assumption) | refine ws_set 7 ?_ (by assumption) | refine ws_set 8 ?_ (by assumption) | refine ws_set 9 ?_ (by assumption) | refine ws_set 10 ?_ (by assumption) | refine ws_set 11 ?_ (by assumption) | refine ws_set 12 ?_ (by assumption) | refine ws_set 13 ?_ (by assumption))
    | ((with_reducible show WS _ _ ((.Assign _ _ _)) _ _ _) <;> first | refine ws_asg ?_)
    | ((with_reducible show O2 _ (binaryOp .Add) _ _ _ _) <;> first | refine o2_addI ?_)
    | ((with_reducible show O2 _ (binaryOp .Sub) _ _ _ _) <;> first | refine o2_subI ?_)
    | ((with_reducible show O2 _ (binaryOp .Mult) _ _ _ _) <;> first | refine o2_mulI (by decide) ?_ | refine o2_mulL (by omega) (by omega) ?_ | refine o2_mulR (by omega) (by omega) ?_)
    | ((with_reducible show O2 _ (binaryOp .Mod) _ _ _ _) <;> first | refine o2_modI (by decide) ?_ | refine o2_modI (by omega) ?_)
    | ((with_reducible show O2 _ (binaryOp .FloorDiv) _ _ _ _) <;> first | refine o2_divI (by decide) ?_ | refine o2_divI (by omega) ?_)
    | ((with_reducible show O2 _ (compareOp .Lt) _ _ _ _) <;> first | refine o2_lt ?_)
    | ((with_reducible show O2 _ (compareOp .LtE) _ _ _ _) <;> first | refine o2_le ?_)
    | ((with_reducible show O2 _ (compareOp .Gt) _ _ _ _) <;> first | refine o2_gt ?_)
    | ((with_reducible show O2 _ (compareOp .GtE) _ _ _ _) <;> first | refine o2_ge ?_)
    | ((with_reducible show O2 _ (compareOp .Eq) _ _ _ _) <;> first | refine o2_eqI ?_ | refine o2_eqS ?_)
    | ((with_reducible show O2 _ (compareOp .NotEq) _ _ _ _) <;> first | refine o2_neI ?_ | refine o2_neS ?_)
    | ((with_reducible show Vf.O1 _ (unaryOp .USub) _ _ _) <;> first | refine o1_neg ?_)
    | ((with_reducible show OC _ (.type "int") _ _ _) <;> first | refine oc_intI ?_ | refine oc_intB ?_)
    | ((with_reducible show OC _ (.builtin "len") _ _ _) <;> first | refine oc_lenL (.o rfl) ?_ | refine oc_lenL .d ?_)
    | ((with_reducible show OI _ _ _ _ _) <;> first | refine oi_lst (.o rfl) rfl ?_ | refine oi_lst .d rfl ?_)
    | ((with_reducible show OSet _ _ _ _ _ _) <;> first | refine os_lst rfl rfl ?_)
    | ((with_reducible show ∃ b, W.d (D.s (V.bl _)) = W.d (D.s (V.bl b)) ∧ _) <;> refine ⟨_, rfl, ?_⟩)
    | ((with_reducible show List.length _ ≤ 1000 ∧ ∃ xs, PureL _ xs ∧ _) <;> first | refine ⟨by simp, _, .nil, ?_⟩ | refine ⟨by simp, _, .cons .nil, ?_⟩ | refine ⟨by simp, _, .cons (.cons .nil), ?_⟩ | refine ⟨by simp, _, .cons (.cons (.cons .nil)), ?_⟩ | refine ⟨by simp, _, .cons (.cons (.cons (.cons .nil))), ?_⟩)
    | ((with_reducible show List.length _ ≤ 1000 ∧ _) <;> refine ⟨by simp, ?_⟩))
local macro_rules
  | `(tactic| walk_at "wkl") => `(tactic| repeat first | exact WkL.nil | refine wkl_d ?_ | refine wkl_n ?_ | refine WkL.drop ?_)
local macro_rules
  | `(tactic| walk_at "wks") => `(tactic| repeat first | exact WkS.nil | refine wks_d ?_ | refine wks_n ?_ | refine wks_x ?_ | refine wks_o (by first | decide | simp | omega) ?_ | refine WkS.junk ?_)
section
variable {P : Program} {w : World} {K : PySem.W.Frag} {mg : Str → Option Value} {base : Heap}
theorem ok_part {f : Addr} {fd : FuncData} (F : Fun K "parted" "parted" sPart f fd) (D_spread : DefOk P w K mg base "spread" 1 spSpread) : FnOk P w K mg base CX0 2 f fd ["changes"] (lft K spPart) := by
  have nd := scPart.nd
  refine fn_wp F scPart (fun ws O Q h => ?_) (fun cdv A outer s H E ws O Q hr h => ?_)
  · obtain ⟨_, _, rfl, _⟩ := h
    rfl
  · obtain ⟨b, ks, rfl, rfl, ok, q⟩ := h
    have u1 : (A.deeper (PyProof.Rows.envOfC "parted" (defScope sPart) s.heap.objs.size f cdv)).units + 1 < cLine := Nat.lt_of_le_of_lt (Nat.add_le_add_left (by decide) _) hr.units
    have gone_ok := sel_fit ok fGone fun m v h h1 h2 => by
      unfold fGone at h
      split at h
      · cases h; omega
      · cases h
    have come_ok := sel_fit ok fCome fun m v h h1 h2 => by
      unfold fCome at h
      split at h
      · cases h; omega
      · cases h
    refine wss_dn ?_
    refine wss (ws_lock (n := 0) rfl (.inl ⟨_, rfl⟩) (ws_dcT (own := [("row", 3)]) 1 u1 (we_var 0 rfl ⟨rfl, _, fun i O' => O' = [none, some (bD (selB fGone b ((b.map (·.1)).take i)))], tg_name 3 ?_, ?_⟩) nd (blkOk_by (N := ["changes", "gone", "come", "row"]) (sc := defScope sPart) (by decide +kernel)) ?_ (sw_trueD rfl rfl rfl (by decide +kernel))))
    · rintro _ ⟨_, _, _, _, _, rfl⟩
      exact pg_name nd rfl (.inl rfl)
    rotate_left
    · rintro _ ⟨_, _, _, _, _, rfl⟩
      exact pg_name nd rfl (.inl rfl)
    refine ⟨rfl, ?_, ?_⟩
    · rintro i x O' hx rfl
      obtain ⟨r, hr', rfl⟩ := keys_at hx
      have hm := List.mem_of_getElem? hr'
      have hi := (List.getElem?_eq_some_iff.mp hr').1
      have hst := sel_step fGone b (b.map (·.1)) hr'
      have hlen := (sel_ok fGone b ((b.map (·.1)).take i)).1
      rw [List.length_take] at hlen
      rw [List.length_map] at hi
      have hl2 := ok.2.2.2.1
      rintro _ ⟨_, _, _, _, _, rfl⟩
      refine wtl_cmp (wel_dget u1 (we_var 0 rfl ⟨rfl, we_var 3 rfl ⟨r, _, rfl, lkG_mem hm, wel_of (we_int ?_)⟩⟩))
      repeat walk_at "go"
      refine ⟨fun hc => ?_, fun hc => ?_⟩
      · have hc' := of_decide_eq_true hc
        rintro _ ⟨_, _, _, _, _, rfl⟩
        refine wel_of (we_var 3 rfl ?_)
        rintro _ ⟨_, _, _, _, _, rfl⟩
        refine wel_op (wel_of (we_int (wel_dget u1 (we_var 0 rfl ⟨rfl, we_var 3 rfl ⟨r, _, rfl, lkG_mem hm, o2_subI ?_⟩⟩))))
        refine ⟨_, _, rfl, .t rfl (by unfold enI; rw [List.length_map]; omega), ?_⟩
        refine ⟨[none, some (bD (selB fGone b ((b.map (·.1)).take (i + 1))))], Nat.le_refl _, ?_, rfl⟩
        rw [hst]
        simp only [fGone, if_pos hc']
        rw [bD_put]
        exact .drop (wkl_d .nil)
      · have hc' := of_decide_eq_false hc
        refine ⟨[none, some (bD (selB fGone b ((b.map (·.1)).take (i + 1))))], Nat.le_refl _, ?_, rfl⟩
        rw [hst]
        simp only [fGone, if_neg hc']
        exact .drop (wkl_d .nil)
    rintro O' rfl
    rw [keys_len]
    refine ⟨rfl, ?_⟩
    rw [show selB fGone b (b.map (·.1)) = goneB b from rfl]
    refine wss (ws_lock (n := 0) rfl (.inl ⟨_, rfl⟩) (ws_dcT (own := [("row", 3)]) 2 u1 (we_var 0 rfl ⟨rfl, _, fun i O' => O' = [none, some (bD (goneB b)), some (bD (selB fCome b ((b.map (·.1)).take i)))], tg_name 3 ?_, ?_⟩) nd (blkOk_by (N := ["changes", "gone", "come", "row"]) (sc := defScope sPart) (by decide +kernel)) ?_ (sw_trueD rfl rfl rfl (by decide +kernel))))
    · rintro _ ⟨_, _, _, _, _, rfl⟩
      exact pg_name nd rfl (.inl rfl)
    rotate_left
    · rintro _ ⟨_, _, _, _, _, rfl⟩
      exact pg_name nd rfl (.inl rfl)
    refine ⟨rfl, ?_, ?_⟩
    · rintro i x O' hx rfl
      obtain ⟨r, hr', rfl⟩ := keys_at hx
      have hm := List.mem_of_getElem? hr'
      have hi := (List.getElem?_eq_some_iff.mp hr').1
      have hst := sel_step fCome b (b.map (·.1)) hr'
      have hlen := (sel_ok fCome b ((b.map (·.1)).take i)).1
      rw [List.length_take] at hlen
      rw [List.length_map] at hi
      have hl2 := ok.2.2.2.1
      rintro _ ⟨_, _, _, _, _, rfl⟩
      refine wtl_cmp (wel_dget u1 (we_var 0 rfl ⟨rfl, we_var 3 rfl ⟨r, _, rfl, lkG_mem hm, wel_of (we_int ?_)⟩⟩))
      repeat walk_at "go"
      refine ⟨fun hc => ?_, fun hc => ?_⟩
      · have hc' := of_decide_eq_true hc
        rintro _ ⟨_, _, _, _, _, rfl⟩
        refine wel_of (we_var 3 rfl ?_)
        rintro _ ⟨_, _, _, _, _, rfl⟩
        refine wel_dget u1 (we_var 0 rfl ⟨rfl, we_var 3 rfl ⟨r, _, rfl, lkG_mem hm, ?_⟩⟩)
        refine ⟨_, _, rfl, .t rfl (by unfold enI; rw [List.length_map]; omega), ?_⟩
        refine ⟨[none, some (bD (goneB b)), some (bD (selB fCome b ((b.map (·.1)).take (i + 1))))], Nat.le_refl _, ?_, rfl⟩
        rw [hst]
        simp only [fCome, if_pos hc']
        rw [bD_put]
        exact .drop (wkl_d (wkl_d .nil))
      · have hc' := of_decide_eq_false hc
        refine ⟨[none, some (bD (goneB b)), some (bD (selB fCome b ((b.map (·.1)).take (i + 1))))], Nat.le_refl _, ?_, rfl⟩
        rw [hst]
        simp only [fCome, if_neg hc']
        exact .drop (wkl_d (wkl_d .nil))
    rintro O' rfl
    rw [keys_len]
    refine ⟨rfl, ?_⟩
    rw [show selB fCome b (b.map (·.1)) = comeB b from rfl]
    refine wss1 (ws_ret (we_tupW (wa_cons (we_call D_spread hr (wa_cons (we_var 1 rfl (wa_nil (cs_own1 (s := 1) rfl (vw_o (j := 0) rfl .nil) ?_))))))))
    refine ⟨goneB b, ks, rfl, rfl, gone_ok.1, ok.2.1, gone_ok.2.1, gone_ok.2.2, .inl rfl, ?_⟩
    refine wa_cons (we_call D_spread hr (wa_cons (we_var 2 rfl (wa_nil (cs_own1 (s := 2) rfl (vw_o (j := 0) rfl .nil) ?_)))))
    refine ⟨comeB b, ks, rfl, rfl, come_ok.1, ok.2.1, come_ok.2.1, come_ok.2.2, .inl rfl, ?_⟩
    refine wa_nil ⟨by simp, ?_⟩
    rw [mrg_bl, mrg_bl]
    exact ⟨[none, none, none, some (lstR (spr (goneB b))), some (lstR (spr (comeB b)))], by simp, .drop (.drop (.drop (wkl_d (wkl_d .nil)))), rfl, q⟩
end
end K86

namespace K86
open PySem L2 Evl Vf PySem.W
def dR (rows : List Row) : D := .l (rows.map rD)
def OkL (ks : List Bool) (rows : List Row) : Prop := (∀ r ∈ rows, OkR ks r) ∧ rows.length ≤ 30
abbrev sDiff : Stmt := top 6
theorem scDiff : FnScope ["before", "after", "changes", "row"] ["before", "after"] (defScope sDiff) := ⟨rfl, rfl, rfl, by decide +kernel, rfl, by decide +kernel, by decide +kernel⟩
def chB (a b : List Row) : Bag := subR (bagOf b) a
def spDiff : FS := fun ws O Q => ∃ (a b : List Row) (ks : List Bool), ws = [.d (dR a), .d (dR b)] ∧ O = [] ∧ ks ≠ [] ∧ OkL ks a ∧ OkL ks b ∧ Q (.t [.o 3, .o 4]) [none, none, none, some (lstR (spr (goneB (chB a b)))), some (lstR (spr (comeB (chB a b))))]
abbrev sChg : Stmt := top 7
theorem scChg : FnScope ["rows", "gone", "come", "bag", "row"] ["rows", "gone", "come"] (defScope sChg) := ⟨rfl, rfl, rfl, by decide +kernel, rfl, by decide +kernel, by decide +kernel⟩
def cgB (a g c : List Row) : Bag := subR (allR (bagOf a) (bagOf c)) g
def spChg : FS := fun ws O Q => ∃ (a g c : List Row) (ks : List Bool), ws = [.d (dR a), .d (dR g), .d (dR c)] ∧ O = [] ∧ ks ≠ [] ∧ OkL ks a ∧ OkL ks g ∧ OkL ks c ∧ Q (.o 2) [none, none, some (lstR (spr (cgB a g c)))]
abbrev sJoin : Stmt := top 8
theorem scJoin : FnScope ["first", "second", "changes", "row"] ["first", "second"] (defScope sJoin) := ⟨rfl, rfl, rfl, by decide +kernel, rfl, by decide +kernel, by decide +kernel⟩
def jnB (a b c d : List Row) : Bag := subR (bagOf (b ++ d)) (a ++ c)
def spJoin : FS := fun ws O Q => ∃ (a b c d : List Row) (ks : List Bool), ws = [.t [.o 0, .o 1], .t [.o 2, .o 3]] ∧ O = [some (lstR a), some (lstR b), some (lstR c), some (lstR d)] ∧ ks ≠ [] ∧ OkL ks a ∧ OkL ks b ∧ OkL ks c ∧ OkL ks d ∧
  Q (.t [.o 9, .o 10]) [some (lstR a), some (lstR b), some (lstR c), some (lstR d), none, none, none, none, none, some (lstR (spr (goneB (jnB a b c d)))), some (lstR (spr (comeB (jnB a b c d))))]
theorem BInv.bagOk {ks : List Bool} {lo hi : Int} {n : Nat} {b : Bag} (h : BInv ks lo hi n b) (hk : ks ≠ []) (h1 : -1000 ≤ lo) (h2 : hi ≤ 1000) (h3 : n ≤ 1000) : BagOk ks b :=
  ⟨h.ok, hk, h.nd, Nat.le_trans h.len h3, fun p hp => ⟨Int.le_trans h1 (h.bd p hp).1, Int.le_trans (h.bd p hp).2 h2⟩⟩
theorem mrg_nb {b : Bag} {O : Ob} : mrg [] [some (bD b)] O = O ++ [some (bD b)] := mrg01
theorem mrg_part {s : Nat} {x y : List Row} {O : Ob} : mrg [s] [none, none, none, some (lstR x), some (lstR y)] O = O.set s none ++ [none, none, some (lstR x), some (lstR y)] := by
  have h : ∀ f (l : List Row), renO f (lstR l) = lstR l := fun f l => by unfold lstR renO; rw [rens_d]
  simp [mrg, putAll, h]
theorem mrg_bb {a b c d : Bag} : mrg [0, 1] [some (bD a), some (bD b)] ([] ++ [some (bD c)] ++ [some (bD d)]) = [some (bD a), some (bD b)] := by
  have h : ∀ f (l : Bag), renO f (bD l) = bD l := fun f l => by unfold bD dTD renO; rw [rens_d]
  simp [mrg, putAll, h]
def bD2 (b : Bag) : Hd × List D := (.dT ((enI b).map (·.1)), (enI b).map (·.2))
theorem imms_rows (b : List Row) : W.imms ((b.map rD).map W.d) = true := by
  rw [imms_d]
  refine imms_all _ fun y hy => ?_
  obtain ⟨r, _, rfl⟩ := List.mem_map.mp hy
  rw [rD, D.imm]
  refine imms_all _ fun y hy => ?_
  obtain ⟨k, _, rfl⟩ := List.mem_map.mp hy
  cases k <;> rfl
theorem imms_bD (b : Bag) : W.imms (bD b).2 = true := by
  show W.imms (((enI b).map (·.2)).map W.d) = true
  rw [imms_d]
  refine imms_all _ fun y hy => ?_
  obtain ⟨p, hp, rfl⟩ := List.mem_map.mp hy
  obtain ⟨q, _, rfl⟩ := List.mem_map.mp hp
  rfl
local macro_rules
  | `(tactic| walk_at "go") => `(tactic| first
    | ((with_reducible show WE _ (.Constant _ _ _) _ _ _) <;> first | refine we_int ?_ | refine we_str ?_ | refine we_bl ?_ | refine we_non ?_)
    | ((with_reducible show WE _ (.BinOp _ _ _ _) _ _ _) <;> first | refine we_op ?_)
    | ((with_reducible show WE _ (.Compare _ [_] _ _) _ _ _) <;> first | refine we_cmp ?_)
    | ((with_reducible show WE _ (.UnaryOp .USub _ _) _ _ _) <;> first | refine we_un ?_)
    | ((with_reducible show WE _ (.UnaryOp .Not _ _) _ _ _) <;> first | refine we_not ?_)
    | ((with_reducible show WE _ (.Subscript _ (.Slice _ _ _ _) _) _ _ _) <;> first | refine we_sliceL ?_)
    | ((with_reducible show WE _ (.Subscript _ _ _) _ _ _) <;> first | refine we_ix ?_)
    | ((with_reducible show WE _ (.IfExp _ _ _ _) _ _ _) <;> first | refine we_ifExp ?_)
    | ((with_reducible show WE _ (.Tuple _ _ _) _ _ _) <;> first | refine we_tup ?_)
    | ((with_reducible show WE _ (.List _ _) _ _ _) <;> first | refine we_lst ?_)
    | ((with_reducible show WE _ (.Call (.Name "int" _) _ _ _) _ _ _) <;> first | refine we_callTy (T := "int") ?_ (by assumption))
    | ((with_reducible show WE _ (.Name "int" _) _ _ _) <;> first | refine we_tyv (n := "int") (by assumption) ?_)
    | ((with_reducible show WE _ (.Call (.Name "list" _) _ _ _) _ _ _) <;> first | refine we_callTy (T := "list") ?_ (by assumption))
    | ((with_reducible show WE _ (.Name "list" _) _ _ _) <;> first | refine we_tyv (n := "list") (by assumption) ?_)
    | ((with_reducible show WE _ (.Call (.Name "tuple" _) _ _ _) _ _ _) <;> first | refine we_callTy (T := "tuple") ?_ (by assumption))
    | ((with_reducible show WE _ (.Name "tuple" _) _ _ _) <;> first | refine we_tyv (n := "tuple") (by assumption) ?_)
    | ((with_reducible show WE _ (.Call (.Name "str" _) _ _ _) _ _ _) <;> first | refine we_callTy (T := "str") ?_ (by assumption))
    | ((with_reducible show WE _ (.Name "str" _) _ _ _) <;> first | refine we_tyv (n := "str") (by assumption) ?_)
    | ((with_reducible show WE _ (.Call (.Name "dict" _) _ _ _) _ _ _) <;> first | refine we_callTy (T := "dict") ?_ (by assumption))
    | ((with_reducible show WE _ (.Name "dict" _) _ _ _) <;> first | refine we_tyv (n := "dict") (by assumption) ?_)
    | ((with_reducible show WE _ (.Call (.Name "bool" _) _ _ _) _ _ _) <;> first | refine we_callTy (T := "bool") ?_ (by assumption))
    | ((with_reducible show WE _ (.Name "bool" _) _ _ _) <;> first | refine we_tyv (n := "bool") (by assumption) ?_)
    | ((with_reducible show WE _ (.Call (.Name "len" _) _ _ _) _ _ _) <;> first | refine we_callB (id := "len") ?_ (by assumption))
    | ((with_reducible show WE _ (.Call (.Name "max" _) _ _ _) _ _ _) <;> first | refine we_callB (id := "max") ?_ (by assumption))
    | ((with_reducible show WE _ (.Call (.Name "min" _) _ _ _) _ _ _) <;> first | refine we_callB (id := "min") ?_ (by assumption))
    | ((with_reducible show WE _ (.Call (.Name "sorted" _) _ _ _) _ _ _) <;> first | refine we_callB (id := "sorted") ?_ (by assumption))
    | ((with_reducible show WE _ (.Call (.Name "isinstance" _) _ _ _) _ _ _) <;> first | refine we_callB (id := "isinstance") ?_ (by assumption))
    | ((with_reducible show WE _ (.Call (.Name "sum" _) _ _ _) _ _ _) <;> first | refine we_callB (id := "sum") ?_ (by assumption))
    | ((with_reducible show WE _ (.Call (.Name "repr" _) _ _ _) _ _ _) <;> first | refine we_callB (id := "repr") ?_ (by assumption))
    | ((with_reducible show WE _ (.Call (.Name "abs" _) _ _ _) _ _ _) <;> first | refine we_callB (id := "abs") ?_ (by assumption))
    | ((with_reducible show WE _ (.Call (.Name "ord" _) _ _ _) _ _ _) <;> first | refine we_callB (id := "ord") ?_ (by assumption))
    | ((with_reducible show WE _ (.Call (.Name "chr" _) _ _ _) _ _ _) <;> first | refine we_callB (id := "chr") ?_ (by assumption))
    | ((with_reducible show WE _ (.Name _ _) _ _ _) <;> first | refine we_var 0 rfl ?_ | refine we_var 1 rfl ?_ | refine we_var 2 rfl ?_ | refine we_var 3 rfl ?_ | refine we_var 4 rfl ?_ | refine we_var 5 rfl ?_ | refine we_var 6 rfl ?_ | refine we_var 7 rfl ?_ | refine we_var 8 rfl ?_ | refine we_var 9 rfl ?_ | refine we_var 10 rfl ?_ | refine we_var 11 rfl ?_ | refine we_var 12 rfl ?_ | refine we_var 13 rfl ?_)
    | ((with_reducible show WA _ ([]) _ _ _) <;> first | refine wa_nil ?_)
    | ((with_reducible show WA _ (_ :: _) _ _ _) <;> first | refine wa_cons ?_)
    | ((with_reducible show WO _ (none) _ _ _) <;> first | refine wo_none ?_)
    | ((with_reducible show WO _ (some _) _ _ _) <;> first | refine wo_some ?_)
    | ((with_reducible show WT _ (.Compare _ [_] _ _) _ _ _) <;> first | refine wt_cmp ?_)
    | ((with_reducible show WT _ (.BoolOp _ _ _) _ _ _) <;> first | refine wt_bool ?_)
    | ((with_reducible show WT _ (.UnaryOp .Not _ _) _ _ _) <;> first | refine wt_not ?_)
    | ((with_reducible show WW _ (.BoolOp .And [_] _) _ _ _) <;> first | refine ww_and1 ?_)
    | ((with_reducible show WW _ (.BoolOp .Or [_] _) _ _ _) <;> first | refine ww_or1 ?_)
    | ((with_reducible show WW _ (.BoolOp .And _ _) _ _ _) <;> first | refine ww_and ?_)
    | ((with_reducible show WW _ (.BoolOp .Or _ _) _ _ _) <;> first | refine ww_or ?_)
    | ((with_reducible show WG _ (.Name _ _) _ _ _ _) <;> first | refine wg_name 0 ?_ (by assumption) | refine wg_name 1 ?_ (by assumption) | refine wg_name 2 ?_ (by assumption) | refine wg_name 3 ?_ (by assumption) | refine wg_name 4 ?_ (by assumption) | refine wg_name 5 ?_ (by assumption) | refine wg_name 6 ?_ (by assumption) | refine wg_name 7 ?_ (by assumption) | refine wg_name 8 ?_ (by assumption) | refine wg_name 9 ?_ (by assumption) | refine wg_name 10 ?_ (by assumption) | refine wg_name 11 ?_ (by assumption) | refine wg_name 12 ?_ (by assumption) | refine wg_name 13 ?_ (by assumption))
    | ((with_reducible show WG _ (.Subscript _ _ _) _ _ _ _) <;> first | refine wg_sub ?_)
    | ((with_reducible show WGs _ ([]) _ _ _ _) <;> first | refine wgs_nil ?_)
    | ((with_reducible show WGs _ (_ :: _) _ _ _ _) <;> first | refine wgs_cons ?_)
    | ((with_reducible show WSs _ _ _ _ _ _) <;> first | refine wss1 ?_ | refine wss ?_ | refine wss_nil ?_)
    | ((with_reducible show WS _ _ ((.Return (some _) _)) _ _ _) <;> first | refine ws_ret ?_)
    | ((with_reducible show WS _ _ ((.Return none _)) _ _ _) <;> first | refine ws_retN ?_)
    | ((with_reducible show WS _ _ ((.If _ _ _ _)) _ _ _) <;> first | refine ws_if ?_)
    | ((with_reducible show WS _ _ ((.Expr _ _)) _ _ _) <;> first | refine ws_expr ?_)
    | ((with_reducible show WS _ _ ((.Pass _)) _ _ _) <;> first | refine ws_pass ?_)
    | ((with_reducible show WS _ _ ((.Break _)) _ _ _) <;> first | refine ws_break ?_)
    | ((with_reducible show WS _ _ ((.Continue _)) _ _ _) <;> first | refine ws_cont ?_)
    | ((with_reducible show WS _ _ ((.Assign [.Name _ _] _ _)) _ _ _) <;> first | refine ws_set 0 ?_ (by assumption) | refine ws_set 1 ?_ (by assumption) | refine ws_set 2 ?_ (by assumption) | refine ws_set 3 ?_ (by assumption) | refine ws_set 4 ?_ (by assumption) | refine ws_set 5 ?_ (by assumption) | refine ws_set 6 ?_ (by assumption) | refine ws_set 7 ?_ (by assumption) | refine ws_set 8 ?_ (by assumption) | refine ws_set 9 ?_ (by assumption) | refine ws_set 10 ?_ (by assumption) | refine ws_set 11 ?_ (by assumption) | refine ws_set 12 ?_ (by assumption) | refine ws_set 13 ?_ (by assumption))
    | ((with_reducible show WS _ _ ((.Assign _ _ _)) _ _ _) <;> first | refine ws_asg ?_)
    | ((with_reducible show O2 _ (binaryOp .Add) _ _ _ _) <;> first | refine o2_addI ?_)
    | ((with_reducible show O2 _ (binaryOp .Sub) _ _ _ _) <;> first | refine o2_subI ?_)
    | ((with_reducible show O2 _ (binaryOp .Mult) _ _ _ _) <;> first | refine o2_mulI (by decide) ?_ | refine o2_mulL (by omega) (by omega) ?_ | refine o2_mulR (by omega) (by omega) ?_)
    | ((with_reducible show O2 _ (binaryOp .Mod) _ _ _ _) <;> first | refine o2_modI (by decide) ?_ | refine o2_modI (by omega) ?_)
    | ((with_reducible show O2 _ (binaryOp .FloorDiv) _ _ _ _) <;> first | refine o2_divI (by decide) ?_ | refine o2_divI (by omega) ?_)
    | ((with_reducible show O2 _ (compareOp .Lt) _ _ _ _) <;> first | refine o2_lt ?_)
    | ((with_reducible show O2 _ (compareOp .LtE) _ _ _ _) <;> first | refine o2_le ?_)
    | ((with_reducible show O2 _ (compareOp .Gt) _ _ _ _) <;> first | refine o2_gt ?_)
    | ((with_reducible show O2 _ (compareOp .GtE) _ _ _ _) <;> first | refine o2_ge ?_)
    | ((with_reducible show O2 _ (compareOp .Eq) _ _ _ _) <;> first | refine o2_eqI ?_ | refine o2_eqS ?_)
    | ((with_reducible show O2 _ (compareOp .NotEq) _ _ _ _) <;> first | refine o2_neI ?_ | refine o2_neS ?_)
    | ((with_reducible show Vf.O1 _ (unaryOp .USub) _ _ _) <;> first | refine o1_neg ?_)
    | ((with_reducible show OC _ (.type "int") _ _ _) <;> first | refine oc_intI ?_ | refine oc_intB ?_)
    | ((with_reducible show OC _ (.builtin "len") _ _ _) <;> first | refine oc_lenL (.o rfl) ?_ | refine oc_lenL .d ?_)
    | ((with_reducible show OI _ _ _ _ _) <;> first | refine oi_lst (.o rfl) rfl ?_ | refine oi_lst .d rfl ?_)
    | ((with_reducible show OSet _ _ _ _ _ _) <;> first | refine os_lst rfl rfl ?_)
    | ((with_reducible show ∃ b, W.d (D.s (V.bl _)) = W.d (D.s (V.bl b)) ∧ _) <;> refine ⟨_, rfl, ?_⟩)
    | ((with_reducible show List.length _ ≤ 1000 ∧ ∃ xs, PureL _ xs ∧ _) <;> first | refine ⟨by simp, _, .nil, ?_⟩ | refine ⟨by simp, _, .cons .nil, ?_⟩ | refine ⟨by simp, _, .cons (.cons .nil), ?_⟩ | refine ⟨by simp, _, .cons (.cons (.cons .nil)), ?_⟩ | refine ⟨by simp, _, .cons (.cons (.cons (.cons .nil))), ?_⟩)
    | ((with_reducible show List.length _ ≤ 1000 ∧ _) <;> refine ⟨by simp, ?_⟩))
local macro_rules
  | `(tactic| walk_at "wkl") => `(tactic| repeat first | exact WkL.nil | refine wkl_d ?_ | refine wkl_n ?_ | refine WkL.drop ?_)
local macro_rules
  | `(tactic| walk_at "wks") => `(tactic| repeat first | exact WkS.nil | refine wks_d ?_ | refine wks_n ?_ | refine wks_x ?_ | refine wks_o (by first | decide | simp | omega) ?_ | refine WkS.junk ?_)
section
variable {P : Program} {w : World} {K : PySem.W.Frag} {mg : Str → Option Value} {base : Heap}
theorem ok_diff {f : Addr} {fd : FuncData} (F : Fun K "difference_of" "difference_of" sDiff f fd) (D_bag : DefOk P w K mg base "bag_of" 1 spBag) (D_add : DefOk P w K mg base "add_row_to" 1 spAdd) (D_part : DefOk P w K mg base "parted" 2 spPart) : FnOk P w K mg base CX0 3 f fd ["before", "after"] (lft K spDiff) := by
  have nd := scDiff.nd
  refine fn_wp F scDiff (fun ws O Q h => ?_) (fun cdv A outer s H E ws O Q hr h => ?_)
  · obtain ⟨_, _, _, rfl, _⟩ := h
    rfl
  · obtain ⟨a, b, ks, rfl, rfl, hk, ha, hb, q⟩ := h
    have hr1 := hr.mono (j := 1) (by decide)
    refine wss_dn ?_
    refine wss (ws_set 2 (we_call D_bag hr1 (wa_cons (we_var 1 rfl (wa_nil (cs_lent (bor := []) (fun p hp => nomatch hp) (vw_d .nil) ?_))))) nd)
    refine ⟨b, rfl, rfl, Nat.lt_of_le_of_lt hb.2 (by decide), .inl rfl, ?_⟩
    rw [mrg_nb]
    refine wss (ws_for ?_ PassesOwn.never)
    refine wi_list (we_var 0 rfl ⟨_, .d, ?_⟩)
    have hinv : ∀ i, BInv ks (0 - ((a.take i).length : Int)) b.length (b.length + (a.take i).length) (subR (bagOf b) (a.take i)) := fun i => (BInv.of ks b hb.1).sub _ fun r hr => ha.1 r (List.mem_of_mem_take hr)
    have hla := ha.2
    have hlb := hb.2
    refine ⟨fun i σ' O' => ∃ x, σ' = [some (.d (dR a)), some (.d (dR b)), some (.o 0), x] ∧ O' = [some (bD (subR (bagOf b) (a.take i)))], ⟨none, rfl, rfl⟩, fun _ _ _ _ => .d, ?_, ?_⟩
    · rintro i x σ' O' hx ⟨y, rfl, rfl⟩
      obtain ⟨r, hr', rfl⟩ : ∃ r, a[i]? = some r ∧ rD r = x := by simpa using hx
      refine wg_name 3 ?_ nd
      refine wss1 (ws_expr (we_call D_add hr1 (wa_cons (we_var 2 rfl (wa_cons (we_var 3 rfl (wa_cons ?_)))))))
      repeat walk_at "go"
      refine cs_own1 rfl (vw_o (j := 0) rfl (vw_d (vw_d .nil))) ?_
      refine ⟨_, r, _, rfl, rfl, ?_, .inl rfl, ?_⟩
      · have := (hinv i).len
        rw [List.length_take] at this
        omega
      · refine ⟨[some (.d (dR a)), some (.d (dR b)), some (.o 0), some .x], [some (bD (subR (bagOf b) (a.take (i + 1))))], Nat.le_refl _, ?_, by walk_at "wks", _, rfl, rfl⟩
        rw [subR_step hr', mrg1b]
        exact wkl_d .nil
    · rintro σ' O' ⟨y, rfl, rfl⟩
      have hi := hinv a.length
      rw [List.take_length] at hi
      rw [List.length_map, List.take_length]
      refine wss1 (ws_ret (we_call D_part (hr.mono (by decide)) (wa_cons (we_var 2 rfl (wa_nil (cs_own1 (s := 0) rfl (vw_o (j := 0) rfl .nil) ?_))))))
      refine ⟨_, ks, rfl, rfl, hi.bagOk hk (by omega) (by omega) (by omega), .inl rfl, ?_⟩
      rw [mrg_part]
      exact ⟨_, by simp, .drop (.drop (.drop (wkl_d (wkl_d .nil)))), rfl, q⟩
theorem ok_chg {f : Addr} {fd : FuncData} (F : Fun K "rows_changed" "rows_changed" sChg f fd) (D_bag : DefOk P w K mg base "bag_of" 1 spBag) (D_add : DefOk P w K mg base "add_row_to" 1 spAdd) (D_all : DefOk P w K mg base "add_all_to" 2 spAll) (D_spread : DefOk P w K mg base "spread" 1 spSpread) : FnOk P w K mg base CX0 3 f fd ["rows", "gone", "come"] (lft K spChg) := by
  have nd := scChg.nd
  refine fn_wp F scChg (fun ws O Q h => ?_) (fun cdv A outer s H E ws O Q hr h => ?_)
  · obtain ⟨_, _, _, _, rfl, _⟩ := h
    rfl
  · obtain ⟨a, g, c, ks, rfl, rfl, hk, ha, hg, hc, q⟩ := h
    have hr1 := hr.mono (j := 1) (by decide)
    have hla := ha.2
    have hlg := hg.2
    have hlc := hc.2
    refine wss_dn ?_
    refine wss (ws_set 3 (we_call D_bag hr1 (wa_cons (we_var 0 rfl (wa_nil (cs_lent (bor := []) (fun p hp => nomatch hp) (vw_d .nil) ?_))))) nd)
    refine ⟨a, rfl, rfl, Nat.lt_of_le_of_lt ha.2 (by decide), .inl rfl, ?_⟩
    rw [mrg_nb]
    refine wss (ws_expr (we_call D_all (hr.mono (by decide)) (wa_cons (we_var 3 rfl (wa_cons (we_call D_bag hr1 (wa_cons (we_var 2 rfl (wa_nil (cs_lent (bor := []) (fun p hp => nomatch hp) (vw_d .nil) ?_))))))))))
    refine ⟨c, rfl, rfl, Nat.lt_of_le_of_lt hc.2 (by decide), .inl rfl, ?_⟩
    rw [mrg_nb]
    refine wa_nil (cs_own (sel := [0, 1]) (wc := [.o 0, .o 1]) [bD2 (bagOf a), bD2 (bagOf c)] (by decide) rfl (fun j n en => ?_) (vw_o (j := 0) rfl (vw_o (j := 1) rfl .nil)) ?_)
    · rcases j with _ | _ | j
      · cases en; rfl
      · cases en; rfl
      · simp at en
    have ia := BInv.of ks a ha.1
    have ic := BInv.of ks c hc.1
    have iA := ia.all (v := c.length) (by omega) (bagOf c) fun p hp => ⟨ic.ok p hp, ic.bd p hp⟩
    refine ⟨bagOf a, bagOf c, rfl, rfl, ?_, .inl rfl, ?_⟩
    · have h1 := ia.len
      have h2 := ic.len
      omega
    rw [mrg_bb]
    refine wss (ws_for ?_ PassesOwn.never)
    refine wi_list (we_var 1 rfl ⟨_, .d, ?_⟩)
    have hinv : ∀ i, BInv ks (0 - ((g.take i).length : Int)) _ (a.length + (bagOf c).length + (g.take i).length) (subR (allR (bagOf a) (bagOf c)) (g.take i)) := fun i => iA.sub _ fun r hr => hg.1 r (List.mem_of_mem_take hr)
    have hcl := ic.len
    refine ⟨fun i σ' O' => ∃ x, σ' = [some (.d (dR a)), some (.d (dR g)), some (.d (dR c)), some (.o 0), x] ∧ O' = [some (bD (subR (allR (bagOf a) (bagOf c)) (g.take i))), some (bD (bagOf c))], ⟨none, rfl, rfl⟩, fun _ _ _ _ => .d, ?_, ?_⟩
    · rintro i x σ' O' hx ⟨y, rfl, rfl⟩
      obtain ⟨r, hr', rfl⟩ : ∃ r, g[i]? = some r ∧ rD r = x := by simpa using hx
      refine wg_name 4 ?_ nd
      refine wss1 (ws_expr (we_call D_add hr1 (wa_cons (we_var 3 rfl (wa_cons (we_var 4 rfl (wa_cons ?_)))))))
      repeat walk_at "go"
      refine cs_own1 rfl (vw_o (j := 0) rfl (vw_d (vw_d .nil))) ?_
      refine ⟨_, r, _, rfl, rfl, ?_, .inl rfl, ?_⟩
      · have := (hinv i).len
        rw [List.length_take] at this
        omega
      · refine ⟨[some (.d (dR a)), some (.d (dR g)), some (.d (dR c)), some (.o 0), some .x], [some (bD (subR (allR (bagOf a) (bagOf c)) (g.take (i + 1)))), some (bD (bagOf c))], Nat.le_refl _, ?_, by walk_at "wks", _, rfl, rfl⟩
        rw [subR_step hr', mrg1b]
        exact wkl_d (wkl_d .nil)
    · rintro σ' O' ⟨y, rfl, rfl⟩
      have hi := hinv g.length
      rw [List.take_length] at hi
      rw [List.length_map, List.take_length]
      have hz : (bagOf c).length * (c.length : Int) ≤ 30 * 30 := Int.mul_le_mul (by omega) (by omega) (by omega) (by omega)
      have hb : BagOk ks (cgB a g c) := hi.bagOk hk (by omega) (by omega) (by omega)
      refine wss1 (ws_ret (we_call D_spread (hr.mono (by decide)) (wa_cons (we_var 3 rfl (wa_nil (cs_own1 (s := 0) rfl (vw_o (j := 0) rfl .nil) ?_))))))
      refine ⟨_, ks, rfl, rfl, hb.1, hk, hb.2.2.1, ⟨fun p hp => ?_, ?_⟩, .inl rfl, ?_⟩
      · have := hb.2.2.2.2 p hp
        omega
      · have := spr_len (b := cgB a g c) 1000 fun p hp => (hb.2.2.2.2 p hp).2
        have h5 := hb.2.2.2.1
        exact Nat.le_trans this (Nat.le_trans (Nat.mul_le_mul_right _ h5) (by decide))
      rw [mrg_bl]
      exact ⟨[none, none, some (lstR (spr (cgB a g c)))], by simp, .drop (.drop (wkl_d .nil)), rfl, q⟩
theorem ok_join {f : Addr} {fd : FuncData} (F : Fun K "differences_joined" "differences_joined" sJoin f fd) (D_bag : DefOk P w K mg base "bag_of" 1 spBag) (D_add : DefOk P w K mg base "add_row_to" 1 spAdd) (D_part : DefOk P w K mg base "parted" 2 spPart) : FnOk P w K mg base CX0 3 f fd ["first", "second"] (lft K spJoin) := by
  have nd := scJoin.nd
  refine fn_wp F scJoin (fun ws O Q h => ?_) (fun cdv A outer s H E ws O Q hr h => ?_)
  · obtain ⟨_, _, _, _, _, rfl, _⟩ := h
    rfl
  · obtain ⟨a, b, c, d, ks, rfl, rfl, hk, ha, hb, hc, hd, q⟩ := h
    have hr1 := hr.mono (j := 1) (by decide)
    have hla := ha.2
    have hlb := hb.2
    have hlc := hc.2
    have hld := hd.2
    have hac : ∀ r ∈ a ++ c, OkR ks r := fun r h => (List.mem_append.mp h).elim (ha.1 r) (hc.1 r)
    have hbd : ∀ r ∈ b ++ d, OkR ks r := fun r h => (List.mem_append.mp h).elim (hb.1 r) (hd.1 r)
    have lac : (a ++ c).length ≤ 60 := by rw [List.length_append]; omega
    have lbd : (b ++ d).length ≤ 60 := by rw [List.length_append]; omega
    refine wss_dn ?_
    refine wss (ws_set 2 (we_call D_bag hr1 (wa_cons (we_op (we_ix (we_var 0 rfl (we_int (oi_tup .t rfl ?_))))))) nd)
    refine we_ix (we_var 1 rfl (we_int (oi_tup .t rfl (o2_addL (xs := b.map rD) (ys := d.map rD) rfl rfl ?_ (wa_nil ?_)))))
    · rw [List.length_map, List.length_map]; omega
    simp only [← List.map_append]
    refine cs_lent (bor := [(4, (b ++ d).map rD)]) (fun p hp => ?_) (.lent (n := 4) (xs := (b ++ d).map rD) List.mem_cons_self .nil) ?_
    · cases List.mem_singleton.mp hp; rfl
    refine ⟨b ++ d, rfl, rfl, Nat.lt_of_le_of_lt lbd (by decide), .inr ⟨rfl, fun x hx => ?_⟩, ?_⟩
    · cases List.mem_singleton.mp hx
      exact imms_bD _
    rw [mrg_nb]
    refine wss (ws_for ?_ PassesOwn.never)
    refine wi_list (we_op (we_ix (we_var 0 rfl (we_int (oi_tup .t rfl (we_ix (we_var 1 rfl (we_int (oi_tup .t rfl (o2_addL (xs := a.map rD) (ys := c.map rD) rfl rfl ?_ ⟨_, .o rfl, ?_⟩))))))))))
    · rw [List.length_map, List.length_map]; omega
    simp only [← List.map_append]
    have hinv : ∀ i, BInv ks (0 - (((a ++ c).take i).length : Int)) (b ++ d).length ((b ++ d).length + ((a ++ c).take i).length) (subR (bagOf (b ++ d)) ((a ++ c).take i)) := fun i => (BInv.of ks _ hbd).sub _ fun r hr => hac r (List.mem_of_mem_take hr)
    refine ⟨fun i σ' O' => ∃ x0 x1 x, σ' = [x0, x1, some (.o 5), x] ∧ O' = [some (lstR a), some (lstR b), some (lstR c), some (lstR d), some (lstR (b ++ d)), some (bD (subR (bagOf (b ++ d)) ((a ++ c).take i))), some (lstR (a ++ c))], ⟨_, _, none, rfl, rfl⟩, ?_, ?_, ?_⟩
    · rintro i σ' O' ⟨_, _, _, rfl, rfl⟩
      exact .o rfl
    · rintro i x σ' O' hx ⟨x0, x1, y, rfl, rfl⟩
      obtain ⟨r, hr', rfl⟩ : ∃ r, (a ++ c)[i]? = some r ∧ rD r = x := by
        rw [List.getElem?_map] at hx
        cases h : (a ++ c)[i]? with
        | none => rw [h] at hx; cases hx
        | some r => rw [h] at hx; cases hx; exact ⟨_, rfl, rfl⟩
      refine wg_name 3 ?_ nd
      refine wss1 (ws_expr (we_call D_add hr1 (wa_cons (we_var 2 rfl (wa_cons (we_var 3 rfl (wa_cons ?_)))))))
      repeat walk_at "go"
      refine cs_own1 (s := 5) rfl (vw_o (j := 0) rfl (vw_d (vw_d .nil))) ?_
      refine ⟨_, r, _, rfl, rfl, ?_, .inl rfl, ?_⟩
      · have := (hinv i).len
        rw [List.length_take] at this
        omega
      · refine ⟨[some .x, some .x, some (.o 5), some .x], [some (lstR a), some (lstR b), some (lstR c), some (lstR d), some (lstR (b ++ d)), some (bD (subR (bagOf (b ++ d)) ((a ++ c).take (i + 1)))), some (lstR (a ++ c))], Nat.le_refl _, ?_, ?_, _, _, _, rfl, rfl⟩
        · rw [subR_step hr', mrg1b]
          exact wkl_d (wkl_d (wkl_d (wkl_d (wkl_d (wkl_d (wkl_d .nil))))))
        · exact .junk (.junk (wks_o (by simp) (.junk .nil)))
    · rintro σ' O' ⟨x0, x1, y, rfl, rfl⟩
      have hi := hinv (a ++ c).length
      rw [List.take_length] at hi
      rw [List.length_map, List.take_length]
      refine wss1 (ws_ret (we_call D_part (hr.mono (by decide)) (wa_cons (we_var 2 rfl (wa_nil (cs_own1 (s := 5) rfl (vw_o (j := 0) rfl .nil) ?_))))))
      refine ⟨_, ks, rfl, rfl, hi.bagOk hk (by omega) (by omega) (by omega), .inl rfl, ?_⟩
      rw [mrg_part]
      exact ⟨_, by simp, wkl_d (wkl_d (wkl_d (wkl_d (.drop (.drop (.drop (.drop (.drop (wkl_d (wkl_d .nil)))))))))), rfl, q⟩
end
end K86

namespace K86
open PySem L2 Evl Vf PySem.W
def stD (a b c : Int) : OO := (.lst, [dI a, dI b, dI c].map .d)
abbrev sBegun : Stmt := top 10
theorem scBegun : FnScope ["script", "k", "cell"] ["script", "k"] (defScope sBegun) := ⟨rfl, rfl, rfl, by decide +kernel, rfl, by decide +kernel, by decide +kernel⟩
def spBegun : FS := fun ws O Q => ∃ (ns : List Int) (k : Nat), ws = [.d (.l (ns.map dI)), .d (dI k)] ∧ O = [] ∧ k ≤ 1000 ∧ ∀ a b c, Q (.o 0) [some (stD a b c)]
abbrev sDraw : Stmt := top 11
theorem scDraw : FnScope ["state", "many", "digit", "number"] ["state", "many"] (defScope sDraw) := ⟨rfl, rfl, rfl, by decide +kernel, rfl, by decide +kernel, by decide +kernel⟩
def spDraw : FS := fun ws O Q => ∃ a b c m : Int, ws = [.o 0, .d (dI m)] ∧ O = [some (stD a b c)] ∧ 0 < m ∧ m < 1073741824 ∧ ∀ r a b c, 0 ≤ r → r < m → Q (.d (dI r)) [some (stD a b c)]
theorem fmod_lt {i m : Int} (h : 0 < m) : 0 ≤ i.fmod m ∧ i.fmod m < m := by
  rw [Int.fmod_eq_emod_of_nonneg i (Int.le_of_lt h)]
  exact ⟨Int.emod_nonneg i (Int.ne_of_gt h), Int.emod_lt_of_pos i h⟩
theorem cs_draw {O : Ob} {s : Nat} {a b c m : Int} {Q : W → Ob → Prop} (e : O[s]? = some (some (stD a b c))) (hm : 0 < m) (hm2 : m < 1073741824) (q : ∀ r a' b' c', 0 ≤ r → r < m → Q (.d (dI r)) (O.set s (some (stD a' b' c')))) : CallS spDraw [.o s, .d (dI m)] O Q :=
  cs_own1 e (vw_o (j := 0) rfl (vw_d .nil)) ⟨a, b, c, m, rfl, rfl, hm, hm2, fun r a' b' c' h1 h2 => ⟨.inl rfl, by
    have := q r a' b' c' h1 h2
    rw [show mrg [s] [some (stD a' b' c')] O = O.set s (some (stD a' b' c')) from mrg1]
    exact this⟩⟩
theorem atI_some {α : Type} (l : List α) {i : Int} (h0 : 0 ≤ i) (h1 : i < l.length) : ∃ x, atI l i = some x ∧ x ∈ l := by
  have hj : i.toNat < l.length := by omega
  refine ⟨l[i.toNat], ?_, List.getElem_mem _⟩
  unfold atI
  have : ixN l.length i = some i.toNat := by
    unfold ixN
    simp [h0, h1]
  rw [this]
  exact List.getElem?_eq_getElem hj
local macro_rules
  | `(tactic| walk_at "go") => `(tactic| first
    | ((with_reducible show WE _ (.Constant _ _ _) _ _ _) <;> first | refine we_int ?_ | refine we_str ?_ | refine we_bl ?_ | refine we_non ?_)
    | ((with_reducible show WE _ (.BinOp _ _ _ _) _ _ _) <;> first | refine we_op ?_)
    | ((with_reducible show WE _ (.Compare _ [_] _ _) _ _ _) <;> first | refine we_cmp ?_)
    | ((with_reducible show WE _ (.UnaryOp .USub _ _) _ _ _) <;> first | refine we_un ?_)
    | ((with_reducible show WE _ (.UnaryOp .Not _ _) _ _ _) <;> first | refine we_not ?_)
    | ((with_reducible show WE _ (.Subscript _ (.Slice _ _ _ _) _) _ _ _) <;> first | refine we_sliceL ?_)
    | ((with_reducible show WE _ (.Subscript _ _ _) _ _ _) <;> first | refine we_ix ?_)
    | ((with_reducible show WE _ (.IfExp _ _ _ _) _ _ _) <;> first | refine we_ifExp ?_)
    | ((with_reducible show WE _ (.Tuple _ _ _) _ _ _) <;> first | refine we_tup ?_)
    | ((with_reducible show WE _ (.List _ _) _ _ _) <;> first | refine we_lst ?_)
    | ((with_reducible show WE _ (.Call (.Name "int" _) _ _ _) _ _ _) <;> first | refine we_callTy (T := "int") ?_ (by assumption))
    | ((with_reducible show WE _ (.Name "int" _) _ _ _) <;> first | refine we_tyv (n := "int") (by assumption) ?_)
    | ((with_reducible show WE _ (.Call (.Name "list" _) _ _ _) _ _ _) <;> first | refine we_callTy (T := "list") ?_ (by assumption))
    | ((with_reducible show WE _ (.Name "list" _) _ _ _) <;> first | refine we_tyv (n := "list") (by assumption) ?_)
    | ((with_reducible show WE _ (.Call (.Name "tuple" _) _ _ _) _ _ _) <;> first | refine we_callTy (T := "tuple") ?_ (by assumption))
    | ((with_reducible show WE _ (.Name "tuple" _) _ _ _) <;> first | refine we_tyv (n := "tuple") (by assumption) ?_)
    | ((with_reducible show WE _ (.Call (.Name "str" _) _ _ _) _ _ _) <;> first | refine we_callTy (T := "str") ?_ (by assumption))
    | ((with_reducible show WE _ (.Name "str" _) _ _ _) <;> first | refine we_tyv (n := "str") (by assumption) ?_)
    | ((with_reducible show WE _ (.Call (.Name "dict" _) _ _ _) _ _ _) <;> first | refine we_callTy (T := "dict") ?_ (by assumption))
    | ((with_reducible show WE _ (.Name "dict" _) _ _ _) <;> first | refine we_tyv (n := "dict") (by assumption) ?_)
    | ((with_reducible show WE _ (.Call (.Name "bool" _) _ _ _) _ _ _) <;> first | refine we_callTy (T := "bool") ?_ (by assumption))
    | ((with_reducible show WE _ (.Name "bool" _) _ _ _) <;> first | refine we_tyv (n := "bool") (by assumption) ?_)
    | ((with_reducible show WE _ (.Call (.Name "len" _) _ _ _) _ _ _) <;> first | refine we_callB (id := "len") ?_ (by assumption))
    | ((with_reducible show WE _ (.Call (.Name "max" _) _ _ _) _ _ _) <;> first | refine we_callB (id := "max") ?_ (by assumption))
    | ((with_reducible show WE _ (.Call (.Name "min" _) _ _ _) _ _ _) <;> first | refine we_callB (id := "min") ?_ (by assumption))
    | ((with_reducible show WE _ (.Call (.Name "sorted" _) _ _ _) _ _ _) <;> first | refine we_callB (id := "sorted") ?_ (by assumption))
    | ((with_reducible show WE _ (.Call (.Name "isinstance" _) _ _ _) _ _ _) <;> first | refine we_callB (id := "isinstance") ?_ (by assumption))
    | ((with_reducible show WE _ (.Call (.Name "sum" _) _ _ _) _ _ _) <;> first | refine we_callB (id := "sum") ?_ (by assumption))
    | ((with_reducible show WE _ (.Call (.Name "repr" _) _ _ _) _ _ _) <;> first | refine we_callB (id := "repr") ?_ (by assumption))
    | ((with_reducible show WE _ (.Call (.Name "abs" _) _ _ _) _ _ _) <;> first | refine we_callB (id := "abs") ?_ (by assumption))
    | ((with_reducible show WE _ (.Call (.Name "ord" _) _ _ _) _ _ _) <;> first | refine we_callB (id := "ord") ?_ (by assumption))
    | ((with_reducible show WE _ (.Call (.Name "chr" _) _ _ _) _ _ _) <;> first | refine we_callB (id := "chr") ?_ (by assumption))
    | ((with_reducible show WE _ (.Name _ _) _ _ _) <;> first | refine we_var 0 rfl ?_ | refine we_var 1 rfl ?_ | refine we_var 2 rfl ?_ | refine we_var 3 rfl ?_ | refine we_var 4 rfl ?_ | refine we_var 5 rfl ?_ | refine we_var 6 rfl ?_ | refine we_var 7 rfl ?_ | refine we_var 8 rfl ?_ | refine we_var 9 rfl ?_ | refine we_var 10 rfl ?_ | refine we_var 11 rfl ?_ | refine we_var 12 rfl ?_ | refine we_var 13 rfl ?_)
    | ((with_reducible show WA _ ([]) _ _ _) <;> first | refine wa_nil ?_)
    | ((with_reducible show WA _ (_ :: _) _ _ _) <;> first | refine wa_cons ?_)
    | ((with_reducible show WO _ (none) _ _ _) <;> first | refine wo_none ?_)
    | ((with_reducible show WO _ (some _) _ _ _) <;> first | refine wo_some ?_)
    | ((with_reducible show WT _ (.Compare _ [_] _ _) _ _ _) <;> first | refine wt_cmp ?_)
    | ((with_reducible show WT _ (.BoolOp _ _ _) _ _ _) <;> first | refine wt_bool ?_)
    | ((with_reducible show WT _ (.UnaryOp .Not _ _) _ _ _) <;> first | refine wt_not ?_)
    | ((with_reducible show WW _ (.BoolOp .And [_] _) _ _ _) <;> first | refine ww_and1 ?_)
    | ((with_reducible show WW _ (.BoolOp .Or [_] _) _ _ _) <;> first | refine ww_or1 ?_)
    | ((with_reducible show WW _ (.BoolOp .And _ _) _ _ _) <;> first | refine ww_and ?_)
    | ((with_reducible show WW _ (.BoolOp .Or _ _) _ _ _) <;> first | refine ww_or ?_)
    | ((with_reducible show WG _ (.Name _ _) _ _ _ _) <;> first | refine wg_name 0 ?_ (by assumption) | refine wg_name 1 ?_ (by assumption) | refine wg_name 2 ?_ (by assumption) | refine wg_name 3 ?_ (by assumption) | refine wg_name 4 ?_ (by assumption) | refine wg_name 5 ?_ (by assumption) | refine wg_name 6 ?_ (by assumption) | refine wg_name 7 ?_ (by assumption) | refine wg_name 8 ?_ (by assumption) | refine wg_name 9 ?_ (by assumption) | refine wg_name 10 ?_ (by assumption) | refine wg_name 11 ?_ (by assumption) | refine wg_name 12 ?_ (by assumption) | refine wg_name 13 ?_ (by assumption))
    | ((with_reducible show WG _ (.Subscript _ _ _) _ _ _ _) <;> first | refine wg_sub ?_)
    | ((with_reducible show WGs _ ([]) _ _ _ _) <;> first | refine wgs_nil ?_)
    | ((with_reducible show WGs _ (_ :: _) _ _ _ _) <;> first | refine wgs_cons ?_)
    | ((with_reducible show WSs _ _ _ _ _ _) <;> first | refine wss1 ?_ | refine wss ?_ | refine wss_nil ?_)
    | ((with_reducible show WS _ _ ((.Return (some _) _)) _ _ _) <;> first | refine ws_ret ?_)
    | ((with_reducible show WS _ _ ((.Return none _)) _ _ _) <;> first | refine ws_retN ?_)
    | ((with_reducible show WS _ _ ((.If _ _ _ _)) _ _ _) <;> first | refine ws_if ?_)
    | ((with_reducible show WS _ _ ((.Expr _ _)) _ _ _) <;> first | refine ws_expr ?_)
    | ((with_reducible show WS _ _ ((.Pass _)) _ _ _) <;> first | refine ws_pass ?_)
    | ((with_reducible show WS _ _ ((.Break _)) _ _ _) <;> first | refine ws_break ?_)
    | ((with_reducible show WS _ _ ((.Continue _)) _ _ _) <;> first | refine ws_cont ?_)
    | ((with_reducible show WS _ _ ((.Assign [.Name _ _] _ _)) _ _ _) <;> first | refine ws_set 0 ?_ (by assumption) | refine ws_set 1 ?_ (by assumption) | refine ws_set 2 ?_ (by assumption) | refine ws_set 3 ?_ (by assumption) | refine ws_set 4 ?_ (by assumption) | refine ws_set 5 ?_ (by assumption) | refine ws_set 6 ?_ (by assumption) | refine ws_set 7 ?_ (by assumption) | refine ws_set 8 ?_ (by assumption) | refine ws_set 9 ?_ (by assumption) | refine ws_set 10 ?_ (by assumption) | refine ws_set 11 ?_ (by assumption) | refine ws_set 12 ?_ (by assumption) | refine ws_set 13 ?_ (by assumption))
    | ((with_reducible show WS _ _ ((.Assign _ _ _)) _ _ _) <;> first | refine ws_asg ?_)
    | ((with_reducible show O2 _ (binaryOp .Add) _ _ _ _) <;> first | refine o2_addI ?_)
    | ((with_reducible show O2 _ (binaryOp .Sub) _ _ _ _) <;> first | refine o2_subI ?_)
    | ((with_reducible show O2 _ (binaryOp .Mult) _ _ _ _) <;> first | refine o2_mulI (by decide) ?_ | refine o2_mulL (by omega) (by omega) ?_ | refine o2_mulR (by omega) (by omega) ?_)
    | ((with_reducible show O2 _ (binaryOp .Mod) _ _ _ _) <;> first | refine o2_modI (by decide) ?_ | refine o2_modI (by omega) ?_)
    | ((with_reducible show O2 _ (binaryOp .FloorDiv) _ _ _ _) <;> first | refine o2_divI (by decide) ?_ | refine o2_divI (by omega) ?_)
    | ((with_reducible show O2 _ (compareOp .Lt) _ _ _ _) <;> first | refine o2_lt ?_)
    | ((with_reducible show O2 _ (compareOp .LtE) _ _ _ _) <;> first | refine o2_le ?_)
    | ((with_reducible show O2 _ (compareOp .Gt) _ _ _ _) <;> first | refine o2_gt ?_)
    | ((with_reducible show O2 _ (compareOp .GtE) _ _ _ _) <;> first | refine o2_ge ?_)
    | ((with_reducible show O2 _ (compareOp .Eq) _ _ _ _) <;> first | refine o2_eqI ?_ | refine o2_eqS ?_)
    | ((with_reducible show O2 _ (compareOp .NotEq) _ _ _ _) <;> first | refine o2_neI ?_ | refine o2_neS ?_)
    | ((with_reducible show Vf.O1 _ (unaryOp .USub) _ _ _) <;> first | refine o1_neg ?_)
    | ((with_reducible show OC _ (.type "int") _ _ _) <;> first | refine oc_intI ?_ | refine oc_intB ?_)
    | ((with_reducible show OC _ (.builtin "len") _ _ _) <;> first | refine oc_lenL (.o rfl) ?_ | refine oc_lenL .d ?_)
    | ((with_reducible show OI _ _ _ _ _) <;> first | refine oi_lst (.o rfl) rfl ?_ | refine oi_lst .d rfl ?_)
    | ((with_reducible show OSet _ _ _ _ _ _) <;> first | refine os_lst rfl rfl ?_)
    | ((with_reducible show ∃ b, W.d (D.s (V.bl _)) = W.d (D.s (V.bl b)) ∧ _) <;> refine ⟨_, rfl, ?_⟩)
    | ((with_reducible show List.length _ ≤ 1000 ∧ ∃ xs, PureL _ xs ∧ _) <;> first | refine ⟨by simp, _, .nil, ?_⟩ | refine ⟨by simp, _, .cons .nil, ?_⟩ | refine ⟨by simp, _, .cons (.cons .nil), ?_⟩ | refine ⟨by simp, _, .cons (.cons (.cons .nil)), ?_⟩ | refine ⟨by simp, _, .cons (.cons (.cons (.cons .nil))), ?_⟩)
    | ((with_reducible show List.length _ ≤ 1000 ∧ _) <;> refine ⟨by simp, ?_⟩))
local macro_rules
  | `(tactic| walk_at "wkl") => `(tactic| repeat first | exact WkL.nil | refine wkl_d ?_ | refine wkl_n ?_ | refine WkL.drop ?_)
local macro_rules
  | `(tactic| walk_at "wks") => `(tactic| repeat first | exact WkS.nil | refine wks_d ?_ | refine wks_n ?_ | refine wks_x ?_ | refine wks_o (by first | decide | simp | omega) ?_ | refine WkS.junk ?_)
section
variable {P : Program} {w : World} {K : PySem.W.Frag} {mg : Str → Option Value} {base : Heap}
theorem ok_draw {f : Addr} {fd : FuncData} (F : Fun K "_law_draw" "_law_draw" sDraw f fd) (T : Txt K mg) : FnOk P w K mg base CX0 1 f fd ["state", "many"] (lft K spDraw) := by
  have nd := scDraw.nd
  have bi := T.int
  refine fn_wp F scDraw (fun ws O Q h => ?_) (fun cdv A outer s H E ws O Q hr h => ?_)
  · obtain ⟨_, _, _, _, rfl, _⟩ := h
    rfl
  · obtain ⟨a, b, c, m, rfl, rfl, hm, hm2, q⟩ := h
    unfold stD
    repeat walk_at "go"
    refine ⟨fun hc => ?_, fun hc => ?_⟩
    · have hc' : 0 < c := of_decide_eq_true hc
      repeat walk_at "go"
      exact q _ _ _ _ (fmod_lt hm).1 (fmod_lt hm).2
    · have hc' : ¬ 0 < c := of_decide_eq_false hc
      repeat walk_at "go"
      have h1 := fmod_lt (i := (a + 7919 * (b + 1)) * 48271) (m := 2147483647) (by decide)
      generalize ((a + 7919 * (b + 1)) * 48271).fmod 2147483647 = n1 at *
      refine o2_mulL (by omega) (by omega) ?_
      repeat walk_at "go"
      have h2 := fmod_lt (i := n1 * n1) (m := 2147483629) (by decide)
      generalize (n1 * n1).fmod 2147483629 = n2 at *
      refine o2_mulL (by omega) (by omega) ?_
      repeat walk_at "go"
      exact q _ _ _ _ (fmod_lt hm).1 (fmod_lt hm).2
theorem ok_begun {f : Addr} {fd : FuncData} (F : Fun K "_law_begun" "_law_begun" sBegun f fd) (T : Txt K mg) : FnOk P w K mg base CX0 1 f fd ["script", "k"] (lft K spBegun) := by
  have nd := scBegun.nd
  have bi := T.int
  have bl := T.len
  refine fn_wp F scBegun (fun ws O Q h => ?_) (fun cdv A outer s H E ws O Q hr h => ?_)
  · obtain ⟨_, _, rfl, _⟩ := h
    rfl
  · obtain ⟨ns, k, rfl, rfl, hk, q⟩ := h
    repeat walk_at "go"
    refine ⟨fun hc => ?_, fun hc => ?_⟩
    · have hc' := of_decide_eq_true hc
      rw [List.length_map] at hc'
      repeat walk_at "go"
      obtain ⟨x, hx, hm⟩ := atI_some (ns.map dI) (i := k) (by omega) (by rw [List.length_map]; exact hc')
      obtain ⟨n, _, rfl⟩ := List.mem_map.mp hm
      refine oi_lst .d hx ?_
      repeat walk_at "go"
      refine o2_powI ⟨by decide, by decide, by decide⟩ ?_
      repeat walk_at "go"
      exact q _ _ _
    · repeat walk_at "go"
      refine o2_powI ⟨by decide, by decide, by decide⟩ ?_
      repeat walk_at "go"
      exact q _ _ _
end
end K86

namespace K86
open PySem L2 Evl Vf PySem.W TL
abbrev sSpelt : Stmt := top 12
abbrev nmSpelt : List Str := ["state", "many", "longest", "letters", "base", "j", "size", "at", "lengths", "words", "k", "step"]
theorem scSpelt : FnScope nmSpelt ["state", "many", "longest"] (defScope sSpelt) := ⟨rfl, rfl, rfl, by decide +kernel, rfl, by decide +kernel, by decide +kernel⟩
def OkS (z : Str) : Prop := PyData.canLay0 (.str z) = true
def spSpelt : FS := fun ws O Q => ∃ a b c m l : Int, ws = [.o 0, .d (dI m), .d (dI l)] ∧ O = [some (stD a b c)] ∧ 1 ≤ m ∧ m ≤ 50 ∧ 1 ≤ l ∧ l ≤ 50 ∧
  ∀ a b c (zs : List Str), (zs.length : Int) = m → (∀ z ∈ zs, OkS z) → Q (.o 2) [some (stD a b c), none, some (.lst, (zs.map dS).map .d)]
theorem cutD_mem {xs : List D} {lo hi : Option Int} {x : D} (h : x ∈ cutD xs lo hi) : x ∈ xs := by
  unfold cutD at h
  exact List.mem_of_mem_drop (List.mem_of_mem_take h)
theorem cutD_len {xs : List D} {lo hi : Option Int} : (cutD xs lo hi).length ≤ xs.length := by
  unfold cutD
  rw [List.length_take, List.length_drop]
  omega
theorem okS_join {a : Str} {zs : List Str} (ha : OkS a) (h : ∀ z ∈ zs, OkS z) : OkS (Txt.join a zs) := by
  have key : ∀ z : Str, OkS z ↔ ∀ c ∈ tl z, c < 0x110000 := fun z => by
    unfold OkS
    simp only [PyData.canLay0, PyData.strOk, tl]
    rw [Array.all_eq_true_iff_forall_mem]
    simp
  rw [key] at ha ⊢
  rw [join_eq, tl_join]
  have h' : ∀ l ∈ zs.map tl, ∀ c ∈ l, c < 0x110000 := fun l hl => by
    obtain ⟨z, hz, rfl⟩ := List.mem_map.mp hl
    exact (key z).mp (h z hz)
  generalize zs.map tl = ls at h'
  induction ls with
  | nil => intro c hc; simp [joinL] at hc
  | cons l ls ih =>
    cases ls with
    | nil => exact h' l List.mem_cons_self
    | cons l2 ls =>
      intro c hc
      simp only [joinL, List.mem_append] at hc
      rcases hc with hc | hc | hc
      · exact h' l List.mem_cons_self c hc
      · exact ha c hc
      · exact ih (fun l hl => h' l (List.mem_cons_of_mem _ hl)) c hc
theorem wkl_app {m : Nat} {h : Hd} {xs : List D} {x : D} {O O' : Ob} (k : WkL m O O') : WkL m (some (h, xs.map W.d ++ [W.d x]) :: O) (some (h, (xs ++ [x]).map W.d) :: O') := by
  rw [show xs.map W.d ++ [W.d x] = (xs ++ [x]).map W.d by simp]
  exact wkl_d k
theorem letter (i : Int) (h0 : 0 ≤ i) (h1 : i < 26) : ∃ c, atI (("abcdefghijklmnopqrstuvwxyz" : Str)).cps.toList i = some c ∧ OkS ⟨#[c]⟩ := by
  have hl : (("abcdefghijklmnopqrstuvwxyz" : Str)).cps.toList.length = 26 := by decide +kernel
  obtain ⟨c, hc, hm⟩ := atI_some (("abcdefghijklmnopqrstuvwxyz" : Str)).cps.toList h0 (by rw [hl]; exact h1)
  refine ⟨c, hc, ?_⟩
  have : ∀ c ∈ (("abcdefghijklmnopqrstuvwxyz" : Str)).cps.toList, c < 0x110000 := by decide +kernel
  have hcc := this c hm
  simp [OkS, PyData.canLay0, PyData.strOk, hcc]
theorem sum_ones {zs : List Str} (h : ∀ z ∈ zs, z.length ≤ 1) : (zs.map (·.length)).sum ≤ zs.length := by
  induction zs with
  | nil => simp
  | cons z zs ih =>
    have h1 := ih fun y hy => h y (List.mem_cons_of_mem _ hy)
    have h2 := h z List.mem_cons_self
    simp only [List.map_cons, List.sum_cons, List.length_cons]
    omega
local macro_rules
  | `(tactic| walk_at "go") => `(tactic| first
    | ((with_reducible show WE _ (.Constant _ _ _) _ _ _) <;> first | refine we_int ?_ | refine we_str ?_ | refine we_bl ?_ | refine we_non ?_)
    | ((with_reducible show WE _ (.BinOp _ _ _ _) _ _ _) <;> first | refine we_op ?_)
    | ((with_reducible show WE _ (.Compare _ [_] _ _) _ _ _) <;> first | refine we_cmp ?_)
    | ((with_reducible show WE _ (.UnaryOp .USub _ _) _ _ _) <;> first | refine we_un ?_)
    | ((with_reducible show WE _ (.UnaryOp .Not _ _) _ _ _) <;> first | refine we_not ?_)
    | ((with_reducible show WE _ (.Subscript _ (.Slice _ _ _ _) _) _ _ _) <;> first | refine we_sliceL ?_)
    | ((with_reducible show WE _ (.Subscript _ _ _) _ _ _) <;> first | refine we_ix ?_)
    | ((with_reducible show WE _ (.IfExp _ _ _ _) _ _ _) <;> first | refine we_ifExp ?_)
    | ((with_reducible show WE _ (.Tuple _ _ _) _ _ _) <;> first | refine we_tup ?_)
    | ((with_reducible show WE _ (.List _ _) _ _ _) <;> first | refine we_lst ?_)
    | ((with_reducible show WE _ (.Call (.Name "int" _) _ _ _) _ _ _) <;> first | refine we_callTy (T := "int") ?_ (by assumption))
    | ((with_reducible show WE _ (.Name "int" _) _ _ _) <;> first | refine we_tyv (n := "int") (by assumption) ?_)
    | ((with_reducible show WE _ (.Call (.Name "list" _) _ _ _) _ _ _) <;> first | refine we_callTy (T := "list") ?_ (by assumption))
    | ((with_reducible show WE _ (.Name "list" _) _ _ _) <;> first | refine we_tyv (n := "list") (by assumption) ?_)
    | ((with_reducible show WE _ (.Call (.Name "tuple" _) _ _ _) _ _ _) <;> first | refine we_callTy (T := "tuple") ?_ (by assumption))
    | ((with_reducible show WE _ (.Name "tuple" _) _ _ _) <;> first | refine we_tyv (n := "tuple") (by assumption) ?_)
    | ((with_reducible show WE _ (.Call (.Name "str" _) _ _ _) _ _ _) <;> first | refine we_callTy (T := "str") ?_ (by assumption))
    | ((with_reducible show WE _ (.Name "str" _) _ _ _) <;> first | refine we_tyv (n := "str") (by assumption) ?_)
    | ((with_reducible show WE _ (.Call (.Name "dict" _) _ _ _) _ _ _) <;> first | refine we_callTy (T := "dict") ?_ (by assumption))
    | ((with_reducible show WE _ (.Name "dict" _) _ _ _) <;> first | refine we_tyv (n := "dict") (by assumption) ?_)
    | ((with_reducible show WE _ (.Call (.Name "bool" _) _ _ _) _ _ _) <;> first | refine we_callTy (T := "bool") ?_ (by assumption))
    | ((with_reducible show WE _ (.Name "bool" _) _ _ _) <;> first | refine we_tyv (n := "bool") (by assumption) ?_)
    | ((with_reducible show WE _ (.Call (.Name "len" _) _ _ _) _ _ _) <;> first | refine we_callB (id := "len") ?_ (by assumption))
    | ((with_reducible show WE _ (.Call (.Name "max" _) _ _ _) _ _ _) <;> first | refine we_callB (id := "max") ?_ (by assumption))
    | ((with_reducible show WE _ (.Call (.Name "min" _) _ _ _) _ _ _) <;> first | refine we_callB (id := "min") ?_ (by assumption))
    | ((with_reducible show WE _ (.Call (.Name "sorted" _) _ _ _) _ _ _) <;> first | refine we_callB (id := "sorted") ?_ (by assumption))
    | ((with_reducible show WE _ (.Call (.Name "isinstance" _) _ _ _) _ _ _) <;> first | refine we_callB (id := "isinstance") ?_ (by assumption))
    | ((with_reducible show WE _ (.Call (.Name "sum" _) _ _ _) _ _ _) <;> first | refine we_callB (id := "sum") ?_ (by assumption))
    | ((with_reducible show WE _ (.Call (.Name "repr" _) _ _ _) _ _ _) <;> first | refine we_callB (id := "repr") ?_ (by assumption))
    | ((with_reducible show WE _ (.Call (.Name "abs" _) _ _ _) _ _ _) <;> first | refine we_callB (id := "abs") ?_ (by assumption))
    | ((with_reducible show WE _ (.Call (.Name "ord" _) _ _ _) _ _ _) <;> first | refine we_callB (id := "ord") ?_ (by assumption))
    | ((with_reducible show WE _ (.Call (.Name "chr" _) _ _ _) _ _ _) <;> first | refine we_callB (id := "chr") ?_ (by assumption))
    | ((with_reducible show WE _ (.Name _ _) _ _ _) <;> first | refine we_var 0 rfl ?_ | refine we_var 1 rfl ?_ | refine we_var 2 rfl ?_ | refine we_var 3 rfl ?_ | refine we_var 4 rfl ?_ | refine we_var 5 rfl ?_ | refine we_var 6 rfl ?_ | refine we_var 7 rfl ?_ | refine we_var 8 rfl ?_ | refine we_var 9 rfl ?_ | refine we_var 10 rfl ?_ | refine we_var 11 rfl ?_ | refine we_var 12 rfl ?_ | refine we_var 13 rfl ?_)
    | ((with_reducible show WA _ ([]) _ _ _) <;> first | refine wa_nil ?_)
    | ((with_reducible show WA _ (_ :: _) _ _ _) <;> first | refine wa_cons ?_)
    | ((with_reducible show WO _ (none) _ _ _) <;> first | refine wo_none ?_)
    | ((with_reducible show WO _ (some _) _ _ _) <;> first | refine wo_some ?_)
    | ((with_reducible show WT _ (.Compare _ [_] _ _) _ _ _) <;> first | refine wt_cmp ?_)
    | ((with_reducible show WT _ (.BoolOp _ _ _) _ _ _) <;> first | refine wt_bool ?_)
    | ((with_reducible show WT _ (.UnaryOp .Not _ _) _ _ _) <;> first | refine wt_not ?_)
    | ((with_reducible show WW _ (.BoolOp .And [_] _) _ _ _) <;> first | refine ww_and1 ?_)
    | ((with_reducible show WW _ (.BoolOp .Or [_] _) _ _ _) <;> first | refine ww_or1 ?_)
    | ((with_reducible show WW _ (.BoolOp .And _ _) _ _ _) <;> first | refine ww_and ?_)
    | ((with_reducible show WW _ (.BoolOp .Or _ _) _ _ _) <;> first | refine ww_or ?_)
    | ((with_reducible show WG _ (.Name _ _) _ _ _ _) <;> first | refine wg_name 0 ?_ (by assumption) | refine wg_name 1 ?_ (by assumption) | refine wg_name 2 ?_ (by assumption) | refine wg_name 3 ?_ (by assumption) | refine wg_name 4 ?_ (by assumption) | refine wg_name 5 ?_ (by assumption) | refine wg_name 6 ?_ (by assumption) | refine wg_name 7 ?_ (by assumption) | refine wg_name 8 ?_ (by assumption) | refine wg_name 9 ?_ (by assumption) | refine wg_name 10 ?_ (by assumption) | refine wg_name 11 ?_ (by assumption) | refine wg_name 12 ?_ (by assumption) | refine wg_name 13 ?_ (by assumption))
    | ((with_reducible show WG _ (.Subscript _ _ _) _ _ _ _) <;> first | refine wg_sub ?_)
    | ((with_reducible show WGs _ ([]) _ _ _ _) <;> first | refine wgs_nil ?_)
    | ((with_reducible show WGs _ (_ :: _) _ _ _ _) <;> first | refine wgs_cons ?_)
    | ((with_reducible show WSs _ _ _ _ _ _) <;> first | refine wss1 ?_ | refine wss ?_ | refine wss_nil ?_)
    | ((with_reducible show WS _ _ ((.Return (some _) _)) _ _ _) <;> first | refine ws_ret ?_)
    | ((with_reducible show WS _ _ ((.Return none _)) _ _ _) <;> first | refine ws_retN ?_)
    | ((with_reducible show WS _ _ ((.If _ _ _ _)) _ _ _) <;> first | refine ws_if ?_)
    | ((with_reducible show WS _ _ ((.Expr _ _)) _ _ _) <;> first | refine ws_expr ?_)
    | ((with_reducible show WS _ _ ((.Pass _)) _ _ _) <;> first | refine ws_pass ?_)
    | ((with_reducible show WS _ _ ((.Break _)) _ _ _) <;> first | refine ws_break ?_)
    | ((with_reducible show WS _ _ ((.Continue _)) _ _ _) <;> first | refine ws_cont ?_)
    | ((with_reducible show WS _ _ ((.Assign [.Name _ _] _ _)) _ _ _) <;> first | refine ws_set 0 ?_ (by assumption) | refine ws_set 1 ?_ (by assumption) | refine ws_set 2 ?_ (by assumption) | refine ws_set 3 ?_ (by assumption) | refine ws_set 4 ?_ (by assumption) | refine ws_set 5 ?_ (by assumption) | refine ws_set 6 ?_ (by assumption) | refine ws_set 7 ?_ (by assumption) | refine ws_set 8 ?_ (by assumption) | refine ws_set 9 ?_ (by assumption) | refine ws_set 10 ?_ (by assumption) | refine ws_set 11 ?_ (by assumption) | refine ws_set 12 ?_ (by assumption) | refine ws_set 13 ?_ (by assumption))
    | ((with_reducible show WS _ _ ((.Assign _ _ _)) _ _ _) <;> first | refine ws_asg ?_)
    | ((with_reducible show O2 _ (binaryOp .Add) _ _ _ _) <;> first | refine o2_addI ?_)
    | ((with_reducible show O2 _ (binaryOp .Sub) _ _ _ _) <;> first | refine o2_subI ?_)
    | ((with_reducible show O2 _ (binaryOp .Mult) _ _ _ _) <;> first | refine o2_mulI (by decide) ?_ | refine o2_mulL (by omega) (by omega) ?_ | refine o2_mulR (by omega) (by omega) ?_)
    | ((with_reducible show O2 _ (binaryOp .Mod) _ _ _ _) <;> first | refine o2_modI (by decide) ?_ | refine o2_modI (by omega) ?_)
    | ((with_reducible show O2 _ (binaryOp .FloorDiv) _ _ _ _) <;> first | refine o2_divI (by decide) ?_ | refine o2_divI (by omega) ?_)
    | ((with_reducible show O2 _ (compareOp .Lt) _ _ _ _) <;> first | refine o2_lt ?_)
    | ((with_reducible show O2 _ (compareOp .LtE) _ _ _ _) <;> first | refine o2_le ?_)
    | ((with_reducible show O2 _ (compareOp .Gt) _ _ _ _) <;> first | refine o2_gt ?_)
    | ((with_reducible show O2 _ (compareOp .GtE) _ _ _ _) <;> first | refine o2_ge ?_)
    | ((with_reducible show O2 _ (compareOp .Eq) _ _ _ _) <;> first | refine o2_eqI ?_ | refine o2_eqS ?_)
    | ((with_reducible show O2 _ (compareOp .NotEq) _ _ _ _) <;> first | refine o2_neI ?_ | refine o2_neS ?_)
    | ((with_reducible show Vf.O1 _ (unaryOp .USub) _ _ _) <;> first | refine o1_neg ?_)
    | ((with_reducible show OC _ (.type "int") _ _ _) <;> first | refine oc_intI ?_ | refine oc_intB ?_)
    | ((with_reducible show OC _ (.builtin "len") _ _ _) <;> first | refine oc_lenL (.o rfl) ?_ | refine oc_lenL .d ?_)
    | ((with_reducible show OI _ _ _ _ _) <;> first | refine oi_lst (.o rfl) rfl ?_ | refine oi_lst .d rfl ?_)
    | ((with_reducible show OSet _ _ _ _ _ _) <;> first | refine os_lst rfl rfl ?_)
    | ((with_reducible show ∃ b, W.d (D.s (V.bl _)) = W.d (D.s (V.bl b)) ∧ _) <;> refine ⟨_, rfl, ?_⟩)
    | ((with_reducible show List.length _ ≤ 1000 ∧ ∃ xs, PureL _ xs ∧ _) <;> first | refine ⟨by simp, _, .nil, ?_⟩ | refine ⟨by simp, _, .cons .nil, ?_⟩ | refine ⟨by simp, _, .cons (.cons .nil), ?_⟩ | refine ⟨by simp, _, .cons (.cons (.cons .nil)), ?_⟩ | refine ⟨by simp, _, .cons (.cons (.cons (.cons .nil))), ?_⟩)
    | ((with_reducible show List.length _ ≤ 1000 ∧ _) <;> refine ⟨by simp, ?_⟩))
local macro_rules
  | `(tactic| walk_at "wkl") => `(tactic| repeat first | exact WkL.nil | refine wkl_d ?_ | refine wkl_n ?_ | refine WkL.drop ?_)
local macro_rules
  | `(tactic| walk_at "wks") => `(tactic| repeat first | exact WkS.nil | refine wks_d ?_ | refine wks_n ?_ | refine wks_x ?_ | refine wks_o (by first | decide | simp | omega) ?_ | refine WkS.junk ?_)
section
variable {P : Program} {w : World} {K : PySem.W.Frag} {mg : Str → Option Value} {base : Heap}
theorem ok_spelt {f : Addr} {fd : FuncData} (F : Fun K "_law_spelt" "_law_spelt" sSpelt f fd) (T : Txt K mg) (D_draw : DefOk P w K mg base "_law_draw" 1 spDraw) : FnOk P w K mg base CX0 2 f fd ["state", "many", "longest"] (lft K spSpelt) := by
  have nd := scSpelt.nd
  have bi := T.int
  have bl := T.len
  refine fn_wp F scSpelt (fun ws O Q h => ?_) (fun cdv A outer s H E ws O Q hr h => ?_)
  · obtain ⟨_, _, _, _, _, rfl, _⟩ := h
    rfl
  · obtain ⟨a, b, c, m, l, rfl, rfl, hm, hm2, hl, hl2, q⟩ := h
    have hr1 := hr.mono (j := 1) (by decide)
    refine wss_dn ?_
    refine wss (ws_set 3 (we_str ?_) nd)
    refine wss (ws_lcw (own := [("j", 5)]) (g := gName 5) 4 (wi_range1 (wa_cons (we_var 2 rfl (wa_nil ⟨l, rfl, by omega, by omega, ?_⟩))) T.range) ?_ nd (blkOk_by (N := nmSpelt) (sc := defScope sSpelt) (by decide +kernel)) (sw_true rfl rfl rfl (by decide +kernel)))
    rotate_left
    · rintro _ ⟨_, _, _, _, _, rfl⟩
      exact pg_name nd rfl (.inl rfl)
    refine ⟨_, fun j O' => ∃ a b c xs, O' = [some (stD a b c), some (.lst, (xs.map dI).map .d)] ∧ xs.length = j ∧ ∀ x ∈ xs, 0 ≤ x ∧ x < 26, tg_name 5 (by rintro _ ⟨_, _, _, _, _, rfl⟩; exact pg_name nd rfl (.inl rfl)), ⟨_, _, _, [], rfl, rfl, fun x h => nomatch h⟩, fun _ _ _ => trivial, ?_, ?_⟩
    · rintro j x O' hx ⟨a, b, c, xs, rfl, hxl, hxs⟩ _ ⟨_, _, _, _, _, rfl⟩
      have hj : j < l.toNat := by
        have := (List.getElem?_eq_some_iff.mp hx).1
        rwa [ups_len] at this
      refine wts_nil ⟨fun _ => ?_, fun h => nomatch h⟩
      rintro _ ⟨_, _, _, _, _, rfl⟩
      refine we_call D_draw hr1 (wa_cons (we_var 0 rfl (wa_cons (we_int (wa_nil (cs_draw rfl (by decide) (by decide) fun r a' b' c' h1 h2 => ?_))))))
      refine ⟨_, rfl, by simp only [List.length_map]; omega, [some (stD a' b' c'), some (.lst, ((xs ++ [r]).map dI).map .d)], Nat.le_refl _, ?_, a', b', c', xs ++ [r], rfl, by rw [List.length_append, hxl]; rfl, fun y hy => ?_⟩
      · rw [List.map_append]
        exact wkl_d (wkl_app .nil)
      · rcases List.mem_append.mp hy with hy | hy
        · exact hxs y hy
        · rw [List.mem_singleton.mp hy]; exact ⟨h1, h2⟩
    · rintro O' ⟨a, b, c, bs, rfl, hbl, hbs⟩
      rw [ups_len] at hbl
      refine wss (ws_set 6 (we_op (we_int (we_call D_draw hr1 (wa_cons (we_var 0 rfl (wa_cons (we_var 2 rfl (wa_nil (cs_draw rfl (by omega) (by omega) fun size a b c hs1 hs2 => o2_addI ?_))))))))) nd)
      refine wss (ws_set 7 (we_call D_draw hr1 (wa_cons (we_var 0 rfl (wa_cons (we_var 6 rfl (wa_nil (cs_draw rfl (by omega) (by omega) fun at_ a b c ha1 ha2 => ?_))))))) nd)
      refine wss (ws_set 8 (WE.mono (Q := fun w O' => ∃ lb a b c, w = .d (dB lb) ∧ O' = [some (stD a b c), some (.lst, (bs.map dI).map .d)]) ?_ ?_) nd)
      · refine we_and (we_cmp (we_var 1 rfl (we_var 2 rfl (o2_le ⟨_, rfl, fun _ => ?_, fun _ => ⟨false, _, _, _, rfl, rfl⟩⟩))))
        refine we_and1 (we_cmp (we_call D_draw hr1 (wa_cons (we_var 0 rfl (wa_cons (we_int (wa_nil (cs_draw rfl (by decide) (by decide) fun r a b c h1 h2 => we_int (o2_eqI ⟨_, _, _, _, rfl, rfl⟩)))))))))
      rintro _ _ ⟨lb, a, b, c, rfl, rfl⟩
      refine wss (ws_set 9 (we_lst (wa_nil ⟨by simp, ?_⟩)) nd)
      refine wss (ws_for (wi_range1 (wa_cons (we_var 1 rfl (wa_nil ⟨m, rfl, by omega, by omega, ?_⟩))) T.range) PassesOwn.never)
      refine ⟨fun i σ' O' => ∃ x5 x10 x11 zs, σ' = [some (.o 0), some (.d (dI m)), some (.d (dI l)), some (.d (dS "abcdefghijklmnopqrstuvwxyz")), some (.o 1), x5, some (.d (dI (1 + size))), some (.d (dI at_)), some (.d (dB lb)), some (.o 2), x10, x11] ∧ O' = [some (stD a b c), some (.lst, (bs.map dI).map .d), some (.lst, (zs.map dS).map .d)] ∧ zs.length = i ∧ ∀ z ∈ zs, OkS z, ⟨_, _, _, [], rfl, rfl, rfl, fun z h => nomatch h⟩, fun _ _ _ _ => trivial, ?_, ?_⟩
      · rintro i x σ' O' hx ⟨x5, x10, x11, zs, rfl, rfl, hzl, hzs⟩
        have hi : i < m.toNat := by
          have := (List.getElem?_eq_some_iff.mp hx).1
          rwa [ups_len] at this
        rw [ups_get hi] at hx
        cases hx
        refine wg_name 10 ?_ nd
        refine wss1 (ws_if (wt_val (we_var 8 rfl ⟨_, rfl, fun hc => ?_, fun hc => ?_⟩)))
        all_goals refine wss1 (ws_expr (we_bm PySem.F.plainAttrs_list PySem.F.slot_list_append PySem.F.type_list_append (we_var 9 rfl ⟨ty_lst (.o rfl), wa_cons (we_bm PySem.F.plainAttrs_str PySem.F.slot_str_join PySem.F.type_str_join (we_str ⟨ty_str, wa_cons ?_⟩))⟩)))
        all_goals refine WE.mono (Q := fun w O' => w = .o 4 ∧ ∃ (cut : List D) (ys : List Str), O' = [some (stD a b c), some (.lst, (bs.map dI).map .d), some (.lst, (zs.map dS).map .d), some (.lst, cut.map .d), some (.lst, (ys.map dS).map .d)] ∧ ys.length ≤ 50 ∧ ∀ y ∈ ys, y.length ≤ 1 ∧ OkS y) ?_ ?_
        · refine pe_lcw (own := [("step", 11)]) (g := gName 11) (wi_list (we_sliceL (we_var 4 rfl (wo_none (wo_some ?_))))) ?_ nd (blkOk_by (N := nmSpelt) (sc := defScope sSpelt) (by decide +kernel))
          rotate_left
          · rintro _ ⟨_, _, _, _, _, rfl⟩
            exact pg_name nd rfl (.inl rfl)
          repeat walk_at "go"
          refine ⟨_, rfl, bs.map dI, .o rfl, _, .o rfl, ?_⟩
          generalize hcut : cutD (bs.map dI) none _ = cut
          have hcl : cut.length ≤ 50 := by
            rw [← hcut]
            refine Nat.le_trans cutD_len ?_
            rw [List.length_map]; omega
          have hcm : ∀ x ∈ cut, ∃ s : Int, x = dI s ∧ 0 ≤ s ∧ s < 26 := fun x hx => by
            rw [← hcut] at hx
            obtain ⟨s, hs, rfl⟩ := List.mem_map.mp (cutD_mem hx)
            exact ⟨s, rfl, hbs s hs⟩
          refine ⟨_, fun j O' => ∃ ys : List Str, O' = [some (stD a b c), some (.lst, (bs.map dI).map .d), some (.lst, (zs.map dS).map .d), some (.lst, cut.map .d), some (.lst, (ys.map dS).map .d)] ∧ ys.length = j ∧ ∀ y ∈ ys, y.length ≤ 1 ∧ OkS y, tg_name 11 (by rintro _ ⟨_, _, _, _, _, rfl⟩; exact pg_name nd rfl (.inl rfl)), ⟨[], rfl, rfl, fun y h => nomatch h⟩, ?_, ?_, ?_⟩
          · rintro j O' ⟨ys, rfl, _⟩
            exact .o rfl
          · rintro j x O' hx ⟨ys, rfl, hyl, hys⟩ _ ⟨_, _, _, _, _, rfl⟩
            obtain ⟨s', rfl, h0, h1⟩ := hcm x (List.mem_of_getElem? hx)
            have hj := (List.getElem?_eq_some_iff.mp hx).1
            obtain ⟨ch, hch, hok⟩ := letter s' h0 h1
            refine wts_nil ⟨fun _ => ?_, fun h => nomatch h⟩
            rintro _ ⟨_, _, _, _, _, rfl⟩
            refine we_ix (we_var 3 rfl (we_var 11 rfl (oi_str (by decide +kernel) hch ?_)))
            refine ⟨_, rfl, by simp only [List.length_map]; omega, [some (stD a b c), some (.lst, (bs.map dI).map .d), some (.lst, (zs.map dS).map .d), some (.lst, cut.map .d), some (.lst, ((ys ++ [(⟨#[ch]⟩ : Str)]).map dS).map .d)], Nat.le_refl _, ?_, ys ++ [(⟨#[ch]⟩ : Str)], rfl, by rw [List.length_append, hyl]; rfl, fun y hy => ?_⟩
            · rw [List.map_append (f := dS)]
              exact wkl_d (wkl_d (wkl_d (wkl_d (wkl_app .nil))))
            · rcases List.mem_append.mp hy with hy | hy
              · exact hys y hy
              · rw [List.mem_singleton.mp hy]
                exact ⟨Nat.le_refl _, hok⟩
          · rintro O' ⟨ys, rfl, hyl, hys⟩
            exact ⟨rfl, cut, ys, rfl, by omega, hys⟩
        · rintro _ _ ⟨rfl, cut, ys, rfl, hyl, hys⟩
          have hsum := sum_ones fun y hy => (hys y hy).1
          refine wa_nil (om_join (.o rfl) ?_ (wa_nil (om_append (ws := (zs.map dS).map .d) rfl ?_ ?_)))
          · show (ys.map (·.length)).sum + ys.length * 0 ≤ _
            omega
          · simp only [List.length_map]
            exact Nat.lt_of_lt_of_le (by omega : zs.length < 50) (by decide)
          · refine ⟨[some (.o 0), some (.d (dI m)), some (.d (dI l)), some (.d (dS "abcdefghijklmnopqrstuvwxyz")), some (.o 1), some .x, some (.d (dI (1 + size))), some (.d (dI at_)), some (.d (dB lb)), some (.o 2), some .x, some .x], [some (stD a b c), some (.lst, (bs.map dI).map .d), some (.lst, ((zs ++ [Txt.join "" ys]).map dS).map .d)], Nat.le_refl _, ?_, by walk_at "wks", _, _, _, zs ++ [Txt.join "" ys], rfl, rfl, by rw [List.length_append, hzl]; rfl, fun z hz => ?_⟩
            · rw [List.map_append]
              exact wkl_d (wkl_d (wkl_app .nil))
            · rcases List.mem_append.mp hz with hz | hz
              · exact hzs z hz
              · rw [List.mem_singleton.mp hz]
                exact okS_join (show PyData.canLay0 (.str "") = true by decide +kernel) fun y hy => (hys y hy).2
        · refine pe_lcw (own := [("j", 5), ("step", 11)]) (g := gTup K 2 (gCons (gName 5) (gCons (gName 11) gNil))) (wi_enum (wa_cons (we_sliceL (we_var 4 rfl (wo_none (wo_some (we_var 6 rfl ⟨_, rfl, bs.map dI, .o rfl, wa_nil ⟨_, _, rfl, .o rfl, ?_⟩⟩)))))) T.enum) ?_ nd (blkOk_by (N := nmSpelt) (sc := defScope sSpelt) (by decide +kernel))
          rotate_left
          · rintro _ ⟨_, _, _, _, _, rfl⟩
            exact pg_tup rfl (pgs_cons (pg_name nd rfl (.inl rfl)) (pgs_cons (pg_name nd rfl (.inl rfl)) pgs_nil))
          generalize hcut : cutD (bs.map dI) none _ = cut
          have hcl : cut.length ≤ 50 := by
            rw [← hcut]
            refine Nat.le_trans cutD_len ?_
            rw [List.length_map]; omega
          have hcm : ∀ x ∈ cut, ∃ s : Int, x = dI s ∧ 0 ≤ s ∧ s < 26 := fun x hx => by
            rw [← hcut] at hx
            obtain ⟨s, hs, rfl⟩ := List.mem_map.mp (cutD_mem hx)
            exact ⟨s, rfl, hbs s hs⟩
          have hen : ∀ z ∈ enumD cut, ∃ a b, z = D.t [a, b] := fun z hz => by
            obtain ⟨p, _, rfl⟩ := List.mem_map.mp hz
            exact ⟨_, _, rfl⟩
          refine ⟨_, fun j O' => ∃ ys : List Str, O' = [some (stD a b c), some (.lst, (bs.map dI).map .d), some (.lst, (zs.map dS).map .d), some (.lst, cut.map .d), some (.lst, (ys.map dS).map .d)] ∧ ys.length = j ∧ ∀ y ∈ ys, y.length ≤ 1 ∧ OkS y, tg_pair 5 11 (by decide) hen (by rintro _ ⟨_, _, _, _, _, rfl⟩; exact pg_tup rfl (pgs_cons (pg_name nd rfl (.inl rfl)) (pgs_cons (pg_name nd rfl (.inl rfl)) pgs_nil))), ⟨[], rfl, rfl, fun y h => nomatch h⟩, ?_, ?_, ?_⟩
          · rintro j O' ⟨ys, rfl, _⟩
            exact .o rfl
          · rintro j x O' hx ⟨ys, rfl, hyl, hys⟩ _ ⟨_, _, _, _, _, rfl⟩
            have hj := (List.getElem?_eq_some_iff.mp hx).1
            rw [enum_len] at hj
            rw [enum_get (List.getElem?_eq_getElem hj)] at hx
            obtain ⟨s', hs', h0, h1⟩ := hcm _ (List.getElem_mem hj)
            rw [hs'] at hx
            cases hx
            refine wts_nil ⟨fun _ => ?_, fun h => nomatch h⟩
            rintro _ ⟨_, _, _, _, _, rfl⟩
            refine we_ix (we_var 3 rfl ?_)
            repeat walk_at "go"
            obtain ⟨m1, m2⟩ := fmod_lt (i := s' + (0 + (i : Int)) * if decide ((j : Int) = at_) = true then 1 else 0) (m := 26) (by decide)
            obtain ⟨ch, hch, hok⟩ := letter _ m1 m2
            refine oi_str (by decide +kernel) hch ?_
            refine ⟨_, rfl, by simp only [List.length_map]; omega, [some (stD a b c), some (.lst, (bs.map dI).map .d), some (.lst, (zs.map dS).map .d), some (.lst, cut.map .d), some (.lst, ((ys ++ [(⟨#[ch]⟩ : Str)]).map dS).map .d)], Nat.le_refl _, ?_, ys ++ [(⟨#[ch]⟩ : Str)], rfl, by rw [List.length_append, hyl]; rfl, fun y hy => ?_⟩
            · rw [List.map_append (f := dS)]
              exact wkl_d (wkl_d (wkl_d (wkl_d (wkl_app .nil))))
            · rcases List.mem_append.mp hy with hy | hy
              · exact hys y hy
              · rw [List.mem_singleton.mp hy]
                exact ⟨Nat.le_refl _, hok⟩
          · rintro O' ⟨ys, rfl, hyl, hys⟩
            rw [enum_len] at hyl
            exact ⟨rfl, cut, ys, rfl, by omega, hys⟩
        · rintro _ _ ⟨rfl, cut, ys, rfl, hyl, hys⟩
          have hsum := sum_ones fun y hy => (hys y hy).1
          refine wa_nil (om_join (.o rfl) ?_ (wa_nil (om_append (ws := (zs.map dS).map .d) rfl ?_ ?_)))
          · show (ys.map (·.length)).sum + ys.length * 0 ≤ _
            omega
          · simp only [List.length_map]
            exact Nat.lt_of_lt_of_le (by omega : zs.length < 50) (by decide)
          · refine ⟨[some (.o 0), some (.d (dI m)), some (.d (dI l)), some (.d (dS "abcdefghijklmnopqrstuvwxyz")), some (.o 1), some .x, some (.d (dI (1 + size))), some (.d (dI at_)), some (.d (dB lb)), some (.o 2), some .x, some .x], [some (stD a b c), some (.lst, (bs.map dI).map .d), some (.lst, ((zs ++ [Txt.join "" ys]).map dS).map .d)], Nat.le_refl _, ?_, by walk_at "wks", _, _, _, zs ++ [Txt.join "" ys], rfl, rfl, by rw [List.length_append, hzl]; rfl, fun z hz => ?_⟩
            · rw [List.map_append]
              exact wkl_d (wkl_d (wkl_app .nil))
            · rcases List.mem_append.mp hz with hz | hz
              · exact hzs z hz
              · rw [List.mem_singleton.mp hz]
                exact okS_join (show PyData.canLay0 (.str "") = true by decide +kernel) fun y hy => (hys y hy).2
      · rintro σ' O' ⟨x5, x10, x11, zs, rfl, rfl, hzl, hzs⟩
        rw [ups_len] at hzl
        refine wss1 (ws_ret (we_var 9 rfl ?_))
        exact ⟨_, by simp, wkl_d (.drop (wkl_d .nil)), rfl, q a b c zs (by omega) hzs⟩
end
end K86

namespace K86
open PySem L2 Evl Vf PySem.W TL
def kindS : Bool → Str
  | true => "number"
  | false => "word"
abbrev sValue : Stmt := top 13
theorem scValue : FnScope ["state", "kind", "way"] ["state", "kind"] (defScope sValue) := ⟨rfl, rfl, rfl, by decide +kernel, rfl, by decide +kernel, by decide +kernel⟩
def spValue : FS := fun ws O Q => ∃ (a b c : Int) (kb : Bool), ws = [.o 0, .d (dS (kindS kb))] ∧ O = [some (stD a b c)] ∧ ∀ a b c k, OkK kb k → Q (.d (kD k)) [some (stD a b c)]
theorem mrg_spelt {s : Nat} {a b c : Int} {xs : List D} {O : Ob} : mrg [s] [some (stD a b c), none, some (.lst, xs.map W.d)] O = O.set s (some (stD a b c)) ++ [none, some (.lst, xs.map W.d)] := by
  have h : ∀ f, renO f (stD a b c) = stD a b c := fun f => by unfold stD renO; rw [rens_d]
  have h2 : ∀ f, renO f (.lst, xs.map W.d) = (.lst, xs.map W.d) := fun f => by unfold renO; rw [rens_d]
  simp [mrg, putAll, h, h2]
local macro_rules
  | `(tactic| walk_at "go") => `(tactic| first
    | ((with_reducible show WE _ (.Constant _ _ _) _ _ _) <;> first | refine we_int ?_ | refine we_str ?_ | refine we_bl ?_ | refine we_non ?_)
    | ((with_reducible show WE _ (.BinOp _ _ _ _) _ _ _) <;> first | refine we_op ?_)
    | ((with_reducible show WE _ (.Compare _ [_] _ _) _ _ _) <;> first | refine we_cmp ?_)
    | ((with_reducible show WE _ (.UnaryOp .USub _ _) _ _ _) <;> first | refine we_un ?_)
    | ((with_reducible show WE _ (.UnaryOp .Not _ _) _ _ _) <;> first | refine we_not ?_)
    | ((with_reducible show WE _ (.Subscript _ (.Slice _ _ _ _) _) _ _ _) <;> first | refine we_sliceL ?_)
    | ((with_reducible show WE _ (.Subscript _ _ _) _ _ _) <;> first | refine we_ix ?_)
    | ((with_reducible show WE _ (.IfExp _ _ _ _) _ _ _) <;> first | refine we_ifExp ?_)
    | ((with_reducible show WE _ (.Tuple _ _ _) _ _ _) <;> first | refine we_tup ?_)
    | ((with_reducible show WE _ (.List _ _) _ _ _) <;> first | refine we_lst ?_)
    | ((with_reducible show WE _ (.Call (.Name "int" _) _ _ _) _ _ _) <;> first | refine we_callTy (T := "int") ?_ (by assumption))
    | ((with_reducible show WE _ (.Name "int" _) _ _ _) <;> first | refine we_tyv (n := "int") (by assumption) ?_)
    | ((with_reducible show WE _ (.Call (.Name "list" _) _ _ _) _ _ _) <;> first | refine we_callTy (T := "list") ?_ (by assumption))
    | ((with_reducible show WE _ (.Name "list" _) _ _ _) <;> first | refine we_tyv (n := "list") (by assumption) ?_)
    | ((with_reducible show WE _ (.Call (.Name "tuple" _) _ _ _) _ _ _) <;> first | refine we_callTy (T := "tuple") ?_ (by assumption))
    | ((with_reducible show WE _ (.Name "tuple" _) _ _ _) <;> first | refine we_tyv (n := "tuple") (by assumption) ?_)
    | ((with_reducible show WE _ (.Call (.Name "str" _) _ _ _) _ _ _) <;> first | refine we_callTy (T := "str") ?_ (by assumption))
    | ((with_reducible show WE _ (.Name "str" _) _ _ _) <;> first | refine we_tyv (n := "str") (by assumption) ?_)
    | ((with_reducible show WE _ (.Call (.Name "dict" _) _ _ _) _ _ _) <;> first | refine we_callTy (T := "dict") ?_ (by assumption))
    | ((with_reducible show WE _ (.Name "dict" _) _ _ _) <;> first | refine we_tyv (n := "dict") (by assumption) ?_)
    | ((with_reducible show WE _ (.Call (.Name "bool" _) _ _ _) _ _ _) <;> first | refine we_callTy (T := "bool") ?_ (by assumption))
    | ((with_reducible show WE _ (.Name "bool" _) _ _ _) <;> first | refine we_tyv (n := "bool") (by assumption) ?_)
    | ((with_reducible show WE _ (.Call (.Name "len" _) _ _ _) _ _ _) <;> first | refine we_callB (id := "len") ?_ (by assumption))
    | ((with_reducible show WE _ (.Call (.Name "max" _) _ _ _) _ _ _) <;> first | refine we_callB (id := "max") ?_ (by assumption))
    | ((with_reducible show WE _ (.Call (.Name "min" _) _ _ _) _ _ _) <;> first | refine we_callB (id := "min") ?_ (by assumption))
    | ((with_reducible show WE _ (.Call (.Name "sorted" _) _ _ _) _ _ _) <;> first | refine we_callB (id := "sorted") ?_ (by assumption))
    | ((with_reducible show WE _ (.Call (.Name "isinstance" _) _ _ _) _ _ _) <;> first | refine we_callB (id := "isinstance") ?_ (by assumption))
    | ((with_reducible show WE _ (.Call (.Name "sum" _) _ _ _) _ _ _) <;> first | refine we_callB (id := "sum") ?_ (by assumption))
    | ((with_reducible show WE _ (.Call (.Name "repr" _) _ _ _) _ _ _) <;> first | refine we_callB (id := "repr") ?_ (by assumption))
    | ((with_reducible show WE _ (.Call (.Name "abs" _) _ _ _) _ _ _) <;> first | refine we_callB (id := "abs") ?_ (by assumption))
    | ((with_reducible show WE _ (.Call (.Name "ord" _) _ _ _) _ _ _) <;> first | refine we_callB (id := "ord") ?_ (by assumption))
    | ((with_reducible show WE _ (.Call (.Name "chr" _) _ _ _) _ _ _) <;> first | refine we_callB (id := "chr") ?_ (by assumption))
    | ((with_reducible show WE _ (.Name _ _) _ _ _) <;> first | refine we_var 0 rfl ?_ | refine we_var 1 rfl ?_ | refine we_var 2 rfl ?_ | refine we_var 3 rfl ?_ | refine we_var 4 rfl ?_ | refine we_var 5 rfl ?_ | refine we_var 6 rfl ?_ | refine we_var 7 rfl ?_ | refine we_var 8 rfl ?_ | refine we_var 9 rfl ?_ | refine we_var 10 rfl ?_ | refine we_var 11 rfl ?_ | refine we_var 12 rfl ?_ | refine we_var 13 rfl ?_)
    | ((with_reducible show WA _ ([]) _ _ _) <;> first | refine wa_nil ?_)
    | ((with_reducible show WA _ (_ :: _) _ _ _) <;> first | refine wa_cons ?_)
    | ((with_reducible show WO _ (none) _ _ _) <;> first | refine wo_none ?_)
    | ((with_reducible show WO _ (some _) _ _ _) <;> first | refine wo_some ?_)
    | ((with_reducible show WT _ (.Compare _ [_] _ _) _ _ _) <;> first | refine wt_cmp ?_)
    | ((with_reducible show WT _ (.BoolOp _ _ _) _ _ _) <;> first | refine wt_bool ?_)
    | ((with_reducible show WT _ (.UnaryOp .Not _ _) _ _ _) <;> first | refine wt_not ?_)
    | ((with_reducible show WW _ (.BoolOp .And [_] _) _ _ _) <;> first | refine ww_and1 ?_)
    | ((with_reducible show WW _ (.BoolOp .Or [_] _) _ _ _) <;> first | refine ww_or1 ?_)
    | ((with_reducible show WW _ (.BoolOp .And _ _) _ _ _) <;> first | refine ww_and ?_)
    | ((with_reducible show WW _ (.BoolOp .Or _ _) _ _ _) <;> first | refine ww_or ?_)
    | ((with_reducible show WG _ (.Name _ _) _ _ _ _) <;> first | refine wg_name 0 ?_ (by assumption) | refine wg_name 1 ?_ (by assumption) | refine wg_name 2 ?_ (by assumption) | refine wg_name 3 ?_ (by assumption) | refine wg_name 4 ?_ (by assumption) | refine wg_name 5 ?_ (by assumption) | refine wg_name 6 ?_ (by assumption) | refine wg_name 7 ?_ (by assumption) | refine wg_name 8 ?_ (by assumption) | refine wg_name 9 ?_ (by assumption) | refine wg_name 10 ?_ (by assumption) | refine wg_name 11 ?_ (by assumption) | refine wg_name 12 ?_ (by assumption) | refine wg_name 13 ?_ (by assumption))
    | ((with_reducible show WG _ (.Subscript _ _ _) _ _ _ _) <;> first | refine wg_sub ?_)
    | ((with_reducible show WGs _ ([]) _ _ _ _) <;> first | refine wgs_nil ?_)
    | ((with_reducible show WGs _ (_ :: _) _ _ _ _) <;> first | refine wgs_cons ?_)
    | ((with_reducible show WSs _ _ _ _ _ _) <;> first | refine wss1 ?_ | refine wss ?_ | refine wss_nil ?_)
    | ((with_reducible show WS _ _ ((.Return (some _) _)) _ _ _) <;> first | refine ws_ret ?_)
    | ((with_reducible show WS _ _ ((.Return none _)) _ _ _) <;> first | refine ws_retN ?_)
    | ((with_reducible show WS _ _ ((.If _ _ _ _)) _ _ _) <;> first | refine ws_if ?_)
    | ((with_reducible show WS _ _ ((.Expr _ _)) _ _ _) <;> first | refine ws_expr ?_)
    | ((with_reducible show WS _ _ ((.Pass _)) _ _ _) <;> first | refine ws_pass ?_)
    | ((with_reducible show WS _ _ ((.Break _)) _ _ _) <;> first | refine ws_break ?_)
    | ((with_reducible show WS _ _ ((.Continue _)) _ _ _) <;> first | refine ws_cont ?_)
    | ((with_reducible show WS _ _ ((.Assign [.Name _ _] _ _)) _ _ _) <;> first | refine ws_set 0 ?_ (by assumption) | refine ws_set 1 ?_ (by assumption) | refine ws_set 2 ?_ (by assumption) | refine ws_set 3 ?_ (by assumption) | refine ws_set 4 ?_ (by assumption) | refine ws_set 5 ?_ (by assumption) | refine ws_set 6 ?_ (by assumption) | refine ws_set 7 ?_ (by assumption) | refine ws_set 8 ?_ (by assumption) | refine ws_set 9 ?_ (by assumption) | refine ws_set 10 ?_ (by assumption) | refine ws_set 11 ?_ (by assumption) | refine ws_set 12 ?_ (by assumption) | refine ws_set 13 ?_ (by assumption))
    | ((with_reducible show WS _ _ ((.Assign _ _ _)) _ _ _) <;> first | refine ws_asg ?_)
    | ((with_reducible show O2 _ (binaryOp .Add) _ _ _ _) <;> first | refine o2_addI ?_)
    | ((with_reducible show O2 _ (binaryOp .Sub) _ _ _ _) <;> first | refine o2_subI ?_)
    | ((with_reducible show O2 _ (binaryOp .Mult) _ _ _ _) <;> first | refine o2_mulI (by decide) ?_ | refine o2_mulL (by omega) (by omega) ?_ | refine o2_mulR (by omega) (by omega) ?_)
    | ((with_reducible show O2 _ (binaryOp .Mod) _ _ _ _) <;> first | refine o2_modI (by decide) ?_ | refine o2_modI (by omega) ?_)
    | ((with_reducible show O2 _ (binaryOp .FloorDiv) _ _ _ _) <;> first | refine o2_divI (by decide) ?_ | refine o2_divI (by omega) ?_)
    | ((with_reducible show O2 _ (compareOp .Lt) _ _ _ _) <;> first | refine o2_lt ?_)
    | ((with_reducible show O2 _ (compareOp .LtE) _ _ _ _) <;> first | refine o2_le ?_)
    | ((with_reducible show O2 _ (compareOp .Gt) _ _ _ _) <;> first | refine o2_gt ?_)
    | ((with_reducible show O2 _ (compareOp .GtE) _ _ _ _) <;> first | refine o2_ge ?_)
    | ((with_reducible show O2 _ (compareOp .Eq) _ _ _ _) <;> first | refine o2_eqI ?_ | refine o2_eqS ?_)
    | ((with_reducible show O2 _ (compareOp .NotEq) _ _ _ _) <;> first | refine o2_neI ?_ | refine o2_neS ?_)
    | ((with_reducible show Vf.O1 _ (unaryOp .USub) _ _ _) <;> first | refine o1_neg ?_)
    | ((with_reducible show OC _ (.type "int") _ _ _) <;> first | refine oc_intI ?_ | refine oc_intB ?_)
    | ((with_reducible show OC _ (.builtin "len") _ _ _) <;> first | refine oc_lenL (.o rfl) ?_ | refine oc_lenL .d ?_)
    | ((with_reducible show OI _ _ _ _ _) <;> first | refine oi_lst (.o rfl) rfl ?_ | refine oi_lst .d rfl ?_)
    | ((with_reducible show OSet _ _ _ _ _ _) <;> first | refine os_lst rfl rfl ?_)
    | ((with_reducible show ∃ b, W.d (D.s (V.bl _)) = W.d (D.s (V.bl b)) ∧ _) <;> refine ⟨_, rfl, ?_⟩)
    | ((with_reducible show List.length _ ≤ 1000 ∧ ∃ xs, PureL _ xs ∧ _) <;> first | refine ⟨by simp, _, .nil, ?_⟩ | refine ⟨by simp, _, .cons .nil, ?_⟩ | refine ⟨by simp, _, .cons (.cons .nil), ?_⟩ | refine ⟨by simp, _, .cons (.cons (.cons .nil)), ?_⟩ | refine ⟨by simp, _, .cons (.cons (.cons (.cons .nil))), ?_⟩)
    | ((with_reducible show List.length _ ≤ 1000 ∧ _) <;> refine ⟨by simp, ?_⟩))
local macro_rules
  | `(tactic| walk_at "wkl") => `(tactic| repeat first | exact WkL.nil | refine wkl_d ?_ | refine wkl_n ?_ | refine WkL.drop ?_)
local macro_rules
  | `(tactic| walk_at "wks") => `(tactic| repeat first | exact WkS.nil | refine wks_d ?_ | refine wks_n ?_ | refine wks_x ?_ | refine wks_o (by first | decide | simp | omega) ?_ | refine WkS.junk ?_)
section
variable {P : Program} {w : World} {K : PySem.W.Frag} {mg : Str → Option Value} {base : Heap}
theorem ok_value {f : Addr} {fd : FuncData} (F : Fun K "_law_value" "_law_value" sValue f fd) (D_draw : DefOk P w K mg base "_law_draw" 1 spDraw) (D_spelt : DefOk P w K mg base "_law_spelt" 2 spSpelt) : FnOk P w K mg base CX0 3 f fd ["state", "kind"] (lft K spValue) := by
  have nd := scValue.nd
  refine fn_wp F scValue (fun ws O Q h => ?_) (fun cdv A outer s H E ws O Q hr h => ?_)
  · obtain ⟨_, _, _, _, rfl, _⟩ := h
    rfl
  · obtain ⟨a, b, c, kb, rfl, rfl, q⟩ := h
    have hr1 := hr.mono (j := 1) (by decide)
    refine wss_dn ?_
    refine wss (ws_set 2 (we_call D_draw hr1 (wa_cons (we_var 0 rfl (wa_cons (we_int (wa_nil (cs_draw rfl (by decide) (by decide) fun way a b c h1 h2 => ?_))))))) nd)
    refine wss (ws_if (wt_cmp (we_var 1 rfl (we_str (o2_eqS ⟨_, rfl, fun hc => ?_, fun hc => ?_⟩)))))
    · have hkb : kb = false := by
        cases kb with
        | false => rfl
        | true => exact absurd (of_decide_eq_true hc) (by decide +kernel)
      subst hkb
      refine wss (ws_if (wt_cmp (we_var 2 rfl (we_int (o2_eqI ⟨_, rfl, fun hc => ?_, fun hc => ?_⟩)))))
      · refine wss1 (ws_ret (we_ix (we_call D_spelt (hr.mono (by decide)) (wa_cons (we_var 0 rfl (wa_cons (we_int (wa_cons (we_int (wa_nil (cs_own1 (s := 0) rfl (vw_o (j := 0) rfl (vw_d (vw_d .nil))) ?_)))))))))))
        refine ⟨_, _, _, 1, 8, rfl, rfl, by decide, by decide, by decide, by decide, fun a b c zs hl hz => ⟨.inl rfl, ?_⟩⟩
        rw [mrg_spelt]
        obtain ⟨z, rfl⟩ : ∃ z, zs = [z] := by
          match zs, hl with
          | [z], _ => exact ⟨z, rfl⟩
          | [], h => simp at h
          | _ :: _ :: _, h => simp at h; omega
        refine we_int (oi_lst (.o (xs := [dS z]) rfl) rfl ?_)
        exact ⟨[some (stD a b c)], Nat.le_refl _, wkl_d .nil, rfl, q a b c (.inr z) (hz z List.mem_cons_self)⟩
      · have hc' := of_decide_eq_false hc
        refine wss_nil ?_
        refine wss (ws_ret (we_ix ?_))
        repeat walk_at "go"
        obtain ⟨x, hx, hm⟩ := atI_some ((["a", "b", "ab", "zz", "oslo", "zzzzzzzz", "b"] : List Str).map dS) (i := way) h1 (by simp; omega)
        obtain ⟨z, hz, rfl⟩ := List.mem_map.mp hm
        have hok : ∀ z ∈ (["a", "b", "ab", "zz", "oslo", "zzzzzzzz", "b"] : List Str), PyData.canLay0 (.str z) = true := by decide +kernel
        refine oi_lst (.o (xs := (["a", "b", "ab", "zz", "oslo", "zzzzzzzz", "b"] : List Str).map dS) rfl) hx ?_
        exact ⟨[some (stD a b c)], Nat.le_refl _, wkl_d .nil, rfl, q a b c (.inr z) (hok z hz)⟩
    · have hkb : kb = true := by
        cases kb with
        | true => rfl
        | false => exact absurd rfl (of_decide_eq_false hc)
      subst hkb
      refine wss_nil ?_
      refine wss (ws_if (wt_cmp (we_var 2 rfl (we_int (o2_eqI ⟨_, rfl, fun hc => ?_, fun hc => ?_⟩)))))
      · refine wss1 (ws_ret (we_op (we_op (we_op (we_call D_draw hr1 (wa_cons (we_var 0 rfl (wa_cons (we_int (wa_nil (cs_draw rfl (by decide) (by decide) fun r1 a b c g1 g2 => ?_)))))))))))
        repeat walk_at "go"
        refine we_call D_draw hr1 (wa_cons (we_var 0 rfl (wa_cons (we_int (wa_nil (cs_draw rfl (by decide) (by decide) fun r2 a b c g3 g4 => ?_))))))
        repeat walk_at "go"
        exact ⟨[some (stD a b c)], Nat.le_refl _, wkl_d .nil, rfl, q a b c (.inl _) trivial⟩
      · have hc' := of_decide_eq_false hc
        refine wss_nil ?_
        refine wss1 (ws_ret (we_ix ?_))
        repeat walk_at "go"
        refine o2_powI ⟨by decide, by decide, by decide⟩ ?_
        repeat walk_at "go"
        refine o2_powI ⟨by decide, by decide, by decide⟩ ?_
        repeat walk_at "go"
        obtain ⟨x, hx, hm⟩ := atI_some (([0, 1, 2, -1, 10 ^ Int.toNat 9, 0 - 10 ^ Int.toNat 9, 1] : List Int).map dI) (i := way) h1 (by simp; omega)
        obtain ⟨z, hz, rfl⟩ := List.mem_map.mp hm
        refine oi_lst (.o (xs := ([0, 1, 2, -1, 10 ^ Int.toNat 9, 0 - 10 ^ Int.toNat 9, 1] : List Int).map dI) rfl) hx ?_
        exact ⟨[some (stD a b c)], Nat.le_refl _, wkl_d .nil, rfl, q a b c (.inl z) trivial⟩
end
end K86

namespace K86
open PySem L2 Evl Vf PySem.W TL
def eqR (a b : Row) : Bool := PyData.eqv (rD a).pd (rD b).pd
def fewS (s : List Row × List Row) (r : Row) : List Row × List Row := match s.1.findIdx? (fun y => eqR y r) with
  | some j => (s.1.eraseIdx j, s.2)
  | none => (s.1, s.2 ++ [r])
def fewL (a b : List Row) : List Row × List Row := (sortR a).foldl fewS (b, [])
abbrev sFew : Stmt := top 14
theorem scFew : FnScope ["rows", "others", "left", "found", "row"] ["rows", "others"] (defScope sFew) := ⟨rfl, rfl, rfl, by decide +kernel, rfl, by decide +kernel, by decide +kernel⟩
def spFew : FS := fun ws O Q => ∃ (a b : List Row) (ks : List Bool), ws = [.d (dR a), .d (dR b)] ∧ O = [] ∧ ks ≠ [] ∧ OkL ks a ∧ OkL ks b ∧ Q (.o 1) [none, some (lstR (fewL a b).2)]
abbrev sLDiff : Stmt := top 15
theorem scLDiff : FnScope ["before", "after"] ["before", "after"] (defScope sLDiff) := ⟨rfl, rfl, rfl, by decide +kernel, rfl, by decide +kernel, by decide +kernel⟩
def spLDiff : FS := fun ws O Q => ∃ (a b : List Row) (ks : List Bool), ws = [.d (dR a), .d (dR b)] ∧ O = [] ∧ ks ≠ [] ∧ OkL ks a ∧ OkL ks b ∧ Q (.t [.o 1, .o 3]) [none, some (lstR (fewL a b).2), none, some (lstR (fewL b a).2)]
abbrev sPair : Stmt := top 17
theorem scPair : FnScope ["thing"] ["thing"] (defScope sPair) := ⟨rfl, rfl, rfl, by decide +kernel, rfl, by decide +kernel, by decide +kernel⟩
def spPair : FS := fun ws O Q => ∃ (a b : List Row), ws = [.t [.o 0, .o 1]] ∧ O = [some (lstR a), some (lstR b)] ∧ Q (.d (dB true)) [some (lstR a), some (lstR b)]
mutual
theorem okp_lay : ∀ x : D, x.okp = true → x.pd.canLay0 = true
  | .s v, h => by
    cases v <;> first | rfl | (simp only [D.okp] at h; simpa only [D.pd] using h) | (simp [D.okp] at h)
  | .t ys, h => by
    simp only [D.okp] at h
    simp only [D.pd, PyData.canLay0]
    exact okps_lay ys h
  | .l ys, h => by
    simp only [D.okp] at h
    simp only [D.pd, PyData.canLay0]
    exact okps_lay ys h
theorem okps_lay : ∀ xs : List D, D.okps xs = true → PyData.canLayAll0 (D.pds xs) = true
  | [], _ => rfl
  | x :: xs, h => by
    simp only [D.okps, Bool.and_eq_true] at h
    simp only [D.pds, PyData.canLayAll0, okp_lay x h.1, okps_lay xs h.2, Bool.and_self]
end
theorem depthAll_le {n : Nat} : ∀ {xs : List PyData}, (∀ x ∈ xs, x.depth ≤ n) → PyData.depthAll xs ≤ n
  | [], _ => Nat.zero_le _
  | x :: xs, h => by
    have h1 := h x List.mem_cons_self
    have h2 := depthAll_le fun y hy => h y (List.mem_cons_of_mem _ hy)
    simp only [PyData.depthAll]
    omega
def pR (rows : List Row) : PyData := .list ((rows.map rD).map D.pd)
theorem pR_pd (rows : List Row) : (dR rows).pd = pR rows := by rw [dR, D.pd, pds_map]; rfl
theorem dR_okp {ks : List Bool} {rows : List Row} (h : ∀ r ∈ rows, OkR ks r) : (dR rows).okp = true := by
  rw [dR, D.okp]
  refine okps_all fun y hy => ?_
  obtain ⟨r, hr, rfl⟩ := List.mem_map.mp hy
  exact rD_okp (h r hr)
theorem pR_depth (rows : List Row) : (pR rows).depth ≤ 17 := by
  rw [pR, PyData.depth]
  have := depthAll_le (n := 16) (xs := (rows.map rD).map D.pd) fun y hy => by
    obtain ⟨d, hd, rfl⟩ := List.mem_map.mp hy
    obtain ⟨r, _, rfl⟩ := List.mem_map.mp hd
    exact rD_depth r
  omega
theorem pR_lay {ks : List Bool} {rows : List Row} (h : ∀ r ∈ rows, OkR ks r) : (pR rows).canLay0 = true := by
  rw [← pR_pd]; exact okp_lay _ (dR_okp h)
theorem shaped_row {ks : List Bool} {r : Row} (h : OkR ks r) : SeqAt.shaped (rD r).pd = true := by
  unfold SeqAt.shaped
  rw [okp_lay _ (rD_okp h), decide_eq_true (Nat.le_trans (rD_depth r) (by decide))]; rfl
theorem shaped_rows {ks : List Bool} {l : List Row} (h : ∀ r ∈ l, OkR ks r) : SeqAt.shaped (pR l) = true := by
  unfold SeqAt.shaped
  rw [pR_lay h, decide_eq_true (Nat.le_trans (pR_depth l) (by decide))]; rfl
theorem shaped_two {ks : List Bool} {a b : List Row} (ha : ∀ r ∈ a, OkR ks r) (hb : ∀ r ∈ b, OkR ks r) : SeqAt.shaped (.tuple [pR a, pR b]) = true := by
  unfold SeqAt.shaped
  have h1 := pR_depth a
  have h2 := pR_depth b
  have : (PyData.tuple [pR a, pR b]).depth ≤ 64 := by simp only [PyData.depth, PyData.depthAll]; omega
  rw [decide_eq_true this]
  simp [PyData.canLay0, PyData.canLayAll0, pR_lay ha, pR_lay hb]
theorem shaped_three {ks : List Bool} {a b c : List Row} (ha : ∀ r ∈ a, OkR ks r) (hb : ∀ r ∈ b, OkR ks r) (hc : ∀ r ∈ c, OkR ks r) : SeqAt.shaped (.list [pR a, pR b, pR c]) = true := by
  unfold SeqAt.shaped
  have h1 := pR_depth a
  have h2 := pR_depth b
  have h3 := pR_depth c
  have : (PyData.list [pR a, pR b, pR c]).depth ≤ 64 := by simp only [PyData.depth, PyData.depthAll]; omega
  rw [decide_eq_true this]
  simp [PyData.canLay0, PyData.canLayAll0, pR_lay ha, pR_lay hb, pR_lay hc]
theorem any_pd (l : List Row) (r : Row) : (((l.map rD).map D.pd).any fun z => PyData.eqv z (rD r).pd) = l.any fun y => eqR y r := by
  rw [List.any_map, List.any_map]; rfl
theorem findIdx_any {α : Type} (p : α → Bool) : ∀ l : List α, (l.findIdx? p).isSome = l.any p
  | [] => rfl
  | x :: l => by
    rw [List.findIdx?_cons, List.any_cons, ← findIdx_any p l]
    cases p x <;> simp
theorem few_step {a b : List Row} {i : Nat} {r : Row} (h : (sortR a)[i]? = some r) (s0 : List Row × List Row) : ((sortR a).take (i + 1)).foldl fewS s0 = fewS (((sortR a).take i).foldl fewS s0) r := take_fold _ _ _ h
theorem few_inv {ks : List Bool} (rows : List Row) (h : ∀ r ∈ rows, OkR ks r) : ∀ (s : List Row × List Row), (∀ r ∈ s.1, OkR ks r) → (∀ r ∈ s.2, OkR ks r) → (∀ r ∈ (rows.foldl fewS s).1, OkR ks r) ∧ (∀ r ∈ (rows.foldl fewS s).2, OkR ks r) ∧ (rows.foldl fewS s).2.length ≤ s.2.length + rows.length := by
  induction rows with
  | nil => intro s h1 h2; exact ⟨h1, h2, Nat.le_refl _⟩
  | cons r rows ih =>
    intro s h1 h2
    rw [List.foldl_cons]
    have hr := h r List.mem_cons_self
    have h' := fun r hr => h r (List.mem_cons_of_mem _ hr)
    have key : (∀ y ∈ (fewS s r).1, OkR ks y) ∧ (∀ y ∈ (fewS s r).2, OkR ks y) ∧ (fewS s r).2.length ≤ s.2.length + 1 := by
      cases hj : s.1.findIdx? (fun y => eqR y r) with
      | some j =>
        rw [show fewS s r = (s.1.eraseIdx j, s.2) by unfold fewS; rw [hj]]
        exact ⟨fun x hx => h1 x (List.mem_of_mem_eraseIdx hx), h2, Nat.le_succ _⟩
      | none =>
        rw [show fewS s r = (s.1, s.2 ++ [r]) by unfold fewS; rw [hj]]
        refine ⟨h1, fun x hx => ?_, by simp⟩
        rcases List.mem_append.mp hx with hx | hx
        · exact h2 x hx
        · rw [List.mem_singleton.mp hx]; exact hr
    obtain ⟨g1, g2, g3⟩ := ih h' (fewS s r) key.1 key.2.1
    refine ⟨g1, g2, ?_⟩
    have := key.2.2
    rw [List.length_cons]
    omega
local macro_rules
  | `(tactic| walk_at "go") => `(tactic| first
    | ((with_reducible show WE _ (.Constant _ _ _) _ _ _) <;> first | refine we_int ?_ | refine we_str ?_ | refine we_bl ?_ | refine we_non ?_)
    | ((with_reducible show WE _ (.BinOp _ _ _ _) _ _ _) <;> first | refine we_op ?_)
    | ((with_reducible show WE _ (.Compare _ [_] _ _) _ _ _) <;> first | refine we_cmp ?_)
    | ((with_reducible show WE _ (.UnaryOp .USub _ _) _ _ _) <;> first | refine we_un ?_)
    | ((with_reducible show WE _ (.UnaryOp .Not _ _) _ _ _) <;> first | refine we_not ?_)
    | ((with_reducible show WE _ (.Subscript _ (.Slice _ _ _ _) _) _ _ _) <;> first | refine we_sliceL ?_)
    | ((with_reducible show WE _ (.Subscript _ _ _) _ _ _) <;> first | refine we_ix ?_)
    | ((with_reducible show WE _ (.IfExp _ _ _ _) _ _ _) <;> first | refine we_ifExp ?_)
    | ((with_reducible show WE _ (.Tuple _ _ _) _ _ _) <;> first | refine we_tup ?_)
    | ((with_reducible show WE _ (.List _ _) _ _ _) <;> first | refine we_lst ?_)
    | ((with_reducible show WE _ (.Call (.Name "int" _) _ _ _) _ _ _) <;> first | refine we_callTy (T := "int") ?_ (by assumption))
    | ((with_reducible show WE _ (.Name "int" _) _ _ _) <;> first | refine we_tyv (n := "int") (by assumption) ?_)
    | ((with_reducible show WE _ (.Call (.Name "list" _) _ _ _) _ _ _) <;> first | refine we_callTy (T := "list") ?_ (by assumption))
    | ((with_reducible show WE _ (.Name "list" _) _ _ _) <;> first | refine we_tyv (n := "list") (by assumption) ?_)
    | ((with_reducible show WE _ (.Call (.Name "tuple" _) _ _ _) _ _ _) <;> first | refine we_callTy (T := "tuple") ?_ (by assumption))
    | ((with_reducible show WE _ (.Name "tuple" _) _ _ _) <;> first | refine we_tyv (n := "tuple") (by assumption) ?_)
    | ((with_reducible show WE _ (.Call (.Name "str" _) _ _ _) _ _ _) <;> first | refine we_callTy (T := "str") ?_ (by assumption))
    | ((with_reducible show WE _ (.Name "str" _) _ _ _) <;> first | refine we_tyv (n := "str") (by assumption) ?_)
    | ((with_reducible show WE _ (.Call (.Name "dict" _) _ _ _) _ _ _) <;> first | refine we_callTy (T := "dict") ?_ (by assumption))
    | ((with_reducible show WE _ (.Name "dict" _) _ _ _) <;> first | refine we_tyv (n := "dict") (by assumption) ?_)
    | ((with_reducible show WE _ (.Call (.Name "bool" _) _ _ _) _ _ _) <;> first | refine we_callTy (T := "bool") ?_ (by assumption))
    | ((with_reducible show WE _ (.Name "bool" _) _ _ _) <;> first | refine we_tyv (n := "bool") (by assumption) ?_)
    | ((with_reducible show WE _ (.Call (.Name "len" _) _ _ _) _ _ _) <;> first | refine we_callB (id := "len") ?_ (by assumption))
    | ((with_reducible show WE _ (.Call (.Name "max" _) _ _ _) _ _ _) <;> first | refine we_callB (id := "max") ?_ (by assumption))
    | ((with_reducible show WE _ (.Call (.Name "min" _) _ _ _) _ _ _) <;> first | refine we_callB (id := "min") ?_ (by assumption))
    | ((with_reducible show WE _ (.Call (.Name "sorted" _) _ _ _) _ _ _) <;> first | refine we_callB (id := "sorted") ?_ (by assumption))
    | ((with_reducible show WE _ (.Call (.Name "isinstance" _) _ _ _) _ _ _) <;> first | refine we_callB (id := "isinstance") ?_ (by assumption))
    | ((with_reducible show WE _ (.Call (.Name "sum" _) _ _ _) _ _ _) <;> first | refine we_callB (id := "sum") ?_ (by assumption))
    | ((with_reducible show WE _ (.Call (.Name "repr" _) _ _ _) _ _ _) <;> first | refine we_callB (id := "repr") ?_ (by assumption))
    | ((with_reducible show WE _ (.Call (.Name "abs" _) _ _ _) _ _ _) <;> first | refine we_callB (id := "abs") ?_ (by assumption))
    | ((with_reducible show WE _ (.Call (.Name "ord" _) _ _ _) _ _ _) <;> first | refine we_callB (id := "ord") ?_ (by assumption))
    | ((with_reducible show WE _ (.Call (.Name "chr" _) _ _ _) _ _ _) <;> first | refine we_callB (id := "chr") ?_ (by assumption))
    | ((with_reducible show WE _ (.Name _ _) _ _ _) <;> first | refine we_var 0 rfl ?_ | refine we_var 1 rfl ?_ | refine we_var 2 rfl ?_ | refine we_var 3 rfl ?_ | refine we_var 4 rfl ?_ | refine we_var 5 rfl ?_ | refine we_var 6 rfl ?_ | refine we_var 7 rfl ?_ | refine we_var 8 rfl ?_ | refine we_var 9 rfl ?_ | refine we_var 10 rfl ?_ | refine we_var 11 rfl ?_ | refine we_var 12 rfl ?_ | refine we_var 13 rfl ?_)
    | ((with_reducible show WA _ ([]) _ _ _) <;> first | refine wa_nil ?_)
    | ((with_reducible show WA _ (_ :: _) _ _ _) <;> first | refine wa_cons ?_)
    | ((with_reducible show WO _ (none) _ _ _) <;> first | refine wo_none ?_)
    | ((with_reducible show WO _ (some _) _ _ _) <;> first | refine wo_some ?_)
    | ((with_reducible show WT _ (.Compare _ [_] _ _) _ _ _) <;> first | refine wt_cmp ?_)
    | ((with_reducible show WT _ (.BoolOp _ _ _) _ _ _) <;> first | refine wt_bool ?_)
    | ((with_reducible show WT _ (.UnaryOp .Not _ _) _ _ _) <;> first | refine wt_not ?_)
    | ((with_reducible show WW _ (.BoolOp .And [_] _) _ _ _) <;> first | refine ww_and1 ?_)
    | ((with_reducible show WW _ (.BoolOp .Or [_] _) _ _ _) <;> first | refine ww_or1 ?_)
    | ((with_reducible show WW _ (.BoolOp .And _ _) _ _ _) <;> first | refine ww_and ?_)
    | ((with_reducible show WW _ (.BoolOp .Or _ _) _ _ _) <;> first | refine ww_or ?_)
    | ((with_reducible show WG _ (.Name _ _) _ _ _ _) <;> first | refine wg_name 0 ?_ (by assumption) | refine wg_name 1 ?_ (by assumption) | refine wg_name 2 ?_ (by assumption) | refine wg_name 3 ?_ (by assumption) | refine wg_name 4 ?_ (by assumption) | refine wg_name 5 ?_ (by assumption) | refine wg_name 6 ?_ (by assumption) | refine wg_name 7 ?_ (by assumption) | refine wg_name 8 ?_ (by assumption) | refine wg_name 9 ?_ (by assumption) | refine wg_name 10 ?_ (by assumption) | refine wg_name 11 ?_ (by assumption) | refine wg_name 12 ?_ (by assumption) | refine wg_name 13 ?_ (by assumption))
    | ((with_reducible show WG _ (.Subscript _ _ _) _ _ _ _) <;> first | refine wg_sub ?_)
    | ((with_reducible show WGs _ ([]) _ _ _ _) <;> first | refine wgs_nil ?_)
    | ((with_reducible show WGs _ (_ :: _) _ _ _ _) <;> first | refine wgs_cons ?_)
    | ((with_reducible show WSs _ _ _ _ _ _) <;> first | refine wss1 ?_ | refine wss ?_ | refine wss_nil ?_)
    | ((with_reducible show WS _ _ ((.Return (some _) _)) _ _ _) <;> first | refine ws_ret ?_)
    | ((with_reducible show WS _ _ ((.Return none _)) _ _ _) <;> first | refine ws_retN ?_)
    | ((with_reducible show WS _ _ ((.If _ _ _ _)) _ _ _) <;> first | refine ws_if ?_)
    | ((with_reducible show WS _ _ ((.Expr _ _)) _ _ _) <;> first | refine ws_expr ?_)
    | ((with_reducible show WS _ _ ((.Pass _)) _ _ _) <;> first | refine ws_pass ?_)
    | ((with_reducible show WS _ _ ((.Break _)) _ _ _) <;> first | refine ws_break ?_)
    | ((with_reducible show WS _ _ ((.Continue _)) _ _ _) <;> first | refine ws_cont ?_)
    | ((with_reducible show WS _ _ ((.Assign [.Name _ _] _ _)) _ _ _) <;> first | refine ws_set 0 ?_ (by assumption) | refine ws_set 1 ?_ (by assumption) | refine ws_set 2 ?_ (by assumption) | refine ws_set 3 ?_ (by assumption) | refine ws_set 4 ?_ (by assumption) | refine ws_set 5 ?_ (by assumption) | refine ws_set 6 ?_ (by assumption) | refine ws_set 7 ?_ (by assumption) | refine ws_set 8 ?_ (by assumption) | refine ws_set 9 ?_ (by assumption) | refine ws_set 10 ?_ (by assumption) | refine ws_set 11 ?_ (by assumption) | refine ws_set 12 ?_ (by assumption) | refine ws_set 13 ?_ (by assumption))
    | ((with_reducible show WS _ _ ((.Assign _ _ _)) _ _ _) <;> first | refine ws_asg ?_)
    | ((with_reducible show O2 _ (binaryOp .Add) _ _ _ _) <;> first | refine o2_addI ?_)
    | ((with_reducible show O2 _ (binaryOp .Sub) _ _ _ _) <;> first | refine o2_subI ?_)
    | ((with_reducible show O2 _ (binaryOp .Mult) _ _ _ _) <;> first | refine o2_mulI (by decide) ?_ | refine o2_mulL (by omega) (by omega) ?_ | refine o2_mulR (by omega) (by omega) ?_)
    | ((with_reducible show O2 _ (binaryOp .Mod) _ _ _ _) <;> first | refine o2_modI (by decide) ?_ | refine o2_modI (by omega) ?_)
    | ((with_reducible show O2 _ (binaryOp .FloorDiv) _ _ _ _) <;> first | refine o2_divI (by decide) ?_ | refine o2_divI (by omega) ?_)
    | ((with_reducible show O2 _ (compareOp .Lt) _ _ _ _) <;> first | refine o2_lt ?_)
    | ((with_reducible show O2 _ (compareOp .LtE) _ _ _ _) <;> first | refine o2_le ?_)
    | ((with_reducible show O2 _ (compareOp .Gt) _ _ _ _) <;> first | refine o2_gt ?_)
    | ((with_reducible show O2 _ (compareOp .GtE) _ _ _ _) <;> first | refine o2_ge ?_)
    | ((with_reducible show O2 _ (compareOp .Eq) _ _ _ _) <;> first | refine o2_eqI ?_ | refine o2_eqS ?_)
    | ((with_reducible show O2 _ (compareOp .NotEq) _ _ _ _) <;> first | refine o2_neI ?_ | refine o2_neS ?_)
    | ((with_reducible show Vf.O1 _ (unaryOp .USub) _ _ _) <;> first | refine o1_neg ?_)
    | ((with_reducible show OC _ (.type "int") _ _ _) <;> first | refine oc_intI ?_ | refine oc_intB ?_)
    | ((with_reducible show OC _ (.builtin "len") _ _ _) <;> first | refine oc_lenL (.o rfl) ?_ | refine oc_lenL .d ?_)
    | ((with_reducible show OI _ _ _ _ _) <;> first | refine oi_lst (.o rfl) rfl ?_ | refine oi_lst .d rfl ?_)
    | ((with_reducible show OSet _ _ _ _ _ _) <;> first | refine os_lst rfl rfl ?_)
    | ((with_reducible show ∃ b, W.d (D.s (V.bl _)) = W.d (D.s (V.bl b)) ∧ _) <;> refine ⟨_, rfl, ?_⟩)
    | ((with_reducible show List.length _ ≤ 1000 ∧ ∃ xs, PureL _ xs ∧ _) <;> first | refine ⟨by simp, _, .nil, ?_⟩ | refine ⟨by simp, _, .cons .nil, ?_⟩ | refine ⟨by simp, _, .cons (.cons .nil), ?_⟩ | refine ⟨by simp, _, .cons (.cons (.cons .nil)), ?_⟩ | refine ⟨by simp, _, .cons (.cons (.cons (.cons .nil))), ?_⟩)
    | ((with_reducible show List.length _ ≤ 1000 ∧ _) <;> refine ⟨by simp, ?_⟩))
local macro_rules
  | `(tactic| walk_at "wkl") => `(tactic| repeat first | exact WkL.nil | refine wkl_d ?_ | refine wkl_n ?_ | refine WkL.drop ?_)
local macro_rules
  | `(tactic| walk_at "wks") => `(tactic| repeat first | exact WkS.nil | refine wks_d ?_ | refine wks_n ?_ | refine wks_x ?_ | refine wks_o (by first | decide | simp | omega) ?_ | refine WkS.junk ?_)
section
variable {P : Program} {w : World} {K : PySem.W.Frag} {mg : Str → Option Value} {base : Heap}
theorem ok_few {f : Addr} {fd : FuncData} (F : Fun K "_law_fewer" "_law_fewer" sFew f fd) (T : Txt K mg) : FnOk P w K mg base CX0 1 f fd ["rows", "others"] (lft K spFew) := by
  have nd := scFew.nd
  have b1 := T.list
  have b2 := T.sorted
  refine fn_wp F scFew (fun ws O Q h => ?_) (fun cdv A outer s H E ws O Q hr h => ?_)
  · obtain ⟨_, _, _, rfl, _⟩ := h
    rfl
  · obtain ⟨a, b, ks, rfl, rfl, hk, ha, hb, q⟩ := h
    have u0 : (A.deeper (PyProof.Rows.envOfC "_law_fewer" (defScope sFew) s.heap.objs.size f cdv)).units + 64 < cLine := hr.units
    have u2 : (A.deeper (PyProof.Rows.envOfC "_law_fewer" (defScope sFew) s.heap.objs.size f cdv)).units + 65 < cLine := by have := hr.un; omega
    have hla := ha.2
    have hlb := hb.2
    refine wss_dn ?_
    refine wss (ws_set 2 (we_callTy (T := "list") (wa_cons (we_var 1 rfl (wa_nil (oc_listL .d ?_)))) b1) nd)
    refine wss (ws_set 3 (we_lst (wa_nil ⟨by simp, ?_⟩)) nd)
    refine wss (ws_for (wi_list (we_callB (id := "sorted") (wa_cons (we_var 0 rfl (wa_nil (oc_sorted rD a u0 .d (fun r hr => rD_okp (ha.1 r hr)) (fun r hr r' hr' => rD_alike (ha.1 r hr) (ha.1 r' hr')) (sortable_rows hk ha.1) (fun r _ => rD_depth r) ⟨_, .o rfl, ?_⟩)))) b2)) PassesOwn.never)
    rw [show a.mergeSort (dataLe false fun k => (rD k).pd) = sortR a from rfl]
    have hsk : ∀ r ∈ sortR a, OkR ks r := fun r hr => ha.1 r ((List.mergeSort_perm _ _).mem_iff.mp hr)
    have hsl : (sortR a).length = a.length := List.length_mergeSort _
    refine ⟨fun i σ' O' => ∃ x, σ' = [some (.d (dR a)), some (.d (dR b)), some (.o 0), some (.o 1), x] ∧ O' = [some (lstR (((sortR a).take i).foldl fewS (b, [])).1), some (lstR (((sortR a).take i).foldl fewS (b, [])).2), some (lstR (sortR a))], ⟨none, rfl, rfl⟩, ?_, ?_, ?_⟩
    · rintro i σ' O' ⟨x, rfl, rfl⟩
      exact .o rfl
    · rintro i x σ' O' hx ⟨y, rfl, rfl⟩
      obtain ⟨r, hr', rfl⟩ : ∃ r, (sortR a)[i]? = some r ∧ rD r = x := by
        rw [List.getElem?_map] at hx
        cases h : (sortR a)[i]? with
        | none => rw [h] at hx; cases hx
        | some r => rw [h] at hx; cases hx; exact ⟨_, rfl, rfl⟩
      have hi := (List.getElem?_eq_some_iff.mp hr').1
      have hrk := hsk r (List.mem_of_getElem? hr')
      have hst := few_step (b := b) hr' (b, [])
      obtain ⟨i1, i2, i3⟩ := few_inv ((sortR a).take i) (fun r hr => hsk r (List.mem_of_mem_take hr)) (b, []) hb.1 (fun r h => nomatch h)
      rw [List.length_take] at i3
      simp only [List.length_nil] at i3
      generalize ((sortR a).take i).foldl fewS (b, []) = st at *
      have dok : ∀ y ∈ st.1.map rD, y.okp = true := fun y hy => by
        obtain ⟨r, hr, rfl⟩ := List.mem_map.mp hy
        exact rD_okp (i1 r hr)
      refine wg_name 4 ?_ nd
      refine wss1 (ws_if (wt_cmp (we_var 4 rfl (we_var 2 rfl (o2_inD (k := 0) (j := 1) u2 (.d (rD_okp hrk)) (PdN.lst rfl dok) (shaped_row hrk) (shaped_rows i1) ⟨_, rfl, fun hc => ?_, fun hc => ?_⟩)))))
      · rw [any_pd, ← findIdx_any] at hc
        obtain ⟨j, hj⟩ := Option.isSome_iff_exists.mp hc
        refine wss1 (ws_expr (we_bm PySem.F.plainAttrs_list PySem.F.slot_list_remove PySem.F.type_list_remove (we_var 2 rfl ⟨ty_lst (.o rfl), wa_cons (we_var 4 rfl (wa_nil (om_remove (j := j) u0 rfl dok (rD_okp hrk) (rD_depth r) ?_ ?_)))⟩)))
        · rw [List.findIdx?_map]
          exact hj
        · refine ⟨[some (.d (dR a)), some (.d (dR b)), some (.o 0), some (.o 1), some .x], [some (lstR (fewS st r).1), some (lstR (fewS st r).2), some (lstR (sortR a))], Nat.le_refl _, ?_, by walk_at "wks", _, rfl, by rw [hst]⟩
          unfold fewS
          rw [hj]
          rw [← DT.map_erase]
          exact wkl_d (wkl_d (wkl_d .nil))
      · rw [any_pd, ← findIdx_any] at hc
        have hj : st.1.findIdx? (fun y => eqR y r) = none := by
          cases h : st.1.findIdx? (fun y => eqR y r) with
          | none => rfl
          | some j => rw [h] at hc; cases hc
        refine wss1 (ws_expr (we_bm PySem.F.plainAttrs_list PySem.F.slot_list_append PySem.F.type_list_append (we_var 3 rfl ⟨ty_lst (.o rfl), wa_cons (we_var 4 rfl (wa_nil (om_append (ws := (st.2.map rD).map .d) rfl ?_ ?_)))⟩)))
        · simp only [List.length_map]
          exact Nat.lt_of_lt_of_le (by omega : st.2.length < 50) (by decide)
        · refine ⟨[some (.d (dR a)), some (.d (dR b)), some (.o 0), some (.o 1), some .x], [some (lstR (fewS st r).1), some (lstR (fewS st r).2), some (lstR (sortR a))], Nat.le_refl _, ?_, by walk_at "wks", _, rfl, by rw [hst]⟩
          unfold fewS
          rw [hj]
          unfold lstR
          rw [List.map_append (f := rD)]
          exact wkl_d (wkl_app (wkl_d .nil))
    · rintro σ' O' ⟨y, rfl, rfl⟩
      rw [List.length_map, List.take_length]
      refine wss1 (ws_ret (we_var 3 rfl ?_))
      exact ⟨_, by simp, .drop (wkl_d .nil), rfl, q⟩
end
end K86

namespace K86
open PySem L2 Evl Vf PySem.W
open PyProof.Rows (listOrd itemOrd)
/-! rows of one kind: equal and less -/
theorem eqv_row {ks : List Bool} : ∀ {a b : Row} , OkR ks a → OkR ks b → (PyData.eqvAll (D.pds (a.map kD)) (D.pds (b.map kD)) = true ↔ a = b) := by
  intro a
  induction a generalizing ks with
  | nil =>
    intro b ha hb
    cases ks with
    | nil =>
      cases b with
      | nil => simp [D.pds, PyData.eqvAll]
      | cons y b => exact hb.elim
    | cons k ks => cases ha
  | cons x a ih =>
    intro b ha hb
    cases ks with
    | nil => exact ha.elim
    | cons k ks =>
      cases b with
      | nil => cases hb
      | cons y b =>
        have h2 := ih ha.2 hb.2
        simp only [List.map_cons, D.pds, PyData.eqvAll, Bool.and_eq_true, h2, List.cons.injEq]
        refine and_congr ?_ Iff.rfl
        have h3 := ha.1
        have h4 := hb.1
        cases k <;> cases x <;> cases y <;> first | exact h3.elim | exact h4.elim | simp [kD, D.pd, PyData.eqv]
def kt (a : Row) : List (Int ⊕ List Nat) := keyToks (rD a).pd
theorem le_def (a b : Row) : dataLe false (fun k : Row => (rD k).pd) a b = !(listOrd itemOrd).blt (kt b) (kt a) := rfl
theorem le_total (a b : Row) : (dataLe false (fun k : Row => (rD k).pd) a b || dataLe false (fun k : Row => (rD k).pd) b a) = true := by
  rw [le_def, le_def]
  cases h1 : (listOrd itemOrd).blt (kt b) (kt a) with
  | false => rfl
  | true =>
    cases h2 : (listOrd itemOrd).blt (kt a) (kt b) with
    | false => rfl
    | true =>
      have := (listOrd itemOrd).trans _ _ _ h1 h2
      rw [(listOrd itemOrd).irrefl] at this
      cases this
theorem le_trans (a b c : Row) (h1 : dataLe false (fun k : Row => (rD k).pd) a b = true) (h2 : dataLe false (fun k : Row => (rD k).pd) b c = true) : dataLe false (fun k : Row => (rD k).pd) a c = true := by
  rw [le_def, Bool.not_eq_true'] at h1 h2 ⊢
  cases h : (listOrd itemOrd).blt (kt c) (kt a) with
  | false => rfl
  | true =>
    rcases (listOrd itemOrd).negTrans _ (kt b) _ h with z | z
    · rw [h2] at z; cases z
    · rw [h1] at z; cases z
theorem kt_inj {ks : List Bool} : ∀ {a b : Row}, OkR ks a → OkR ks b → keyToksAll (D.pds (a.map kD)) = keyToksAll (D.pds (b.map kD)) → a = b := by
  intro a
  induction a generalizing ks with
  | nil =>
    intro b ha hb h
    cases ks with
    | nil =>
      cases b with
      | nil => rfl
      | cons y b => exact hb.elim
    | cons k ks => cases ha
  | cons x a ih =>
    intro b ha hb h
    cases ks with
    | nil => exact ha.elim
    | cons k ks =>
      cases b with
      | nil => cases hb
      | cons y b =>
        have h3 := ha.1
        have h4 := hb.1
        cases k <;> cases x <;> cases y <;> first
          | exact h3.elim
          | exact h4.elim
          | (simp only [List.map_cons, D.pds, kD, D.pd, toks_all_cons, keyToks, List.cons_append, List.nil_append, List.cons.injEq, true_and] at h
             obtain ⟨e, h⟩ := h
             have e2 := ih ha.2 hb.2 h
             subst e2
             first
               | (cases e; rfl)
               | (have e3 := str_of_cps (Sum.inr.inj e); rw [e3]))
theorem le_anti {ks : List Bool} {a b : Row} (ha : OkR ks a) (hb : OkR ks b) (h1 : dataLe false (fun k : Row => (rD k).pd) a b = true) (h2 : dataLe false (fun k : Row => (rD k).pd) b a = true) : a = b := by
  rw [le_def, Bool.not_eq_true'] at h1 h2
  have e : kt a = kt b := (listOrd itemOrd).total _ _ h2 h1
  refine kt_inj ha hb ?_
  have e2 : keyToks (rD a).pd = keyToks (rD b).pd := e
  rw [rD, rD, D.pd, D.pd, keyToks, keyToks] at e2
  exact e2
/-! counts -/
def cnt (r : Row) (l : List Row) : Nat := l.countP fun x => decide (x = r)
abbrev RLe (a b : Row) : Prop := dataLe false (fun k : Row => (rD k).pd) a b = true
theorem cnt_cons (r x : Row) (l : List Row) : cnt r (x :: l) = cnt r l + if x = r then 1 else 0 := by
  unfold cnt
  rw [List.countP_cons]
  by_cases h : x = r <;> simp [h]
theorem cnt_pos {r : Row} {l : List Row} : 0 < cnt r l ↔ r ∈ l := by
  unfold cnt
  rw [List.countP_pos_iff]
  constructor
  · rintro ⟨a, h1, h2⟩
    rw [← of_decide_eq_true h2]; exact h1
  · exact fun h => ⟨r, h, decide_eq_true rfl⟩
theorem sorted_ext {ks : List Bool} : ∀ {l1 l2 : List Row}, (∀ r ∈ l1, OkR ks r) → (∀ r ∈ l2, OkR ks r) → l1.Pairwise RLe → l2.Pairwise RLe → (∀ r, cnt r l1 = cnt r l2) → l1 = l2
  | [], [], _, _, _, _, _ => rfl
  | [], b :: l2, _, _, _, _, h => by
    have := h b
    rw [cnt_cons, if_pos rfl] at this
    simp [cnt] at this
  | a :: l1, [], _, _, _, _, h => by
    have := h a
    rw [cnt_cons, if_pos rfl] at this
    simp [cnt] at this
  | a :: l1, b :: l2, o1, o2, p1, p2, h => by
    have ha : a ∈ b :: l2 := cnt_pos.mp (by rw [← h a]; exact cnt_pos.mpr List.mem_cons_self)
    have hb : b ∈ a :: l1 := cnt_pos.mp (by rw [h b]; exact cnt_pos.mpr List.mem_cons_self)
    rw [List.pairwise_cons] at p1 p2
    have e : a = b := by
      rcases List.mem_cons.mp ha with e | ha
      · exact e
      rcases List.mem_cons.mp hb with e | hb
      · exact e.symm
      exact le_anti (o1 a List.mem_cons_self) (o2 b List.mem_cons_self) (p1.1 b hb) (p2.1 a ha)
    subst e
    rw [sorted_ext (fun r hr => o1 r (List.mem_cons_of_mem _ hr)) (fun r hr => o2 r (List.mem_cons_of_mem _ hr)) p1.2 p2.2 fun r => by
      have := h r
      rw [cnt_cons, cnt_cons] at this
      omega]
theorem sortR_sorted (l : List Row) : (sortR l).Pairwise RLe := List.pairwise_mergeSort le_trans le_total l
theorem cnt_sort (r : Row) (l : List Row) : cnt r (sortR l) = cnt r l := (List.mergeSort_perm l _).countP_eq _
end K86



namespace K86
open PySem L2 Evl Vf PySem.W
theorem eqR_iff {ks : List Bool} {a b : Row} (ha : OkR ks a) (hb : OkR ks b) : eqR a b = true ↔ a = b := by
  unfold eqR
  rw [rD, rD, D.pd, D.pd, PyData.eqv]
  exact eqv_row ha hb
theorem erase_cnt (x : Row) : ∀ {l : List Row} {j : Nat} {r : Row}, l[j]? = some r → cnt x l = cnt x (l.eraseIdx j) + if r = x then 1 else 0
  | y :: l, 0, r, h => by
    cases h
    rw [List.eraseIdx_cons_zero, cnt_cons]
  | y :: l, j + 1, r, h => by
    have := erase_cnt x (l := l) (j := j) (by simpa using h)
    rw [List.eraseIdx_cons_succ, cnt_cons, cnt_cons]
    omega
theorem cnt_app (x : Row) (l m : List Row) : cnt x (l ++ m) = cnt x l + cnt x m := List.countP_append
theorem few_cnt {ks : List Bool} : ∀ (rows : List Row), (∀ r ∈ rows, OkR ks r) → ∀ (s : List Row × List Row), (∀ r ∈ s.1, OkR ks r) → ∀ x, cnt x (rows.foldl fewS s).2 = cnt x s.2 + (cnt x rows - cnt x s.1)
  | [], _, s, _, x => by simp [cnt]
  | r :: rows, h, s, h1, x => by
    have hr := h r List.mem_cons_self
    have h' := fun r hr => h r (List.mem_cons_of_mem _ hr)
    rw [List.foldl_cons]
    cases hj : s.1.findIdx? (fun y => eqR y r) with
    | some j =>
      rw [show fewS s r = (s.1.eraseIdx j, s.2) by unfold fewS; rw [hj]]
      rw [few_cnt rows h' _ (fun y hy => h1 y (List.mem_of_mem_eraseIdx hy)) x, cnt_cons]
      obtain ⟨hl, he, _⟩ := List.findIdx?_eq_some_iff_getElem.mp hj
      have e := (eqR_iff (h1 _ (List.getElem_mem hl)) hr).mp he
      have hg : s.1[j]? = some r := by rw [List.getElem?_eq_getElem hl, e]
      have := erase_cnt x hg
      simp only
      by_cases hx : r = x
      · rw [if_pos hx] at this ⊢; omega
      · rw [if_neg hx] at this ⊢; omega
    | none =>
      rw [show fewS s r = (s.1, s.2 ++ [r]) by unfold fewS; rw [hj]]
      rw [few_cnt rows h' (s.1, s.2 ++ [r]) h1 x, cnt_cons]
      simp only
      rw [cnt_app, cnt_cons]
      have hn : r ∉ s.1 := fun hm => by
        rw [List.findIdx?_eq_none_iff] at hj
        have := hj r hm
        rw [(eqR_iff hr hr).mpr rfl] at this
        cases this
      by_cases hx : r = x
      · subst hx
        have : cnt r s.1 = 0 := Nat.eq_zero_of_not_pos fun h => hn (cnt_pos.mp h)
        have hz : cnt r ([] : List Row) = 0 := rfl
        rw [if_pos rfl, this, hz]
        omega
      · have hz : cnt x ([] : List Row) = 0 := rfl
        rw [if_neg hx, hz]
        omega
theorem few_sub : ∀ (rows : List Row) (s : List Row × List Row), (rows.foldl fewS s).2.Sublist (s.2 ++ rows)
  | [], s => by simp
  | r :: rows, s => by
    rw [List.foldl_cons]
    refine (few_sub rows _).trans ?_
    cases hj : s.1.findIdx? (fun y => eqR y r) with
    | some j =>
      rw [show fewS s r = (s.1.eraseIdx j, s.2) by unfold fewS; rw [hj]]
      exact List.Sublist.append_left (List.sublist_cons_self r rows) _
    | none =>
      rw [show fewS s r = (s.1, s.2 ++ [r]) by unfold fewS; rw [hj]]
      simp
theorem few_all {ks : List Bool} {a b : List Row} (ha : ∀ r ∈ a, OkR ks r) (hb : ∀ r ∈ b, OkR ks r) : (∀ x, cnt x (fewL a b).2 = cnt x a - cnt x b) ∧ (fewL a b).2.Pairwise RLe ∧ (∀ r ∈ (fewL a b).2, OkR ks r) ∧ (fewL a b).2.length ≤ a.length := by
  have hs : ∀ r ∈ sortR a, OkR ks r := fun r hr => ha r ((List.mergeSort_perm _ _).mem_iff.mp hr)
  have hsub : (fewL a b).2.Sublist (sortR a) := by
    have := few_sub (sortR a) (b, [])
    rw [List.nil_append] at this
    exact this
  refine ⟨fun x => ?_, (sortR_sorted a).sublist hsub, fun r hr => hs r (hsub.mem hr), ?_⟩
  · have := few_cnt (sortR a) hs (b, []) hb x
    rw [cnt_sort] at this
    rw [show cnt x ([] : List Row) = 0 from rfl, Nat.zero_add] at this
    exact this
  · have := hsub.length_le
    rwa [show (sortR a).length = a.length from List.length_mergeSort _] at this
theorem spr_cnt_aux (g : Row → Nat) (x : Row) : ∀ ks : List Row, ks.Nodup → (x ∈ ks → cnt x (ks.flatMap fun k => List.replicate (g k) k) = g x) ∧ (x ∉ ks → cnt x (ks.flatMap fun k => List.replicate (g k) k) = 0)
  | [], _ => ⟨fun h => (by cases h), fun _ => rfl⟩
  | k :: ks, nd => by
    rw [List.nodup_cons] at nd
    obtain ⟨h1, h2⟩ := spr_cnt_aux g x ks nd.2
    rw [List.flatMap_cons, cnt_app]
    have hrep : cnt x (List.replicate (g k) k) = if k = x then g k else 0 := by
      unfold cnt
      rw [List.countP_replicate]
      by_cases h : k = x <;> simp [h]
    rw [hrep]
    by_cases h : k = x
    · subst h
      refine ⟨fun _ => ?_, fun h => absurd List.mem_cons_self h⟩
      rw [h2 nd.1, if_pos rfl]; rfl
    · rw [if_neg h]
      refine ⟨fun hx => ?_, fun hx => ?_⟩
      · rcases List.mem_cons.mp hx with e | hx
        · exact absurd e.symm h
        · rw [h1 hx]; omega
      · rw [h2 fun hm => hx (List.mem_cons_of_mem _ hm)]
theorem le_refl' (a : Row) : RLe a a := by
  have := le_total a a
  rwa [Bool.or_self] at this
theorem spr_sorted_aux (g : Row → Nat) : ∀ ks : List Row, ks.Pairwise RLe → (ks.flatMap fun k => List.replicate (g k) k).Pairwise RLe
  | [], _ => .nil
  | k :: ks, p => by
    rw [List.pairwise_cons] at p
    rw [List.flatMap_cons, List.pairwise_append]
    refine ⟨?_, spr_sorted_aux g ks p.2, fun a ha b hb => ?_⟩
    · rw [List.pairwise_replicate]; exact .inr (le_refl' k)
    · rw [(List.mem_replicate.mp ha).2]
      obtain ⟨k', hk', hb⟩ := List.mem_flatMap.mp hb
      rw [(List.mem_replicate.mp hb).2]
      exact p.1 k' hk'
theorem spr_all {ks : List Bool} {b : Bag} (ho : ∀ p ∈ b, OkR ks p.1) (nd : (b.map (·.1)).Nodup) : (∀ x, cnt x (spr b) = (lk0 b x).toNat) ∧ (spr b).Pairwise RLe ∧ ∀ r ∈ spr b, OkR ks r := by
  have hp : (sortR (b.map (·.1))).Perm (b.map (·.1)) := List.mergeSort_perm _ _
  have nd' : (sortR (b.map (·.1))).Nodup := hp.nodup_iff.mpr nd
  refine ⟨fun x => ?_, spr_sorted_aux _ _ (sortR_sorted _), fun r hr => ?_⟩
  · obtain ⟨h1, h2⟩ := spr_cnt_aux (fun k => (lk0 b k).toNat) x _ nd'
    by_cases hx : x ∈ b.map (·.1)
    · exact h1 (hp.mem_iff.mpr hx)
    · rw [lk0_not hx]
      exact h2 fun h => hx (hp.mem_iff.mp h)
  · obtain ⟨k, hk, hr⟩ := List.mem_flatMap.mp hr
    rw [(List.mem_replicate.mp hr).2]
    obtain ⟨p, hp', e⟩ := List.mem_map.mp (hp.mem_iff.mp hk)
    rw [← e]; exact ho p hp'
theorem bag_cnt (rows : List Row) (x : Row) : lk0 (bagOf rows) x = cnt x rows := by
  suffices h : ∀ (rows : List Row) (b : Bag), (b.map (·.1)).Nodup → lk0 (rows.foldl (fun b r => putG b r (lk0 b r + 1)) b) x = lk0 b x + cnt x rows by
    have := h rows [] List.nodup_nil
    rw [show lk0 [] x = 0 from rfl, Int.zero_add] at this
    exact this
  intro rows
  induction rows with
  | nil => intro b _; simp [cnt]
  | cons r rows ih =>
    intro b nd
    rw [List.foldl_cons, ih _ (put_nodup nd _ _), lk0_put _ _ _ _ nd, cnt_cons]
    by_cases h : x = r
    · subst h; rw [if_pos rfl, if_pos rfl]; omega
    · rw [if_neg h, if_neg (Ne.symm h)]; rfl
theorem sub_cnt (rows : List Row) (x : Row) : ∀ (b : Bag), (b.map (·.1)).Nodup → lk0 (subR b rows) x = lk0 b x - cnt x rows := by
  unfold subR
  induction rows with
  | nil => intro b _; simp [cnt]
  | cons r rows ih =>
    intro b nd
    rw [List.foldl_cons, ih _ (add_nodup nd _ _), lk0_add _ _ _ _ nd, cnt_cons]
    by_cases h : x = r
    · subst h; rw [if_pos rfl, if_pos rfl]; omega
    · rw [if_neg h, if_neg (Ne.symm h)]; omega
theorem all_cnt (more : Bag) (x : Row) : ∀ (b : Bag), (b.map (·.1)).Nodup → (more.map (·.1)).Nodup → lk0 (allR b more) x = lk0 b x + lk0 more x := by
  unfold allR
  induction more with
  | nil => intro b _ _; rw [show lk0 [] x = 0 from rfl]; simp
  | cons p more ih =>
    intro b nd nm
    rw [List.map_cons, List.nodup_cons] at nm
    rw [List.foldl_cons, ih _ (add_nodup nd _ _) nm.2, lk0_add _ _ _ _ nd]
    by_cases h : x = p.1
    · subst h
      rw [if_pos rfl, lk0_not nm.1, show lk0 (p :: more) p.1 = p.2 by simp [lk0, lkG]]
      omega
    · have : lk0 (p :: more) x = lk0 more x := by simp [lk0, lkG, List.find?_cons, Ne.symm h]
      rw [if_neg h, this]
theorem sel_lk (f : Int → Option Int) (h0 : f 0 = none) (b : Bag) (x : Row) : lk0 (selB f b (b.map (·.1))) x = (f (lk0 b x)).getD 0 := by
  by_cases hx : x ∈ b.map (·.1)
  · exact (sel_ok f b _).2.2.2 x hx
  · rw [lk0_not hx, h0, lk0_not]
    · rfl
    · intro hm
      obtain ⟨p, hp, rfl⟩ := List.mem_map.mp hm
      exact hx ((sel_ok f b _).2.2.1 p hp).1
theorem gone_eq {ks : List Bool} {b : Bag} (ho : ∀ p ∈ b, OkR ks p.1) {l : List Row} (hl : ∀ r ∈ l, OkR ks r) (hs : l.Pairwise RLe) (f : Int → Option Int) (h0 : f 0 = none) (hc : ∀ x, ((f (lk0 b x)).getD 0).toNat = cnt x l) : spr (selB f b (b.map (·.1))) = l := by
  obtain ⟨h1, h2, h3, h4⟩ := sel_ok f b (b.map (·.1))
  have ho' : ∀ p ∈ selB f b (b.map (·.1)), OkR ks p.1 := fun p hp => by
    obtain ⟨q, hq, e⟩ := List.mem_map.mp (h3 p hp).1
    rw [← e]; exact ho q hq
  obtain ⟨s1, s2, s3⟩ := spr_all ho' h2
  refine sorted_ext s3 hl s2 hs fun x => ?_
  rw [s1, sel_lk f h0, hc]
theorem fGone_val (m : Int) : (((fGone m).getD 0).toNat : Int) = if m < 0 then -m else 0 := by
  unfold fGone
  split
  · simp; omega
  · rfl
theorem fCome_val (m : Int) : (((fCome m).getD 0).toNat : Int) = if 0 < m then m else 0 := by
  unfold fCome
  split
  · simp; omega
  · rfl
section
variable {ks : List Bool} {a b c : List Row}
theorem law_parts {bg : Bag} (ho : ∀ p ∈ bg, OkR ks p.1) (ha : ∀ r ∈ a, OkR ks r) (hb : ∀ r ∈ b, OkR ks r) (h : ∀ x, lk0 bg x = cnt x b - cnt x a) : spr (goneB bg) = (fewL a b).2 ∧ spr (comeB bg) = (fewL b a).2 := by
  obtain ⟨f1, f2, f3, _⟩ := few_all ha hb
  obtain ⟨g1, g2, g3, _⟩ := few_all hb ha
  refine ⟨gone_eq ho f3 f2 fGone rfl fun x => ?_, gone_eq ho g3 g2 fCome rfl fun x => ?_⟩
  · have := fGone_val (lk0 bg x)
    rw [f1]
    rw [h] at this ⊢
    split at this <;> omega
  · have := fCome_val (lk0 bg x)
    rw [g1]
    rw [h] at this ⊢
    split at this <;> omega
theorem law_diff (ha : ∀ r ∈ a, OkR ks r) (hb : ∀ r ∈ b, OkR ks r) : spr (goneB (chB a b)) = (fewL a b).2 ∧ spr (comeB (chB a b)) = (fewL b a).2 := by
  have i := (BInv.of ks b hb).sub a ha
  refine law_parts i.ok ha hb fun x => ?_
  rw [chB, sub_cnt _ _ _ (BInv.of ks b hb).nd, bag_cnt]
theorem law_join (ha : ∀ r ∈ a, OkR ks r) (hb : ∀ r ∈ b, OkR ks r) (hc : ∀ r ∈ c, OkR ks r) : spr (goneB (jnB (fewL a b).2 (fewL b a).2 (fewL b c).2 (fewL c b).2)) = (fewL a c).2 ∧ spr (comeB (jnB (fewL a b).2 (fewL b a).2 (fewL b c).2 (fewL c b).2)) = (fewL c a).2 := by
  obtain ⟨p1, _, p3, _⟩ := few_all ha hb
  obtain ⟨q1, _, q3, _⟩ := few_all hb ha
  obtain ⟨r1, _, r3, _⟩ := few_all hb hc
  obtain ⟨s1, _, s3, _⟩ := few_all hc hb
  have o1 : ∀ r ∈ (fewL b a).2 ++ (fewL c b).2, OkR ks r := fun r h => (List.mem_append.mp h).elim (q3 r) (s3 r)
  have o2 : ∀ r ∈ (fewL a b).2 ++ (fewL b c).2, OkR ks r := fun r h => (List.mem_append.mp h).elim (p3 r) (r3 r)
  have i := (BInv.of ks _ o1).sub _ o2
  refine law_parts i.ok ha hc fun x => ?_
  rw [jnB, sub_cnt _ _ _ (BInv.of ks _ o1).nd, bag_cnt, cnt_app, cnt_app, p1, q1, r1, s1]
  omega
theorem law_chg (ha : ∀ r ∈ a, OkR ks r) (hb : ∀ r ∈ b, OkR ks r) : spr (cgB a (fewL a b).2 (fewL b a).2) = sortR b := by
  obtain ⟨p1, _, p3, _⟩ := few_all ha hb
  obtain ⟨q1, _, q3, _⟩ := few_all hb ha
  have ia := BInv.of ks a ha
  have ic := BInv.of ks _ q3
  have i := (ia.all (v := (fewL b a).2.length) (by omega) _ fun p hp => ⟨ic.ok p hp, ic.bd p hp⟩).sub _ p3
  obtain ⟨s1, s2, s3⟩ := spr_all i.ok i.nd
  refine sorted_ext s3 (fun r hr => hb r ((List.mergeSort_perm _ _).mem_iff.mp hr)) s2 (sortR_sorted b) fun x => ?_
  rw [cgB, s1, sub_cnt _ _ _ (ia.all (v := (fewL b a).2.length) (by omega) _ fun p hp => ⟨ic.ok p hp, ic.bd p hp⟩).nd, all_cnt _ _ _ ia.nd ic.nd, bag_cnt, bag_cnt, p1, q1, cnt_sort]
  omega
theorem few_self (ha : ∀ r ∈ a, OkR ks r) : (fewL a a).2 = [] := by
  obtain ⟨p1, _, _, _⟩ := few_all ha ha
  cases h : (fewL a a).2 with
  | nil => rfl
  | cons r l =>
    have := p1 r
    rw [h, cnt_cons, if_pos rfl] at this
    omega
end
end K86

namespace K86
open PySem L2 Evl Vf PySem.W TL
abbrev sRight : Stmt := top 18
abbrev nmRight : List Str := ["before", "between", "after", "copies", "first", "second", "joined"]
theorem scRight : FnScope nmRight ["before", "between", "after"] (defScope sRight) := ⟨rfl, rfl, rfl, by decide +kernel, rfl, by decide +kernel, by decide +kernel⟩
def OkN (ks : List Bool) (rows : List Row) : Prop := (∀ r ∈ rows, OkR ks r) ∧ rows.length ≤ 15
def spRight : FS := fun ws O Q => ∃ (a b c : List Row) (ks : List Bool), ws = [.d (dR a), .d (dR b), .d (dR c)] ∧ O = [] ∧ ks ≠ [] ∧ OkN ks a ∧ OkN ks b ∧ OkN ks c ∧ Q (.d (dB true)) []
theorem mrg_lst {s : Nat} {l : List Row} {O : Ob} : mrg [s] [some (lstR l)] O = O.set s (some (lstR l)) := mrg1
theorem renR (f : Nat → Nat) (l : List Row) : renO f (lstR l) = lstR l := by unfold lstR renO; rw [rens_d]
theorem mrg_few {l : List Row} {O : Ob} : mrg [] [none, some (lstR l)] O = O ++ [none, some (lstR l)] := by simp [mrg, putAll, renR]
theorem mrg_ld {l m : List Row} {O : Ob} : mrg [] [none, some (lstR l), none, some (lstR m)] O = O ++ [none, some (lstR l), none, some (lstR m)] := by simp [mrg, putAll, renR]
theorem mrg_df {l m : List Row} {O : Ob} : mrg [] [none, none, none, some (lstR l), some (lstR m)] O = O ++ [none, none, none, some (lstR l), some (lstR m)] := by simp [mrg, putAll, renR]
theorem mrg_cg {l : List Row} {O : Ob} : mrg [] [none, none, some (lstR l)] O = O ++ [none, none, some (lstR l)] := by simp [mrg, putAll, renR]
theorem mrg_pr {i j : Nat} {l m : List Row} {O : Ob} : mrg [i, j] [some (lstR l), some (lstR m)] O = (O.set j (some (lstR m))).set i (some (lstR l)) := by simp [mrg, putAll, renR]
def baseO (a b c : List Row) : Ob := [some (lstR a), some (lstR b), some (lstR c), some (.lst, [.o 0, .o 1, .o 2]), none, none, none, some (lstR (fewL a b).2), some (lstR (fewL b a).2), none, none, none, some (lstR (fewL b c).2), some (lstR (fewL c b).2)]
theorem pdn_lst {ks : List Bool} {O : Ob} {i : Nat} {x : List Row} (e1 : O[i]? = some (some (lstR x))) (o1 : ∀ r ∈ x, OkR ks r) : PdN O 1 (.o i) (pR x) := PdN.lst e1 fun y hy => by
  obtain ⟨r, hr, rfl⟩ := List.mem_map.mp hy
  exact rD_okp (o1 r hr)
theorem pdn_pair {ks : List Bool} {O : Ob} {i j : Nat} {x y : List Row} (e1 : O[i]? = some (some (lstR x))) (e2 : O[j]? = some (some (lstR y))) (o1 : ∀ r ∈ x, OkR ks r) (o2 : ∀ r ∈ y, OkR ks r) : PdN O 2 (.t [.o i, .o j]) (.tuple [pR x, pR y]) :=
  .t rfl fun n w p h1 h2 => by
    rcases n with _ | _ | n
    · cases h1; cases h2; exact pdn_lst e1 o1
    · cases h1; cases h2; exact pdn_lst e2 o2
    · simp at h1
theorem eqv_lay {p : PyData} (h : p.canLay0 = true) : PyData.eqv p p = true := SeqAt.eqv_refl_plain _ (PyData.plain_of_canLay0 _ h)
theorem eqv_two {ks : List Bool} {x y : List Row} (o1 : ∀ r ∈ x, OkR ks r) (o2 : ∀ r ∈ y, OkR ks r) : PyData.eqv (.tuple [pR x, pR y]) (.tuple [pR x, pR y]) = true := eqv_lay (SeqAt.canLay_of_shaped (shaped_two o1 o2))
def lst2 (l : List Row) : Hd × List D := (.lst, l.map rD)
theorem two_at {O : Ob} {i j : Nat} {x y : List Row} (e1 : O[i]? = some (some (lstR x))) (e2 : O[j]? = some (some (lstR y))) : ∀ (k : Nat) n, [i, j][k]? = some n → O[n]? = ([lst2 x, lst2 y][k]?).map fun z => some (z.1, z.2.map W.d) := fun k n en => by
  rcases k with _ | _ | k
  · cases en; exact e1
  · cases en; exact e2
  · simp at en
theorem vw_t {bor : Lent} {f : Nat → Nat} {i j : Nat} {ws wc : List W} (e1 : f 0 = i) (e2 : f 1 = j) (h : Vw bor f ws wc) : Vw bor f (.t [.o i, .o j] :: ws) (.t [.o 0, .o 1] :: wc) := by
  have := Vw.same (bor := bor) (f := f) (w := .t [.o 0, .o 1]) h
  simp only [W.ren, W.rens] at this
  rw [e1, e2] at this
  exact this
theorem sortR_ok {ks : List Bool} {l : List Row} (h : ∀ r ∈ l, OkR ks r) : ∀ r ∈ sortR l, OkR ks r := fun r hr => h r ((List.mergeSort_perm _ _).mem_iff.mp hr)
theorem lent2 {O : Ob} {i j : Nat} {x y : List Row} (e1 : O[i]? = some (some (lstR x))) (e2 : O[j]? = some (some (lstR y))) : ∀ p ∈ ([(i, x.map rD), (j, y.map rD)] : Lent), O[p.1]? = some (some (.lst, p.2.map .d)) := fun p hp => by
  rcases List.mem_cons.mp hp with rfl | hp
  · exact e1
  · rw [List.mem_singleton.mp hp]; exact e2
theorem imm_cg {l : List Row} : ∀ x, some x ∈ ([none, none, some (lstR l)] : Ob) → W.imms x.2 = true := fun x hx => by
  have : x = lstR l := by simpa using hx
  rw [this]
  exact imms_rows l
def baseJ (a b c : List Row) : Ob := [some (lstR a), some (lstR b), some (lstR c), some (.lst, [.o 0, .o 1, .o 2]), none, none, none, some (lstR (fewL a b).2), some (lstR (fewL b a).2), none, none, none, some (lstR (fewL b c).2), some (lstR (fewL c b).2), none, none, none, none, none, some (lstR (fewL a c).2), some (lstR (fewL c a).2)]
theorem lfit {ks : List Bool} {l : List Row} (h : OkL ks l) : ((l.map rD).map W.d).length < sizeLine := by
  rw [List.length_map, List.length_map]
  exact Nat.lt_of_le_of_lt h.2 (by decide)
theorem four_at {O : Ob} {i j k l : Nat} {x y z u : List Row} (e1 : O[i]? = some (some (lstR x))) (e2 : O[j]? = some (some (lstR y))) (e3 : O[k]? = some (some (lstR z))) (e4 : O[l]? = some (some (lstR u))) : ∀ (m : Nat) n, [i, j, k, l][m]? = some n → O[n]? = ([lst2 x, lst2 y, lst2 z, lst2 u][m]?).map fun z => some (z.1, z.2.map W.d) := fun m n en => by
  rcases m with _ | _ | _ | _ | m
  · cases en; exact e1
  · cases en; exact e2
  · cases en; exact e3
  · cases en; exact e4
  · simp at en
theorem vw_t2 {bor : Lent} {f : Nat → Nat} {i j p q : Nat} {ws wc : List W} (e1 : f p = i) (e2 : f q = j) (h : Vw bor f ws wc) : Vw bor f (.t [.o i, .o j] :: ws) (.t [.o p, .o q] :: wc) := by
  have := Vw.same (bor := bor) (f := f) (w := .t [.o p, .o q]) h
  simp only [W.ren, W.rens] at this
  rw [e1, e2] at this
  exact this
theorem mrg_jn {i j k l : Nat} {a b c d x y : List Row} {O : Ob} : mrg [i, j, k, l] [some (lstR a), some (lstR b), some (lstR c), some (lstR d), none, none, none, none, none, some (lstR x), some (lstR y)] O = ((((O.set l (some (lstR d))).set k (some (lstR c))).set j (some (lstR b))).set i (some (lstR a))) ++ [none, none, none, none, none, some (lstR x), some (lstR y)] := by simp [mrg, putAll, renR]
theorem pdn_three {ks : List Bool} {O : Ob} {n : Nat} {a b c : List Row} (e : O[n]? = some (some (.lst, [.o 0, .o 1, .o 2]))) (e1 : O[0]? = some (some (lstR a))) (e2 : O[1]? = some (some (lstR b))) (e3 : O[2]? = some (some (lstR c))) (o1 : ∀ r ∈ a, OkR ks r) (o2 : ∀ r ∈ b, OkR ks r) (o3 : ∀ r ∈ c, OkR ks r) : PdN O 2 (.o n) (.list [pR a, pR b, pR c]) :=
  .o e rfl fun i w p h1 h2 => by
    rcases i with _ | _ | _ | i
    · cases h1; cases h2; exact pdn_lst e1 o1
    · cases h1; cases h2; exact pdn_lst e2 o2
    · cases h1; cases h2; exact pdn_lst e3 o3
    · simp at h1
theorem pdn_data {ks : List Bool} {O : Ob} {n : Nat} {a b c : List Row} (e : O[n]? = some (some (.lst, [.d (dR a), .d (dR b), .d (dR c)]))) (o1 : ∀ r ∈ a, OkR ks r) (o2 : ∀ r ∈ b, OkR ks r) (o3 : ∀ r ∈ c, OkR ks r) : PdN O 2 (.o n) (.list [pR a, pR b, pR c]) := by
  have hd : ∀ {x : List Row}, (∀ r ∈ x, OkR ks r) → PdN O 1 (.d (dR x)) (pR x) := fun {x} h => by
    rw [← pR_pd]
    exact .d (dR_okp h)
  exact .o e rfl fun i w p h1 h2 => by
    rcases i with _ | _ | _ | i
    · cases h1; cases h2; exact hd o1
    · cases h1; cases h2; exact hd o2
    · cases h1; cases h2; exact hd o3
    · simp at h1
local macro_rules
  | `(tactic| walk_at "go") => `(tactic| first
    | ((with_reducible show WE _ (.Constant _ _ _) _ _ _) <;> first | refine we_int ?_ | refine we_str ?_ | refine we_bl ?_ | refine we_non ?_)
    | ((with_reducible show WE _ (.BinOp _ _ _ _) _ _ _) <;> first | refine we_op ?_)
    | ((with_reducible show WE _ (.Compare _ [_] _ _) _ _ _) <;> first | refine we_cmp ?_)
    | ((with_reducible show WE _ (.UnaryOp .USub _ _) _ _ _) <;> first | refine we_un ?_)
    | ((with_reducible show WE _ (.UnaryOp .Not _ _) _ _ _) <;> first | refine we_not ?_)
    | ((with_reducible show WE _ (.Subscript _ (.Slice _ _ _ _) _) _ _ _) <;> first | refine we_sliceL ?_)
    | ((with_reducible show WE _ (.Subscript _ _ _) _ _ _) <;> first | refine we_ix ?_)
    | ((with_reducible show WE _ (.IfExp _ _ _ _) _ _ _) <;> first | refine we_ifExp ?_)
    | ((with_reducible show WE _ (.Tuple _ _ _) _ _ _) <;> first | refine we_tup ?_)
    | ((with_reducible show WE _ (.List _ _) _ _ _) <;> first | refine we_lst ?_)
    | ((with_reducible show WE _ (.Call (.Name "int" _) _ _ _) _ _ _) <;> first | refine we_callTy (T := "int") ?_ (by assumption))
    | ((with_reducible show WE _ (.Name "int" _) _ _ _) <;> first | refine we_tyv (n := "int") (by assumption) ?_)
    | ((with_reducible show WE _ (.Call (.Name "list" _) _ _ _) _ _ _) <;> first | refine we_callTy (T := "list") ?_ (by assumption))
    | ((with_reducible show WE _ (.Name "list" _) _ _ _) <;> first | refine we_tyv (n := "list") (by assumption) ?_)
    | ((with_reducible show WE _ (.Call (.Name "tuple" _) _ _ _) _ _ _) <;> first | refine we_callTy (T := "tuple") ?_ (by assumption))
    | ((with_reducible show WE _ (.Name "tuple" _) _ _ _) <;> first | refine we_tyv (n := "tuple") (by assumption) ?_)
    | ((with_reducible show WE _ (.Call (.Name "str" _) _ _ _) _ _ _) <;> first | refine we_callTy (T := "str") ?_ (by assumption))
    | ((with_reducible show WE _ (.Name "str" _) _ _ _) <;> first | refine we_tyv (n := "str") (by assumption) ?_)
    | ((with_reducible show WE _ (.Call (.Name "dict" _) _ _ _) _ _ _) <;> first | refine we_callTy (T := "dict") ?_ (by assumption))
    | ((with_reducible show WE _ (.Name "dict" _) _ _ _) <;> first | refine we_tyv (n := "dict") (by assumption) ?_)
    | ((with_reducible show WE _ (.Call (.Name "bool" _) _ _ _) _ _ _) <;> first | refine we_callTy (T := "bool") ?_ (by assumption))
    | ((with_reducible show WE _ (.Name "bool" _) _ _ _) <;> first | refine we_tyv (n := "bool") (by assumption) ?_)
    | ((with_reducible show WE _ (.Call (.Name "len" _) _ _ _) _ _ _) <;> first | refine we_callB (id := "len") ?_ (by assumption))
    | ((with_reducible show WE _ (.Call (.Name "max" _) _ _ _) _ _ _) <;> first | refine we_callB (id := "max") ?_ (by assumption))
    | ((with_reducible show WE _ (.Call (.Name "min" _) _ _ _) _ _ _) <;> first | refine we_callB (id := "min") ?_ (by assumption))
    | ((with_reducible show WE _ (.Call (.Name "sorted" _) _ _ _) _ _ _) <;> first | refine we_callB (id := "sorted") ?_ (by assumption))
    | ((with_reducible show WE _ (.Call (.Name "isinstance" _) _ _ _) _ _ _) <;> first | refine we_callB (id := "isinstance") ?_ (by assumption))
    | ((with_reducible show WE _ (.Call (.Name "sum" _) _ _ _) _ _ _) <;> first | refine we_callB (id := "sum") ?_ (by assumption))
    | ((with_reducible show WE _ (.Call (.Name "repr" _) _ _ _) _ _ _) <;> first | refine we_callB (id := "repr") ?_ (by assumption))
    | ((with_reducible show WE _ (.Call (.Name "abs" _) _ _ _) _ _ _) <;> first | refine we_callB (id := "abs") ?_ (by assumption))
    | ((with_reducible show WE _ (.Call (.Name "ord" _) _ _ _) _ _ _) <;> first | refine we_callB (id := "ord") ?_ (by assumption))
    | ((with_reducible show WE _ (.Call (.Name "chr" _) _ _ _) _ _ _) <;> first | refine we_callB (id := "chr") ?_ (by assumption))
    | ((with_reducible show WE _ (.Name _ _) _ _ _) <;> first | refine we_var 0 rfl ?_ | refine we_var 1 rfl ?_ | refine we_var 2 rfl ?_ | refine we_var 3 rfl ?_ | refine we_var 4 rfl ?_ | refine we_var 5 rfl ?_ | refine we_var 6 rfl ?_ | refine we_var 7 rfl ?_ | refine we_var 8 rfl ?_ | refine we_var 9 rfl ?_ | refine we_var 10 rfl ?_ | refine we_var 11 rfl ?_ | refine we_var 12 rfl ?_ | refine we_var 13 rfl ?_)
    | ((with_reducible show WA _ ([]) _ _ _) <;> first | refine wa_nil ?_)
    | ((with_reducible show WA _ (_ :: _) _ _ _) <;> first | refine wa_cons ?_)
    | ((with_reducible show WO _ (none) _ _ _) <;> first | refine wo_none ?_)
    | ((with_reducible show WO _ (some _) _ _ _) <;> first | refine wo_some ?_)
    | ((with_reducible show WT _ (.Compare _ [_] _ _) _ _ _) <;> first | refine wt_cmp ?_)
    | ((with_reducible show WT _ (.BoolOp _ _ _) _ _ _) <;> first | refine wt_bool ?_)
    | ((with_reducible show WT _ (.UnaryOp .Not _ _) _ _ _) <;> first | refine wt_not ?_)
    | ((with_reducible show WW _ (.BoolOp .And [_] _) _ _ _) <;> first | refine ww_and1 ?_)
    | ((with_reducible show WW _ (.BoolOp .Or [_] _) _ _ _) <;> first | refine ww_or1 ?_)
    | ((with_reducible show WW _ (.BoolOp .And _ _) _ _ _) <;> first | refine ww_and ?_)
    | ((with_reducible show WW _ (.BoolOp .Or _ _) _ _ _) <;> first | refine ww_or ?_)
    | ((with_reducible show WG _ (.Name _ _) _ _ _ _) <;> first | refine wg_name 0 ?_ (by assumption) | refine wg_name 1 ?_ (by assumption) | refine wg_name 2 ?_ (by assumption) | refine wg_name 3 ?_ (by assumption) | refine wg_name 4 ?_ (by assumption) | refine wg_name 5 ?_ (by assumption) | refine wg_name 6 ?_ (by assumption) | refine wg_name 7 ?_ (by assumption) | refine wg_name 8 ?_ (by assumption) | refine wg_name 9 ?_ (by assumption) | refine wg_name 10 ?_ (by assumption) | refine wg_name 11 ?_ (by assumption) | refine wg_name 12 ?_ (by assumption) | refine wg_name 13 ?_ (by assumption))
    | ((with_reducible show WG _ (.Subscript _ _ _) _ _ _ _) <;> first | refine wg_sub ?_)
    | ((with_reducible show WGs _ ([]) _ _ _ _) <;> first | refine wgs_nil ?_)
    | ((with_reducible show WGs _ (_ :: _) _ _ _ _) <;> first | refine wgs_cons ?_)
    | ((with_reducible show WSs _ _ _ _ _ _) <;> first | refine wss1 ?_ | refine wss ?_ | refine wss_nil ?_)
    | ((with_reducible show WS _ _ ((.Return (some _) _)) _ _ _) <;> first | refine ws_ret ?_)
    | ((with_reducible show WS _ _ ((.Return none _)) _ _ _) <;> first | refine ws_retN ?_)
    | ((with_reducible show WS _ _ ((.If _ _ _ _)) _ _ _) <;> first | refine ws_if ?_)
    | ((with_reducible show WS _ _ ((.Expr _ _)) _ _ _) <;> first | refine ws_expr ?_)
    | ((with_reducible show WS _ _ ((.Pass _)) _ _ _) <;> first | refine ws_pass ?_)
    | ((with_reducible show WS _ _ ((.Break _)) _ _ _) <;> first | refine ws_break ?_)
    | ((with_reducible show WS _ _ ((.Continue _)) _ _ _) <;> first | refine ws_cont ?_)
    | ((with_reducible show WS _ _ ((.Assign [.Name _ _] _ _)) _ _ _) <;> first | refine ws_set 0 ?_ (by assumption) | refine ws_set 1 ?_ (by assumption) | refine ws_set 2 ?_ (by assumption) | refine ws_set 3 ?_ (by assumption) | refine ws_set 4 ?_ (by assumption) | refine ws_set 5 ?_ (by assumption) | refine ws_set 6 ?_ (by assumption) | refine ws_set 7 ?_ (by assumption) | refine ws_set 8 ?_ (by assumption) | refine ws_set 9 ?_ (by assumption) | refine ws_set 10 ?_ (by assumption) | refine ws_set 11 ?_ (by assumption) | refine ws_set 12 ?_ (by assumption) | refine ws_set 13 ?_ (by assumption))
    | ((with_reducible show WS _ _ ((.Assign _ _ _)) _ _ _) <;> first | refine ws_asg ?_)
    | ((with_reducible show O2 _ (binaryOp .Add) _ _ _ _) <;> first | refine o2_addI ?_)
    | ((with_reducible show O2 _ (binaryOp .Sub) _ _ _ _) <;> first | refine o2_subI ?_)
    | ((with_reducible show O2 _ (binaryOp .Mult) _ _ _ _) <;> first | refine o2_mulI (by decide) ?_ | refine o2_mulL (by omega) (by omega) ?_ | refine o2_mulR (by omega) (by omega) ?_)
    | ((with_reducible show O2 _ (binaryOp .Mod) _ _ _ _) <;> first | refine o2_modI (by decide) ?_ | refine o2_modI (by omega) ?_)
    | ((with_reducible show O2 _ (binaryOp .FloorDiv) _ _ _ _) <;> first | refine o2_divI (by decide) ?_ | refine o2_divI (by omega) ?_)
    | ((with_reducible show O2 _ (compareOp .Lt) _ _ _ _) <;> first | refine o2_lt ?_)
    | ((with_reducible show O2 _ (compareOp .LtE) _ _ _ _) <;> first | refine o2_le ?_)
    | ((with_reducible show O2 _ (compareOp .Gt) _ _ _ _) <;> first | refine o2_gt ?_)
    | ((with_reducible show O2 _ (compareOp .GtE) _ _ _ _) <;> first | refine o2_ge ?_)
    | ((with_reducible show O2 _ (compareOp .Eq) _ _ _ _) <;> first | refine o2_eqI ?_ | refine o2_eqS ?_)
    | ((with_reducible show O2 _ (compareOp .NotEq) _ _ _ _) <;> first | refine o2_neI ?_ | refine o2_neS ?_)
    | ((with_reducible show Vf.O1 _ (unaryOp .USub) _ _ _) <;> first | refine o1_neg ?_)
    | ((with_reducible show OC _ (.type "int") _ _ _) <;> first | refine oc_intI ?_ | refine oc_intB ?_)
    | ((with_reducible show OC _ (.builtin "len") _ _ _) <;> first | refine oc_lenL (.o rfl) ?_ | refine oc_lenL .d ?_)
    | ((with_reducible show OI _ _ _ _ _) <;> first | refine oi_lst (.o rfl) rfl ?_ | refine oi_lst .d rfl ?_)
    | ((with_reducible show OSet _ _ _ _ _ _) <;> first | refine os_lst rfl rfl ?_)
    | ((with_reducible show ∃ b, W.d (D.s (V.bl _)) = W.d (D.s (V.bl b)) ∧ _) <;> refine ⟨_, rfl, ?_⟩)
    | ((with_reducible show List.length _ ≤ 1000 ∧ ∃ xs, PureL _ xs ∧ _) <;> first | refine ⟨by simp, _, .nil, ?_⟩ | refine ⟨by simp, _, .cons .nil, ?_⟩ | refine ⟨by simp, _, .cons (.cons .nil), ?_⟩ | refine ⟨by simp, _, .cons (.cons (.cons .nil)), ?_⟩ | refine ⟨by simp, _, .cons (.cons (.cons (.cons .nil))), ?_⟩)
    | ((with_reducible show List.length _ ≤ 1000 ∧ _) <;> refine ⟨by simp, ?_⟩))
local macro_rules
  | `(tactic| walk_at "wkl") => `(tactic| repeat first | exact WkL.nil | refine wkl_d ?_ | refine wkl_n ?_ | refine WkL.drop ?_)
local macro_rules
  | `(tactic| walk_at "wks") => `(tactic| repeat first | exact WkS.nil | refine wks_d ?_ | refine wks_n ?_ | refine wks_x ?_ | refine wks_o (by first | decide | simp | omega) ?_ | refine WkS.junk ?_)
section
variable {P : Program} {w : World} {K : PySem.W.Frag} {mg : Str → Option Value} {base : Heap}
theorem ok_ldiff {f : Addr} {fd : FuncData} (F : Fun K "_law_difference" "_law_difference" sLDiff f fd) (D_few : DefOk P w K mg base "_law_fewer" 1 spFew) : FnOk P w K mg base CX0 2 f fd ["before", "after"] (lft K spLDiff) := by
  have nd := scLDiff.nd
  refine fn_wp F scLDiff (fun ws O Q h => ?_) (fun cdv A outer s H E ws O Q hr h => ?_)
  · obtain ⟨_, _, _, rfl, _⟩ := h
    rfl
  · obtain ⟨a, b, ks, rfl, rfl, hk, ha, hb, q⟩ := h
    refine wss1 (ws_ret (we_tupW (wa_cons (we_call D_few hr (wa_cons (we_var 0 rfl (wa_cons (we_var 1 rfl (wa_nil (cs_lent (bor := []) (fun p hp => nomatch hp) (vw_d (vw_d .nil)) ?_))))))))))
    refine ⟨a, b, ks, rfl, rfl, hk, ha, hb, .inl rfl, ?_⟩
    rw [mrg_few]
    refine wa_cons (we_call D_few hr (wa_cons (we_var 1 rfl (wa_cons (we_var 0 rfl (wa_nil (cs_lent (bor := []) (fun p hp => nomatch hp) (vw_d (vw_d .nil)) ?_)))))))
    refine ⟨b, a, ks, rfl, rfl, hk, hb, ha, .inl rfl, ?_⟩
    rw [mrg_few]
    exact wa_nil ⟨by simp, q⟩
theorem ok_pair {f : Addr} {fd : FuncData} (F : Fun K "_law_is_pair" "_law_is_pair" sPair f fd) (T : Txt K mg) : FnOk P w K mg base CX0 1 f fd ["thing"] (lft K spPair) := by
  have nd := scPair.nd
  have b1 := T.list
  have b2 := T.tuple
  have b3 := T.len
  have b4 := T.isi
  refine fn_wp F scPair (fun ws O Q h => ?_) (fun cdv A outer s H E ws O Q hr h => ?_)
  · obtain ⟨_, _, rfl, _⟩ := h
    rfl
  · obtain ⟨a, b, rfl, rfl, q⟩ := h
    refine wss (ws_if (wt_bool (ww_or (wt_not (wt_val (we_callB (id := "isinstance") (wa_cons (we_var 0 rfl (wa_cons (we_tyv (n := "tuple") b2 (wa_nil (oc_isi (.t .t) rfl ⟨_, rfl, fun _ => ?_, fun h => nomatch h⟩)))))) b4))))))
    refine ww_or1 (wt_cmp (we_callB (id := "len") (wa_cons (we_var 0 rfl (wa_nil (oc_lenT .t ?_)))) b3))
    repeat walk_at "go"
    refine ⟨fun h => absurd h (by decide), fun _ => ?_⟩
    refine wss_nil ?_
    refine wss1 (ws_ret (we_and (we_callB (id := "isinstance") ?_ b4)))
    refine wa_cons (we_ix (we_var 0 rfl (we_int (oi_tup .t rfl ?_))))
    refine wa_cons (we_tyv (n := "list") b1 (wa_nil (oc_isi (.l (.o (xs := a.map rD) rfl)) rfl ⟨_, rfl, fun _ => ?_, fun h => nomatch h⟩)))
    refine we_and1 (we_callB (id := "isinstance") ?_ b4)
    refine wa_cons (we_ix (we_var 0 rfl (we_int (oi_tup .t rfl ?_))))
    refine wa_cons (we_tyv (n := "list") b1 (wa_nil (oc_isi (.l (.o (xs := b.map rD) rfl)) rfl ?_)))
    exact q
theorem ok_right {f : Addr} {fd : FuncData} (F : Fun K "_law_right" "_law_right" sRight f fd) (T : Txt K mg) (D_diff : DefOk P w K mg base "difference_of" 3 spDiff) (D_chg : DefOk P w K mg base "rows_changed" 3 spChg) (D_join : DefOk P w K mg base "differences_joined" 3 spJoin)
    (D_ld : DefOk P w K mg base "_law_difference" 2 spLDiff) (D_pair : DefOk P w K mg base "_law_is_pair" 1 spPair) : FnOk P w K mg base CX0 4 f fd ["before", "between", "after"] (lft K spRight) := by
  have nd := scRight.nd
  have b1 := T.list
  have b2 := T.sorted
  refine fn_wp F scRight (fun ws O Q h => ?_) (fun cdv A outer s H E ws O Q hr h => ?_)
  · obtain ⟨_, _, _, _, rfl, _⟩ := h
    rfl
  · obtain ⟨a, b, c, ks, rfl, rfl, hk, ha, hb, hc, q⟩ := h
    have u0 : (A.deeper (PyProof.Rows.envOfC "_law_right" (defScope sRight) s.heap.objs.size f cdv)).units + 64 < cLine := hr.units
    have hr1 := hr.mono (j := 1) (by decide)
    have hr2 := hr.mono (j := 2) (by decide)
    have la : OkL ks a := ⟨ha.1, by have := ha.2; omega⟩
    have lb : OkL ks b := ⟨hb.1, by have := hb.2; omega⟩
    have lc : OkL ks c := ⟨hc.1, by have := hc.2; omega⟩
    have few : ∀ {x y : List Row}, OkN ks x → OkN ks y → OkL ks (fewL x y).2 := fun hx hy => by
      obtain ⟨_, _, h3, h4⟩ := few_all hx.1 hy.1
      exact ⟨h3, by have := hx.2; omega⟩
    refine wss_dn ?_
    refine wss (ws_set 3 (we_lst (wa_cons (we_callTy (T := "list") (wa_cons (we_var 0 rfl (wa_nil (oc_listL .d ?_)))) b1))) nd)
    refine wa_cons (we_callTy (T := "list") (wa_cons (we_var 1 rfl (wa_nil (oc_listL .d ?_)))) b1)
    refine wa_cons (we_callTy (T := "list") (wa_cons (we_var 2 rfl (wa_nil (oc_listL .d (wa_nil ⟨by simp, ?_⟩))))) b1)
    refine wss (ws_set 4 (we_call D_diff hr (wa_cons (we_var 0 rfl (wa_cons (we_var 1 rfl (wa_nil (cs_lent (bor := []) (fun p hp => nomatch hp) (vw_d (vw_d .nil)) ?_))))))) nd)
    refine ⟨a, b, ks, rfl, rfl, hk, la, lb, .inl rfl, ?_⟩
    rw [mrg_df, (law_diff ha.1 hb.1).1, (law_diff ha.1 hb.1).2]
    refine wss (ws_set 5 (we_call D_diff hr (wa_cons (we_var 1 rfl (wa_cons (we_var 2 rfl (wa_nil (cs_lent (bor := []) (fun p hp => nomatch hp) (vw_d (vw_d .nil)) ?_))))))) nd)
    refine ⟨b, c, ks, rfl, rfl, hk, lb, lc, .inl rfl, ?_⟩
    rw [mrg_df, (law_diff hb.1 hc.1).1, (law_diff hb.1 hc.1).2]
    have h1 := few ha hb
    have h2 := few hb ha
    have h3 := few hb hc
    have h4 := few hc hb
    refine wk (σ' := [some (.d (dR a)), some (.d (dR b)), some (.d (dR c)), some (.o 3), some (.t [.o 7, .o 8]), some (.t [.o 12, .o 13]), none]) (O' := baseO a b c) ?_ (Nat.zero_le _) ?_ ?_
    rotate_left
    · exact wkl_d (wkl_d (wkl_d (.same (fun y e => by cases e; rfl) (.drop (.drop (.drop (wkl_d (wkl_d (.drop (.drop (.drop (wkl_d (wkl_d .nil)))))))))))))
    · exact wks_d (wks_d (wks_d (wks_o (by show 3 < 14; decide) (.same (fun w e => by cases e; rfl) (.same (fun w e => by cases e; rfl) (wks_n .nil))))))
    have pr : ∀ {O : Ob} {i j : Nat} {x y : List Row}, O[i]? = some (some (lstR x)) → O[j]? = some (some (lstR y)) → OkL ks x → OkL ks y → PdN O 2 (.t [.o i, .o j]) (.tuple [pR x, pR y]) := fun e1 e2 o1 o2 => pdn_pair e1 e2 o1.1 o2.1
    have wbase : ∀ {R : Ob}, WkL (baseO a b c).length (baseO a b c ++ R) (baseO a b c) := fun {R} =>
      wkl_d (wkl_d (wkl_d (.same (fun y e => by cases e; rfl) (.drop (.drop (.drop (wkl_d (wkl_d (.drop (.drop (.drop (wkl_d (wkl_d .nil)))))))))))))
    have wslots : WkS (baseO a b c).length [some (.d (dR a)), some (.d (dR b)), some (.d (dR c)), some (.o 3), some (.t [.o 7, .o 8]), some (.t [.o 12, .o 13]), none] [some (.d (dR a)), some (.d (dR b)), some (.d (dR c)), some (.o 3), some (.t [.o 7, .o 8]), some (.t [.o 12, .o 13]), none] :=
      wks_d (wks_d (wks_d (wks_o (by show 3 < 14; decide) (.same (fun w e => by cases e; rfl) (.same (fun w e => by cases e; rfl) (wks_n .nil))))))
    -- first is a pair and right
    refine wss (ws_if (wt_bool (ww_or (wt_not (wt_val (we_call D_pair hr1 (wa_cons (we_var 4 rfl (wa_nil (cs_own (sel := [7, 8]) (wc := [.t [.o 0, .o 1]]) [lst2 (fewL a b).2, lst2 (fewL b a).2] (by decide) rfl (two_at rfl rfl) (vw_t rfl rfl .nil) ?_))))))))))
    refine ⟨_, _, rfl, rfl, .inl rfl, ?_⟩
    rw [mrg_pr]
    refine ⟨_, rfl, fun _ => ?_, fun h => nomatch h⟩
    refine ww_or1 (wt_cmp (we_var 4 rfl (we_call D_ld hr2 (wa_cons (we_var 0 rfl (wa_cons (we_var 1 rfl (wa_nil (cs_lent (bor := []) (fun p hp => nomatch hp) (vw_d (vw_d .nil)) ?_)))))))))
    refine ⟨a, b, ks, rfl, rfl, hk, la, lb, .inl rfl, ?_⟩
    rw [mrg_ld]
    refine o2_neD u0 (pr rfl rfl h1 h2) (pr rfl rfl h1 h2) (shaped_two h1.1 h2.1) (shaped_two h1.1 h2.1) ⟨false, (by rw [eqv_two h1.1 h2.1]; rfl), (fun h => nomatch h), fun _ => ?_⟩
    refine wss_nil ?_
    refine wk (σ' := [some (.d (dR a)), some (.d (dR b)), some (.d (dR c)), some (.o 3), some (.t [.o 7, .o 8]), some (.t [.o 12, .o 13]), none]) (O' := baseO a b c) ?_ (Nat.zero_le _) wbase wslots
    -- second is right
    refine wss (ws_if (wt_cmp (we_var 5 rfl (we_call D_ld hr2 (wa_cons (we_var 1 rfl (wa_cons (we_var 2 rfl (wa_nil (cs_lent (bor := []) (fun p hp => nomatch hp) (vw_d (vw_d .nil)) ?_)))))))))) 
    refine ⟨b, c, ks, rfl, rfl, hk, lb, lc, .inl rfl, ?_⟩
    rw [mrg_ld]
    refine o2_neD u0 (pr rfl rfl h3 h4) (pr rfl rfl h3 h4) (shaped_two h3.1 h4.1) (shaped_two h3.1 h4.1) ⟨false, (by rw [eqv_two h3.1 h4.1]; rfl), (fun h => nomatch h), fun _ => ?_⟩
    refine wss_nil ?_
    refine wk (σ' := [some (.d (dR a)), some (.d (dR b)), some (.d (dR c)), some (.o 3), some (.t [.o 7, .o 8]), some (.t [.o 12, .o 13]), none]) (O' := baseO a b c) ?_ (Nat.zero_le _) wbase wslots
    -- rows_changed, twice
    refine wss (ws_if (wt_cmp (we_call D_chg hr (wa_cons (we_var 0 rfl (wa_cons ?_))))))
    refine we_ix (we_var 4 rfl (we_int (oi_tup .t rfl (wa_cons ?_))))
    refine we_ix (we_var 4 rfl (we_int (oi_tup .t rfl (wa_nil ?_))))
    refine cs_lent (bor := [(7, (fewL a b).2.map rD), (8, (fewL b a).2.map rD)]) (lent2 rfl rfl) (vw_d (.lent (n := 7) List.mem_cons_self (.lent (n := 8) (List.mem_cons_of_mem _ List.mem_cons_self) .nil))) ?_
    refine ⟨a, _, _, ks, rfl, rfl, hk, la, h1, h2, .inr ⟨rfl, imm_cg⟩, ?_⟩
    rw [mrg_cg, law_chg ha.1 hb.1]
    refine we_callB (id := "sorted") (wa_cons (we_var 1 rfl (wa_nil (oc_sorted rD b u0 .d (fun r hr => rD_okp (hb.1 r hr)) (fun r hr r' hr' => rD_alike (hb.1 r hr) (hb.1 r' hr')) (sortable_rows hk hb.1) (fun r _ => rD_depth r) ?_)))) b2
    refine o2_neD u0 (pdn_lst (x := sortR b) rfl (sortR_ok hb.1)) (pdn_lst (x := sortR b) rfl (sortR_ok hb.1)) (shaped_rows (sortR_ok hb.1)) (shaped_rows (sortR_ok hb.1)) ⟨false, (by rw [eqv_lay (pR_lay (sortR_ok hb.1))]; rfl), (fun h => nomatch h), fun _ => ?_⟩
    refine wss_nil ?_
    refine wk (σ' := [some (.d (dR a)), some (.d (dR b)), some (.d (dR c)), some (.o 3), some (.t [.o 7, .o 8]), some (.t [.o 12, .o 13]), none]) (O' := baseO a b c) ?_ (Nat.zero_le _) wbase wslots
    refine wss (ws_if (wt_cmp (we_call D_chg hr (wa_cons (we_var 1 rfl (wa_cons ?_))))))
    refine we_ix (we_var 5 rfl (we_int (oi_tup .t rfl (wa_cons ?_))))
    refine we_ix (we_var 5 rfl (we_int (oi_tup .t rfl (wa_nil ?_))))
    refine cs_lent (bor := [(12, (fewL b c).2.map rD), (13, (fewL c b).2.map rD)]) (lent2 rfl rfl) (vw_d (.lent (n := 12) List.mem_cons_self (.lent (n := 13) (List.mem_cons_of_mem _ List.mem_cons_self) .nil))) ?_
    refine ⟨b, _, _, ks, rfl, rfl, hk, lb, h3, h4, .inr ⟨rfl, imm_cg⟩, ?_⟩
    rw [mrg_cg, law_chg hb.1 hc.1]
    refine we_callB (id := "sorted") (wa_cons (we_var 2 rfl (wa_nil (oc_sorted rD c u0 .d (fun r hr => rD_okp (hc.1 r hr)) (fun r hr r' hr' => rD_alike (hc.1 r hr) (hc.1 r' hr')) (sortable_rows hk hc.1) (fun r _ => rD_depth r) ?_)))) b2
    refine o2_neD u0 (pdn_lst (x := sortR c) rfl (sortR_ok hc.1)) (pdn_lst (x := sortR c) rfl (sortR_ok hc.1)) (shaped_rows (sortR_ok hc.1)) (shaped_rows (sortR_ok hc.1)) ⟨false, (by rw [eqv_lay (pR_lay (sortR_ok hc.1))]; rfl), (fun h => nomatch h), fun _ => ?_⟩
    refine wss_nil ?_
    refine wk (σ' := [some (.d (dR a)), some (.d (dR b)), some (.d (dR c)), some (.o 3), some (.t [.o 7, .o 8]), some (.t [.o 12, .o 13]), none]) (O' := baseO a b c) ?_ (Nat.zero_le _) wbase wslots
    refine wss (ws_set 6 (we_call D_join hr (wa_cons (we_var 4 rfl (wa_cons (we_var 5 rfl (wa_nil (cs_own (sel := [7, 8, 12, 13]) (wc := [.t [.o 0, .o 1], .t [.o 2, .o 3]]) [lst2 (fewL a b).2, lst2 (fewL b a).2, lst2 (fewL b c).2, lst2 (fewL c b).2] (by decide) rfl (four_at rfl rfl rfl rfl) (vw_t2 (p := 0) (q := 1) rfl rfl (vw_t2 (p := 2) (q := 3) rfl rfl .nil)) ?_))))))) nd)
    refine ⟨_, _, _, _, ks, rfl, rfl, hk, h1, h2, h3, h4, .inl rfl, ?_⟩
    rw [mrg_jn, (law_join ha.1 hb.1 hc.1).1, (law_join ha.1 hb.1 hc.1).2]
    have h5 := few ha hc
    have h6 := few hc ha
    have wbaseJ : ∀ {R : Ob}, WkL (baseJ a b c).length (baseJ a b c ++ R) (baseJ a b c) := fun {R} =>
      wkl_d (wkl_d (wkl_d (.same (fun y e => by cases e; rfl) (.drop (.drop (.drop (wkl_d (wkl_d (.drop (.drop (.drop (wkl_d (wkl_d (.drop (.drop (.drop (.drop (.drop (wkl_d (wkl_d .nil))))))))))))))))))))
    have wslotsJ : WkS (baseJ a b c).length [some (.d (dR a)), some (.d (dR b)), some (.d (dR c)), some (.o 3), some (.t [.o 7, .o 8]), some (.t [.o 12, .o 13]), some (.t [.o 19, .o 20])] [some (.d (dR a)), some (.d (dR b)), some (.d (dR c)), some (.o 3), some (.t [.o 7, .o 8]), some (.t [.o 12, .o 13]), some (.t [.o 19, .o 20])] :=
      wks_d (wks_d (wks_d (wks_o (by show 3 < 21; decide) (.same (fun w e => by cases e; rfl) (.same (fun w e => by cases e; rfl) (.same (fun w e => by cases e; rfl) .nil))))))
    refine wk (σ' := [some (.d (dR a)), some (.d (dR b)), some (.d (dR c)), some (.o 3), some (.t [.o 7, .o 8]), some (.t [.o 12, .o 13]), some (.t [.o 19, .o 20])]) (O' := baseJ a b c) ?_ (Nat.zero_le _) (wbaseJ (R := [])) wslotsJ
    refine wss (ws_if (wt_bool (ww_or (wt_not (wt_val (we_call D_pair hr1 (wa_cons (we_var 6 rfl (wa_nil (cs_own (sel := [19, 20]) (wc := [.t [.o 0, .o 1]]) [lst2 (fewL a c).2, lst2 (fewL c a).2] (by decide) rfl (two_at rfl rfl) (vw_t rfl rfl .nil) ?_))))))))))
    refine ⟨_, _, rfl, rfl, .inl rfl, ?_⟩
    rw [mrg_pr]
    refine ⟨_, rfl, fun _ => ?_, fun h => nomatch h⟩
    refine ww_or1 (wt_cmp (we_var 6 rfl (we_call D_ld hr2 (wa_cons (we_var 0 rfl (wa_cons (we_var 2 rfl (wa_nil (cs_lent (bor := []) (fun p hp => nomatch hp) (vw_d (vw_d .nil)) ?_)))))))))
    refine ⟨a, c, ks, rfl, rfl, hk, la, lc, .inl rfl, ?_⟩
    rw [mrg_ld]
    refine o2_neD u0 (pr rfl rfl h5 h6) (pr rfl rfl h5 h6) (shaped_two h5.1 h6.1) (shaped_two h5.1 h6.1) ⟨false, (by rw [eqv_two h5.1 h6.1]; rfl), (fun h => nomatch h), fun _ => ?_⟩
    refine wss_nil ?_
    refine wk (σ' := [some (.d (dR a)), some (.d (dR b)), some (.d (dR c)), some (.o 3), some (.t [.o 7, .o 8]), some (.t [.o 12, .o 13]), some (.t [.o 19, .o 20])]) (O' := baseJ a b c) ?_ (Nat.zero_le _) wbaseJ wslotsJ
    refine wss (ws_if (wt_bool (ww_or (wt_cmp (we_var 4 rfl (we_call D_ld hr2 (wa_cons (we_var 0 rfl (wa_cons (we_var 1 rfl (wa_nil (cs_lent (bor := []) (fun p hp => nomatch hp) (vw_d (vw_d .nil)) ?_))))))))))))
    refine ⟨a, b, ks, rfl, rfl, hk, la, lb, .inl rfl, ?_⟩
    rw [mrg_ld]
    refine o2_neD u0 (pr rfl rfl h1 h2) (pr rfl rfl h1 h2) (shaped_two h1.1 h2.1) (shaped_two h1.1 h2.1) ⟨false, (by rw [eqv_two h1.1 h2.1]; rfl), (fun _ => ?_), fun h => nomatch h⟩
    refine ww_or1 (wt_cmp (we_var 5 rfl (we_call D_ld hr2 (wa_cons (we_var 1 rfl (wa_cons (we_var 2 rfl (wa_nil (cs_lent (bor := []) (fun p hp => nomatch hp) (vw_d (vw_d .nil)) ?_)))))))))
    refine ⟨b, c, ks, rfl, rfl, hk, lb, lc, .inl rfl, ?_⟩
    rw [mrg_ld]
    refine o2_neD u0 (pr rfl rfl h3 h4) (pr rfl rfl h3 h4) (shaped_two h3.1 h4.1) (shaped_two h3.1 h4.1) ⟨false, (by rw [eqv_two h3.1 h4.1]; rfl), (fun h => nomatch h), fun _ => ?_⟩
    refine wss_nil ?_
    refine wk (σ' := [some (.d (dR a)), some (.d (dR b)), some (.d (dR c)), some (.o 3), some (.t [.o 7, .o 8]), some (.t [.o 12, .o 13]), some (.t [.o 19, .o 20])]) (O' := baseJ a b c) ?_ (Nat.zero_le _) (by rw [List.append_assoc]; exact wbaseJ) wslotsJ
    -- what was handed out is let grow
    refine wss (ws_expr (we_bm PySem.F.plainAttrs_list PySem.F.slot_list_append PySem.F.type_list_append (we_ix (we_var 6 rfl (we_int (oi_tup .t rfl ⟨ty_lst (.o (xs := (fewL a c).2.map rD) rfl), ?_⟩))))))
    refine wa_cons (we_tup (wa_nil ⟨by simp, _, .nil, wa_nil (om_append (ws := ((fewL a c).2.map rD).map .d) rfl (lfit h5) ?_)⟩))
    refine wss (ws_expr (we_bm PySem.F.plainAttrs_list PySem.F.slot_list_append PySem.F.type_list_append (we_ix (we_var 4 rfl (we_int (oi_tup .t rfl ⟨ty_lst (.o (xs := (fewL b a).2.map rD) rfl), ?_⟩))))))
    refine wa_cons (we_tup (wa_nil ⟨by simp, _, .nil, wa_nil (om_append (ws := ((fewL b a).2.map rD).map .d) rfl (lfit h2) ?_)⟩))
    refine wss (ws_expr (we_bm PySem.F.plainAttrs_list PySem.F.slot_list_append PySem.F.type_list_append (we_ix (we_var 5 rfl (we_int (oi_tup .t rfl ⟨ty_lst (.o (xs := (fewL b c).2.map rD) rfl), ?_⟩))))))
    refine wa_cons (we_tup (wa_nil ⟨by simp, _, .nil, wa_nil (om_append (ws := ((fewL b c).2.map rD).map .d) rfl (lfit h3) ?_)⟩))
    refine wss1 (ws_ret (we_and (we_cmp (we_var 3 rfl (we_lst ?_)))))
    refine wa_cons (we_var 0 rfl (wa_cons (we_var 1 rfl (wa_cons (we_var 2 rfl (wa_nil ⟨by simp, ?_⟩))))))
    refine o2_eqD (k := 2) (j := 2) (p := .list [pR a, pR b, pR c]) (q := .list [pR a, pR b, pR c]) u0 (pdn_three rfl rfl rfl rfl ha.1 hb.1 hc.1) (pdn_data rfl ha.1 hb.1 hc.1) (shaped_three ha.1 hb.1 hc.1) (shaped_three ha.1 hb.1 hc.1) ⟨true, (by rw [eqv_lay (SeqAt.canLay_of_shaped (shaped_three ha.1 hb.1 hc.1))]), (fun _ => ?_), fun h => nomatch h⟩
    refine we_and1 (we_cmp (we_call D_diff hr (wa_cons (we_var 0 rfl (wa_cons (we_var 0 rfl (wa_nil (cs_lent (bor := []) (fun p hp => nomatch hp) (vw_d (vw_d .nil)) ?_))))))))
    refine ⟨a, a, ks, rfl, rfl, hk, la, la, .inl rfl, ?_⟩
    rw [mrg_df, (law_diff ha.1 ha.1).1, (law_diff ha.1 ha.1).2, few_self ha.1]
    refine we_tupW (wa_cons (we_lst (wa_nil ⟨by simp, ?_⟩)))
    refine wa_cons (we_lst (wa_nil ⟨by simp, wa_nil ⟨by simp, ?_⟩⟩))
    have hn : ∀ r ∈ ([] : List Row), OkR ks r := fun r h => nomatch h
    refine o2_eqD (k := 2) (j := 2) (p := .tuple [pR [], pR []]) (q := .tuple [pR [], pR []]) u0 (pdn_pair (x := []) (y := []) rfl rfl hn hn) (pdn_pair (x := []) (y := []) rfl rfl hn hn) (shaped_two hn hn) (shaped_two hn hn) ?_
    rw [eqv_two hn hn]
    exact ⟨[], Nat.le_refl _, .nil, rfl, q⟩
end
end K86

namespace K86
open PySem L2 Evl Vf PySem.W TL
abbrev sLists : Stmt := top 16
abbrev nmLists : List Str := ["state", "kinds", "k", "pool", "kind", "lists", "j"]
theorem scLists : FnScope nmLists ["state"] (defScope sLists) := ⟨rfl, rfl, rfl, by decide +kernel, rfl, by decide +kernel, by decide +kernel⟩
def spLists : FS := fun ws O Q => ∃ a b c : Int, ws = [.o 0] ∧ O = [some (stD a b c)] ∧ ∀ a b c (ks : List Bool) l0 l1 l2, ks ≠ [] → OkN ks l0 → OkN ks l1 → OkN ks l2 →
  Q (.o 3) [some (stD a b c), none, none, some (.lst, [.o 4, .o 5, .o 6]), some (lstR l0), some (lstR l1), some (lstR l2)]
def kdO (kbs : List Bool) : OO := (.lst, (kbs.map fun k => dS (kindS k)).map .d)
theorem OkR.snoc : ∀ {ks : List Bool} {r : Row} {k : Bool} {x : Key}, OkR ks r → OkK k x → OkR (ks ++ [k]) (r ++ [x])
  | [], [], _, _, _, h => ⟨h, trivial⟩
  | [], _ :: _, _, _, h, _ => h.elim
  | _ :: _, [], _, _, h, _ => by cases h
  | k :: ks, y :: r, _, _, h, hx => ⟨h.1, OkR.snoc h.2 hx⟩
theorem OkR.len : ∀ {ks : List Bool} {r : Row}, OkR ks r → r.length = ks.length
  | [], [], _ => rfl
  | [], _ :: _, h => h.elim
  | _ :: _, [], h => by cases h
  | k :: ks, y :: r, h => by rw [List.length_cons, List.length_cons, OkR.len h.2]
theorem at_end {α : Type} {B : List α} {n : Nat} {x : α} (h : B.length = n) : (B ++ [x])[n]? = some x := by subst h; exact len_get B x
theorem set_end {α : Type} {B : List α} {n : Nat} {x y : α} (h : B.length = n) : (B ++ [x]).set n y = B ++ [y] := by
  subst h
  rw [List.set_append_right _ _ (Nat.le_refl _), Nat.sub_self]
  rfl
theorem mrg_st {s : Nat} {a b c : Int} {O : Ob} : mrg [s] [some (stD a b c)] O = O.set s (some (stD a b c)) := mrg1
def lsO (a b c : Int) (kbs : List Bool) (rows : List Row) (i : Nat) (ls : List (List Row)) : Ob := some (stD a b c) :: some (kdO kbs) :: some (lstR rows) :: some (.lst, (List.range i).map fun n => .o (4 + n)) :: ls.map fun l => some (lstR l)
theorem bels_o {m : Nat} : ∀ {l : List Nat}, (∀ n ∈ l, 4 + n < m) → W.bels m (l.map fun n => W.o (4 + n)) = true
  | [], _ => rfl
  | n :: l, h => by
    simp only [List.map_cons, W.bels, W.bel, decide_eq_true (h n List.mem_cons_self), bels_o (l := l) fun k hk => h k (List.mem_cons_of_mem _ hk), Bool.and_self]
theorem lsO_bel' {a b c : Int} {kbs : List Bool} {rows : List Row} {i m : Nat} {ls : List (List Row)} (hm : 4 + i ≤ m) {x : OO} (hx : some x ∈ lsO a b c kbs rows i ls) : W.bels m x.2 = true := by
  unfold lsO at hx
  simp only [List.mem_cons, Option.some.injEq, List.mem_map] at hx
  rcases hx with rfl | rfl | rfl | rfl | ⟨l, _, rfl⟩
  · exact belows_d m _
  · exact belows_d m _
  · exact belows_d m _
  · exact bels_o fun n hn => by have := List.mem_range.mp hn; omega
  · exact belows_d m _
theorem lsO_bel {a b c : Int} {kbs : List Bool} {rows rs : List Row} {i m : Nat} {ls : List (List Row)} (hl : ls.length = i) (hm : 4 + i ≤ m) {x : OO} (hx : some x ∈ lsO a b c kbs rows i ls ++ [some (lstR rs)]) : W.bels m x.2 = true := by
  rcases List.mem_append.mp hx with hx | hx
  · exact lsO_bel' hm hx
  · have : x = lstR rs := by simpa using hx
    rw [this]
    exact belows_d m _
theorem lsO_bel2 {a b c : Int} {kbs : List Bool} {rows : List Row} {i : Nat} {ls : List (List Row)} (hl : ls.length = i) {x : OO} (hx : some x ∈ lsO a b c kbs rows i ls) : W.bels (lsO a b c kbs rows i ls).length x.2 = true :=
  lsO_bel' (by simp [lsO, hl]; omega) hx
local macro_rules
  | `(tactic| walk_at "go") => `(tactic| first
    | ((with_reducible show WE _ (.Constant _ _ _) _ _ _) <;> first | refine we_int ?_ | refine we_str ?_ | refine we_bl ?_ | refine we_non ?_)
    | ((with_reducible show WE _ (.BinOp _ _ _ _) _ _ _) <;> first | refine we_op ?_)
    | ((with_reducible show WE _ (.Compare _ [_] _ _) _ _ _) <;> first | refine we_cmp ?_)
    | ((with_reducible show WE _ (.UnaryOp .USub _ _) _ _ _) <;> first | refine we_un ?_)
    | ((with_reducible show WE _ (.UnaryOp .Not _ _) _ _ _) <;> first | refine we_not ?_)
    | ((with_reducible show WE _ (.Subscript _ (.Slice _ _ _ _) _) _ _ _) <;> first | refine we_sliceL ?_)
    | ((with_reducible show WE _ (.Subscript _ _ _) _ _ _) <;> first | refine we_ix ?_)
    | ((with_reducible show WE _ (.IfExp _ _ _ _) _ _ _) <;> first | refine we_ifExp ?_)
    | ((with_reducible show WE _ (.Tuple _ _ _) _ _ _) <;> first | refine we_tup ?_)
    | ((with_reducible show WE _ (.List _ _) _ _ _) <;> first | refine we_lst ?_)
    | ((with_reducible show WE _ (.Call (.Name "int" _) _ _ _) _ _ _) <;> first | refine we_callTy (T := "int") ?_ (by assumption))
    | ((with_reducible show WE _ (.Name "int" _) _ _ _) <;> first | refine we_tyv (n := "int") (by assumption) ?_)
    | ((with_reducible show WE _ (.Call (.Name "list" _) _ _ _) _ _ _) <;> first | refine we_callTy (T := "list") ?_ (by assumption))
    | ((with_reducible show WE _ (.Name "list" _) _ _ _) <;> first | refine we_tyv (n := "list") (by assumption) ?_)
    | ((with_reducible show WE _ (.Call (.Name "tuple" _) _ _ _) _ _ _) <;> first | refine we_callTy (T := "tuple") ?_ (by assumption))
    | ((with_reducible show WE _ (.Name "tuple" _) _ _ _) <;> first | refine we_tyv (n := "tuple") (by assumption) ?_)
    | ((with_reducible show WE _ (.Call (.Name "str" _) _ _ _) _ _ _) <;> first | refine we_callTy (T := "str") ?_ (by assumption))
    | ((with_reducible show WE _ (.Name "str" _) _ _ _) <;> first | refine we_tyv (n := "str") (by assumption) ?_)
    | ((with_reducible show WE _ (.Call (.Name "dict" _) _ _ _) _ _ _) <;> first | refine we_callTy (T := "dict") ?_ (by assumption))
    | ((with_reducible show WE _ (.Name "dict" _) _ _ _) <;> first | refine we_tyv (n := "dict") (by assumption) ?_)
    | ((with_reducible show WE _ (.Call (.Name "bool" _) _ _ _) _ _ _) <;> first | refine we_callTy (T := "bool") ?_ (by assumption))
    | ((with_reducible show WE _ (.Name "bool" _) _ _ _) <;> first | refine we_tyv (n := "bool") (by assumption) ?_)
    | ((with_reducible show WE _ (.Call (.Name "len" _) _ _ _) _ _ _) <;> first | refine we_callB (id := "len") ?_ (by assumption))
    | ((with_reducible show WE _ (.Call (.Name "max" _) _ _ _) _ _ _) <;> first | refine we_callB (id := "max") ?_ (by assumption))
    | ((with_reducible show WE _ (.Call (.Name "min" _) _ _ _) _ _ _) <;> first | refine we_callB (id := "min") ?_ (by assumption))
    | ((with_reducible show WE _ (.Call (.Name "sorted" _) _ _ _) _ _ _) <;> first | refine we_callB (id := "sorted") ?_ (by assumption))
    | ((with_reducible show WE _ (.Call (.Name "isinstance" _) _ _ _) _ _ _) <;> first | refine we_callB (id := "isinstance") ?_ (by assumption))
    | ((with_reducible show WE _ (.Call (.Name "sum" _) _ _ _) _ _ _) <;> first | refine we_callB (id := "sum") ?_ (by assumption))
    | ((with_reducible show WE _ (.Call (.Name "repr" _) _ _ _) _ _ _) <;> first | refine we_callB (id := "repr") ?_ (by assumption))
    | ((with_reducible show WE _ (.Call (.Name "abs" _) _ _ _) _ _ _) <;> first | refine we_callB (id := "abs") ?_ (by assumption))
    | ((with_reducible show WE _ (.Call (.Name "ord" _) _ _ _) _ _ _) <;> first | refine we_callB (id := "ord") ?_ (by assumption))
    | ((with_reducible show WE _ (.Call (.Name "chr" _) _ _ _) _ _ _) <;> first | refine we_callB (id := "chr") ?_ (by assumption))
    | ((with_reducible show WE _ (.Name _ _) _ _ _) <;> first | refine we_var 0 rfl ?_ | refine we_var 1 rfl ?_ | refine we_var 2 rfl ?_ | refine we_var 3 rfl ?_ | refine we_var 4 rfl ?_ | refine we_var 5 rfl ?_ | refine we_var 6 rfl ?_ | refine we_var 7 rfl ?_ | refine we_var 8 rfl ?_ | refine we_var 9 rfl ?_ | refine we_var 10 rfl ?_ | refine we_var 11 rfl ?_ | refine we_var 12 rfl ?_ | refine we_var 13 rfl ?_)
    | ((with_reducible show WA _ ([]) _ _ _) <;> first | refine wa_nil ?_)
    | ((with_reducible show WA _ (_ :: _) _ _ _) <;> first | refine wa_cons ?_)
    | ((with_reducible show WO _ (none) _ _ _) <;> first | refine wo_none ?_)
    | ((with_reducible show WO _ (some _) _ _ _) <;> first | refine wo_some ?_)
    | ((with_reducible show WT _ (.Compare _ [_] _ _) _ _ _) <;> first | refine wt_cmp ?_)
    | ((with_reducible show WT _ (.BoolOp _ _ _) _ _ _) <;> first | refine wt_bool ?_)
    | ((with_reducible show WT _ (.UnaryOp .Not _ _) _ _ _) <;> first | refine wt_not ?_)
    | ((with_reducible show WW _ (.BoolOp .And [_] _) _ _ _) <;> first | refine ww_and1 ?_)
    | ((with_reducible show WW _ (.BoolOp .Or [_] _) _ _ _) <;> first | refine ww_or1 ?_)
    | ((with_reducible show WW _ (.BoolOp .And _ _) _ _ _) <;> first | refine ww_and ?_)
    | ((with_reducible show WW _ (.BoolOp .Or _ _) _ _ _) <;> first | refine ww_or ?_)
    | ((with_reducible show WG _ (.Name _ _) _ _ _ _) <;> first | refine wg_name 0 ?_ (by assumption) | refine wg_name 1 ?_ (by assumption) | refine wg_name 2 ?_ (by assumption) | refine wg_name 3 ?_ (by assumption) | refine wg_name 4 ?_ (by assumption) | refine wg_name 5 ?_ (by assumption) | refine wg_name 6 ?_ (by assumption) | refine wg_name 7 ?_ (by assumption) | refine wg_name 8 ?_ (by assumption) | refine wg_name 9 ?_ (by assumption) | refine wg_name 10 ?_ (by assumption) | refine wg_name 11 ?_ (by assumption) | refine wg_name 12 ?_ (by assumption) | refine wg_name 13 ?_ (by assumption))
    | ((with_reducible show WG _ (.Subscript _ _ _) _ _ _ _) <;> first | refine wg_sub ?_)
    | ((with_reducible show WGs _ ([]) _ _ _ _) <;> first | refine wgs_nil ?_)
    | ((with_reducible show WGs _ (_ :: _) _ _ _ _) <;> first | refine wgs_cons ?_)
    | ((with_reducible show WSs _ _ _ _ _ _) <;> first | refine wss1 ?_ | refine wss ?_ | refine wss_nil ?_)
    | ((with_reducible show WS _ _ ((.Return (some _) _)) _ _ _) <;> first | refine ws_ret ?_)
    | ((with_reducible show WS _ _ ((.Return none _)) _ _ _) <;> first | refine ws_retN ?_)
    | ((with_reducible show WS _ _ ((.If _ _ _ _)) _ _ _) <;> first | refine ws_if ?_)
    | ((with_reducible show WS _ _ ((.Expr _ _)) _ _ _) <;> first | refine ws_expr ?_)
    | ((with_reducible show WS _ _ ((.Pass _)) _ _ _) <;> first | refine ws_pass ?_)
    | ((with_reducible show WS _ _ ((.Break _)) _ _ _) <;> first | refine ws_break ?_)
    | ((with_reducible show WS _ _ ((.Continue _)) _ _ _) <;> first | refine ws_cont ?_)
    | ((with_reducible show WS _ _ ((.Assign [.Name _ _] _ _)) _ _ _) <;> first | refine ws_set 0 ?_ (by assumption) | refine ws_set 1 ?_ (by assumption) | refine ws_set 2 ?_ (by assumption) | refine ws_set 3 ?_ (by assumption) | refine ws_set 4 ?_ (by assumption) | refine ws_set 5 ?_ (by assumption) | refine ws_set 6 ?_ (by assumption) | refine ws_set 7 ?_ (by assumption) | refine ws_set 8 ?_ (by assumption) | refine ws_set 9 ?_ (by assumption) | refine ws_set 10 ?_ (by assumption) | refine ws_set 11 ?_ (by assumption) | refine ws_set 12 ?_ (by assumption) | refine ws_set 13 ?_ (by assumption))
    | ((with_reducible show WS _ _ ((.Assign _ _ _)) _ _ _) <;> first | refine ws_asg ?_)
    | ((with_reducible show O2 _ (binaryOp .Add) _ _ _ _) <;> first | refine o2_addI ?_)
    | ((with_reducible show O2 _ (binaryOp .Sub) _ _ _ _) <;> first | refine o2_subI ?_)
    | ((with_reducible show O2 _ (binaryOp .Mult) _ _ _ _) <;> first | refine o2_mulI (by decide) ?_ | refine o2_mulL (by omega) (by omega) ?_ | refine o2_mulR (by omega) (by omega) ?_)
    | ((with_reducible show O2 _ (binaryOp .Mod) _ _ _ _) <;> first | refine o2_modI (by decide) ?_ | refine o2_modI (by omega) ?_)
    | ((with_reducible show O2 _ (binaryOp .FloorDiv) _ _ _ _) <;> first | refine o2_divI (by decide) ?_ | refine o2_divI (by omega) ?_)
    | ((with_reducible show O2 _ (compareOp .Lt) _ _ _ _) <;> first | refine o2_lt ?_)
    | ((with_reducible show O2 _ (compareOp .LtE) _ _ _ _) <;> first | refine o2_le ?_)
    | ((with_reducible show O2 _ (compareOp .Gt) _ _ _ _) <;> first | refine o2_gt ?_)
    | ((with_reducible show O2 _ (compareOp .GtE) _ _ _ _) <;> first | refine o2_ge ?_)
    | ((with_reducible show O2 _ (compareOp .Eq) _ _ _ _) <;> first | refine o2_eqI ?_ | refine o2_eqS ?_)
    | ((with_reducible show O2 _ (compareOp .NotEq) _ _ _ _) <;> first | refine o2_neI ?_ | refine o2_neS ?_)
    | ((with_reducible show Vf.O1 _ (unaryOp .USub) _ _ _) <;> first | refine o1_neg ?_)
    | ((with_reducible show OC _ (.type "int") _ _ _) <;> first | refine oc_intI ?_ | refine oc_intB ?_)
    | ((with_reducible show OC _ (.builtin "len") _ _ _) <;> first | refine oc_lenL (.o rfl) ?_ | refine oc_lenL .d ?_)
    | ((with_reducible show OI _ _ _ _ _) <;> first | refine oi_lst (.o rfl) rfl ?_ | refine oi_lst .d rfl ?_)
    | ((with_reducible show OSet _ _ _ _ _ _) <;> first | refine os_lst rfl rfl ?_)
    | ((with_reducible show ∃ b, W.d (D.s (V.bl _)) = W.d (D.s (V.bl b)) ∧ _) <;> refine ⟨_, rfl, ?_⟩)
    | ((with_reducible show List.length _ ≤ 1000 ∧ ∃ xs, PureL _ xs ∧ _) <;> first | refine ⟨by simp, _, .nil, ?_⟩ | refine ⟨by simp, _, .cons .nil, ?_⟩ | refine ⟨by simp, _, .cons (.cons .nil), ?_⟩ | refine ⟨by simp, _, .cons (.cons (.cons .nil)), ?_⟩ | refine ⟨by simp, _, .cons (.cons (.cons (.cons .nil))), ?_⟩)
    | ((with_reducible show List.length _ ≤ 1000 ∧ _) <;> refine ⟨by simp, ?_⟩))
local macro_rules
  | `(tactic| walk_at "wkl") => `(tactic| repeat first | exact WkL.nil | refine wkl_d ?_ | refine wkl_n ?_ | refine WkL.drop ?_)
local macro_rules
  | `(tactic| walk_at "wks") => `(tactic| repeat first | exact WkS.nil | refine wks_d ?_ | refine wks_n ?_ | refine wks_x ?_ | refine wks_o (by first | decide | simp | omega) ?_ | refine WkS.junk ?_)
section
variable {P : Program} {w : World} {K : PySem.W.Frag} {mg : Str → Option Value} {base : Heap}
theorem ok_lists {f : Addr} {fd : FuncData} (F : Fun K "_law_lists" "_law_lists" sLists f fd) (T : Txt K mg) (D_draw : DefOk P w K mg base "_law_draw" 1 spDraw) (D_value : DefOk P w K mg base "_law_value" 3 spValue) : FnOk P w K mg base CX0 4 f fd ["state"] (lft K spLists) := by
  have nd := scLists.nd
  have b1 := T.tuple
  have b2 := T.len
  refine fn_wp F scLists (fun ws O Q h => ?_) (fun cdv A outer s H E ws O Q hr h => ?_)
  · obtain ⟨_, _, _, rfl, _⟩ := h
    rfl
  · obtain ⟨a, b, c, rfl, rfl, q⟩ := h
    have hr1 := hr.mono (j := 1) (by decide)
    refine wss_dn ?_
    refine wss (ws_lcw (own := [("k", 2)]) (g := gName 2) 1 (wi_range1 ?_ T.range) ?_ nd (blkOk_by (N := nmLists) (sc := defScope sLists) (by decide +kernel)) (sw_true rfl rfl rfl (by decide +kernel)))
    rotate_left
    · rintro _ ⟨_, _, _, _, _, rfl⟩
      exact pg_name nd rfl (.inl rfl)
    refine wa_cons (we_op (we_int (we_call D_draw hr1 (wa_cons (we_var 0 rfl (wa_cons ?_))))))
    refine we_int (wa_nil (cs_draw rfl (by decide) (by decide) fun n a b c hn1 hn2 => o2_addI (wa_nil ⟨_, rfl, by omega, by omega, ?_⟩)))
    refine ⟨_, fun j O' => ∃ a b c kbs, O' = [some (stD a b c), some (kdO kbs)] ∧ kbs.length = j, tg_name 2 (by rintro _ ⟨_, _, _, _, _, rfl⟩; exact pg_name nd rfl (.inl rfl)), ⟨_, _, _, [], rfl, rfl⟩, fun _ _ _ => trivial, ?_, ?_⟩
    · rintro j x O' hx ⟨a, b, c, kbs, rfl, hl⟩ _ ⟨_, _, _, _, _, rfl⟩
      have hj : j < (1 + n).toNat := by
        have := (List.getElem?_eq_some_iff.mp hx).1
        rwa [ups_len] at this
      refine wts_nil ⟨fun _ => ?_, fun h => nomatch h⟩
      rintro _ ⟨_, _, _, _, _, rfl⟩
      refine we_ix (we_lst (wa_cons (we_str (wa_cons (we_str (wa_nil ⟨by simp, ?_⟩))))))
      refine we_call D_draw hr1 (wa_cons (we_var 0 rfl (wa_cons (we_int (wa_nil (cs_draw rfl (by decide) (by decide) fun r a b c h1 h2 => ?_))))))
      obtain ⟨kb, hkb⟩ : ∃ kb, atI [dS "number", dS "word"] r = some (dS (kindS kb)) := by
        have : r = 0 ∨ r = 1 := by omega
        rcases this with rfl | rfl
        · exact ⟨true, rfl⟩
        · exact ⟨false, rfl⟩
      refine oi_lst (.o (xs := [dS "number", dS "word"]) rfl) hkb ?_
      refine ⟨_, rfl, by simp only [List.length_map]; omega, [some (stD a b c), some (kdO (kbs ++ [kb]))], Nat.le_refl _, ?_, a, b, c, kbs ++ [kb], rfl, by rw [List.length_append, hl]; rfl⟩
      unfold kdO
      rw [List.map_append]
      exact wkl_d (wkl_app .nil)
    · rintro O' ⟨a, b, c, kbs, rfl, hl⟩
      rw [ups_len] at hl
      have hks : kbs ≠ [] := fun h => by rw [h] at hl; simp at hl; omega
      refine wss (ws_set 3 (we_lst (wa_nil ⟨by simp, ?_⟩)) nd)
      refine wss (ws_for (wi_range1 ?_ T.range) PassesOwn.never)
      refine wa_cons (we_op (we_int (we_call D_draw hr1 (wa_cons (we_var 0 rfl (wa_cons ?_))))))
      refine we_int (wa_nil (cs_draw rfl (by decide) (by decide) fun m a b c hm1 hm2 => o2_addI (wa_nil ⟨_, rfl, by omega, by omega, ?_⟩)))
      refine ⟨fun i σ' O' => ∃ a b c x2 x4 rows, σ' = [some (.o 0), some (.o 1), x2, some (.o 2), x4, none, none] ∧ O' = [some (stD a b c), some (kdO kbs), some (lstR rows)] ∧ rows.length = i ∧ ∀ r ∈ rows, OkR kbs r, ⟨_, _, _, _, _, [], rfl, rfl, rfl, fun r h => nomatch h⟩, fun _ _ _ _ => trivial, ?_, ?_⟩
      · rintro i x σ' O' hx ⟨a, b, c, x2, x4, rows, rfl, rfl, hrl, hro⟩
        have hi : i < (1 + m).toNat := by
          have := (List.getElem?_eq_some_iff.mp hx).1
          rwa [ups_len] at this
        refine wg_name 2 ?_ nd
        refine wss1 (ws_expr (we_bm PySem.F.plainAttrs_list PySem.F.slot_list_append PySem.F.type_list_append (we_var 3 rfl ⟨ty_lst (.o (xs := rows.map rD) rfl), wa_cons (we_callTy (T := "tuple") (wa_cons ?_) b1)⟩)))
        refine pe_lcw (own := [("kind", 4)]) (g := gName 4) (wi_list (we_var 1 rfl ⟨_, .o (xs := kbs.map fun k => dS (kindS k)) rfl, ?_⟩)) ?_ nd (blkOk_by (N := nmLists) (sc := defScope sLists) (by decide +kernel))
        rotate_left
        · rintro _ ⟨_, _, _, _, _, rfl⟩
          exact pg_name nd rfl (.inl rfl)
        refine ⟨_, fun j O' => ∃ a b c r, O' = [some (stD a b c), some (kdO kbs), some (lstR rows), some (.lst, (r.map kD).map .d)] ∧ OkR (kbs.take j) r, tg_name 4 (by rintro _ ⟨_, _, _, _, _, rfl⟩; exact pg_name nd rfl (.inl rfl)), ⟨_, _, _, [], rfl, trivial⟩, ?_, ?_, ?_⟩
        · rintro j O' ⟨a, b, c, r, rfl, _⟩
          exact .o rfl
        · rintro j x O' hx ⟨a, b, c, r, rfl, hor⟩ _ ⟨_, _, _, _, _, rfl⟩
          obtain ⟨kb, hkb, rfl⟩ : ∃ kb, kbs[j]? = some kb ∧ dS (kindS kb) = x := by
            rw [List.getElem?_map] at hx
            cases h : kbs[j]? with
            | none => rw [h] at hx; cases hx
            | some r => rw [h] at hx; cases hx; exact ⟨_, rfl, rfl⟩
          have hlen := hor.len
          rw [List.length_take] at hlen
          refine wts_nil ⟨fun _ => ?_, fun h => nomatch h⟩
          rintro _ ⟨_, _, _, _, _, rfl⟩
          refine we_call D_value hr (wa_cons (we_var 0 rfl (wa_cons (we_var 4 rfl (wa_nil (cs_own1 (s := 0) (h := .lst) (xs := [dI a, dI b, dI c]) rfl (vw_o (j := 0) rfl (vw_d .nil)) ?_))))))
          refine ⟨a, b, c, kb, rfl, rfl, fun a b c k hk => ⟨.inl rfl, ?_⟩⟩
          rw [mrg_st]
          have hw : W.ren (rn [0] ([some (stD a b c), some (kdO kbs), some (lstR rows), some (.lst, (r.map kD).map .d)] : Ob).length) (.d (kD k)) = .d (kD k) := rfl
          refine ⟨_, rfl, by simp only [List.length_map]; omega, [some (stD a b c), some (kdO kbs), some (lstR rows), some (.lst, ((r ++ [k]).map kD).map .d)], Nat.le_refl _, ?_, a, b, c, r ++ [k], rfl, ?_⟩
          · rw [List.map_append (f := kD)]
            exact wkl_d (wkl_d (wkl_d (wkl_app .nil)))
          · rw [List.take_succ, hkb]
            exact hor.snoc hk
        · rintro O' ⟨a, b, c, r, rfl, hor⟩
          rw [List.length_map, List.take_length] at hor
          refine wa_nil (oc_tupL (.o (xs := r.map kD) rfl) (wa_nil (om_append (ws := (rows.map rD).map .d) rfl ?_ ?_)))
          · simp only [List.length_map]
            exact Nat.lt_of_lt_of_le (by omega : rows.length < 10) (by decide)
          · refine ⟨[some (.o 0), some (.o 1), some .x, some (.o 2), some .x, none, none], [some (stD a b c), some (kdO kbs), some (lstR (rows ++ [r]))], Nat.le_refl _, ?_, by walk_at "wks", a, b, c, _, _, rows ++ [r], rfl, rfl, by rw [List.length_append, hrl]; rfl, fun y hy => ?_⟩
            · unfold lstR
              rw [List.map_append (f := rD)]
              exact wkl_d (wkl_d (wkl_app .nil))
            · rcases List.mem_append.mp hy with hy | hy
              · exact hro y hy
              · rw [List.mem_singleton.mp hy]; exact hor
      · rintro σ' O' ⟨a, b, c, x2, x4, rows, rfl, rfl, hrl, hro⟩
        rw [ups_len] at hrl
        refine wss (ws_set 5 (we_lst (wa_nil ⟨by simp, ?_⟩)) nd)
        refine wss (ws_for (wi_range1 (wa_cons (we_int (wa_nil ⟨3, rfl, by decide, by decide, ?_⟩))) T.range) PassesOwn.never)
        refine ⟨fun i σ' O' => ∃ a b c x2 x4 x6 ls, σ' = [some (.o 0), some (.o 1), x2, some (.o 2), x4, some (.o 3), x6] ∧ O' = lsO a b c kbs rows i ls ∧ ls.length = i ∧ ∀ l ∈ ls, OkN kbs l, ⟨a, b, c, _, _, _, [], rfl, rfl, rfl, fun r h => nomatch h⟩, fun _ _ _ _ => trivial, ?_, ?_⟩
        · rintro i x σ' O' hx ⟨a, b, c, x2, x4, x6, ls, rfl, rfl, hll, hlo⟩
          have hi : i < 3 := (List.getElem?_eq_some_iff.mp hx).1
          refine wg_name 2 ?_ nd
          refine wss1 (ws_expr (we_bm PySem.F.plainAttrs_list PySem.F.slot_list_append PySem.F.type_list_append (we_var 5 rfl ⟨ty_lstW rfl, wa_cons ?_⟩)))
          refine pe_lcw (own := [("j", 6)]) (g := gName 6) (wi_range1 ?_ T.range) ?_ nd (blkOk_by (N := nmLists) (sc := defScope sLists) (by decide +kernel))
          rotate_left
          · rintro _ ⟨_, _, _, _, _, rfl⟩
            exact pg_name nd rfl (.inl rfl)
          refine wa_cons (we_call D_draw hr1 (wa_cons (we_var 0 rfl (wa_cons (we_int (wa_nil (cs_draw (a := a) (b := b) (c := c) rfl (by decide) (by decide) fun u a b c hu1 hu2 => ?_))))))) 
          rw [show (lsO _ _ _ kbs rows i ls).set 0 (some (stD a b c)) = lsO a b c kbs rows i ls from rfl]
          refine wa_nil ⟨_, rfl, by omega, by omega, ?_⟩
          have hB : ∀ a b c, (lsO a b c kbs rows i ls).length = 4 + i := fun a b c => by simp [lsO, hll]; omega
          refine ⟨_, fun j O' => ∃ a b c rs, O' = lsO a b c kbs rows i ls ++ [some (lstR rs)] ∧ rs.length = j ∧ ∀ r ∈ rs, OkR kbs r, tg_name 6 (by rintro _ ⟨_, _, _, _, _, rfl⟩; exact pg_name nd rfl (.inl rfl)), ⟨a, b, c, [], rfl, rfl, fun r h => nomatch h⟩, fun _ _ _ => trivial, ?_, ?_⟩
          · rintro j x O' hx ⟨a, b, c, rs, rfl, hrs, hro'⟩ _ ⟨_, _, _, _, _, rfl⟩
            have hj : j < u.toNat := by
              have := (List.getElem?_eq_some_iff.mp hx).1
              rwa [ups_len] at this
            refine wts_nil ⟨fun _ => ?_, fun h => nomatch h⟩
            rintro _ ⟨_, _, _, _, _, rfl⟩
            refine we_ix (we_var 3 rfl (we_call D_draw hr1 (wa_cons (we_var 0 rfl (wa_cons (we_callB (id := "len") (wa_cons (we_var 3 rfl (wa_nil (oc_lenL (.o (xs := rows.map rD) rfl) (wa_nil ?_))))) b2))))))
            refine cs_draw (a := a) (b := b) (c := c) rfl (by rw [List.length_map]; omega) (by rw [List.length_map]; omega) fun v a b c hv1 hv2 => ?_
            rw [show (lsO _ _ _ kbs rows i ls ++ [some (lstR rs)]).set 0 (some (stD a b c)) = lsO a b c kbs rows i ls ++ [some (lstR rs)] from rfl]
            obtain ⟨y, hy, hm⟩ := atI_some (rows.map rD) hv1 hv2
            obtain ⟨r, hr', rfl⟩ := List.mem_map.mp hm
            refine oi_lst (.o (xs := rows.map rD) rfl) hy ?_
            rw [hB]
            refine ⟨(rs.map rD).map .d, at_end (hB a b c), by simp only [List.length_map]; omega, lsO a b c kbs rows i ls ++ [some (lstR (rs ++ [r]))], by simp [hB], ?_, a, b, c, rs ++ [r], rfl, by rw [List.length_append, hrs]; rfl, fun y hy => ?_⟩
            · rw [set_end (hB a b c)]
              rw [show ((rs.map rD).map W.d ++ [W.d (rD r)]) = ((rs ++ [r]).map rD).map W.d by simp]
              refine wkl_all fun x hx => ?_
              exact lsO_bel (a := a) (b := b) (c := c) (kbs := kbs) (rows := rows) (rs := rs ++ [r]) (ls := ls) hll (by rw [List.length_append, hB]; exact Nat.le_add_right _ _) hx
            · rcases List.mem_append.mp hy with hy | hy
              · exact hro' y hy
              · rw [List.mem_singleton.mp hy]; exact hro r hr'
          · rintro O' ⟨a, b, c, rs, rfl, hrs, hro'⟩
            rw [ups_len] at hrs
            rw [hB]
            refine wa_nil (om_append (ws := (List.range i).map fun n => .o (4 + n)) rfl (by simp; exact Nat.lt_of_lt_of_le hi (by decide)) ?_)
            refine ⟨[some (.o 0), some (.o 1), some .x, some (.o 2), some .x, some (.o 3), some .x], lsO a b c kbs rows (i + 1) (ls ++ [rs]), by simp [lsO, hll], ?_, wks_o (by simp [lsO]) (wks_o (by simp [lsO]) (.junk (wks_o (by simp [lsO]) (.junk (wks_o (by simp [lsO]) (.junk .nil)))))), a, b, c, _, _, _, ls ++ [rs], rfl, rfl, by rw [List.length_append, hll]; rfl, fun y hy => ?_⟩
            · have e : (lsO a b c kbs rows i ls ++ [some (lstR rs)]).set 3 (some (.lst, (List.range i).map (fun n => W.o (4 + n)) ++ [.o (4 + i)])) = lsO a b c kbs rows (i + 1) (ls ++ [rs]) := by
                simp [lsO, List.range_succ]
              show WkL _ ((lsO a b c kbs rows i ls ++ [some (lstR rs)]).set 3 (some (.lst, (List.range i).map (fun n => W.o (4 + n)) ++ [.o (4 + i)]))) _
              rw [e]
              refine wkl_all fun x hx => lsO_bel2 (by rw [List.length_append, hll]; rfl) hx
            · rcases List.mem_append.mp hy with hy | hy
              · exact hlo y hy
              · rw [List.mem_singleton.mp hy]
                exact ⟨hro', by omega⟩
        · rintro σ' O' ⟨a, b, c, x2, x4, x6, ls, rfl, rfl, hll, hlo⟩
          refine wss1 (ws_ret (we_var 5 rfl ?_))
          obtain ⟨l0, l1, l2, rfl⟩ : ∃ l0 l1 l2, ls = [l0, l1, l2] := by
            have hll : ls.length = 3 := hll
            match ls, hll with
            | [l0, l1, l2], _ => exact ⟨l0, l1, l2, rfl⟩
          refine ⟨[some (stD a b c), none, none, some (.lst, [.o 4, .o 5, .o 6]), some (lstR l0), some (lstR l1), some (lstR l2)], by simp, wkl_d (.drop (.drop (.same (fun y e => by cases e; rfl) (wkl_d (wkl_d (wkl_d .nil)))))), rfl, q a b c kbs l0 l1 l2 hks (hlo _ (by simp)) (hlo _ (by simp)) (hlo _ (by simp))⟩
end
end K86

namespace K86
open PySem L2 Evl Vf PySem.W TL
abbrev sLaw : Stmt := top 19
theorem scLaw : FnScope ["script", "k", "lists"] ["script"] (defScope sLaw) := ⟨rfl, rfl, rfl, by decide +kernel, rfl, by decide +kernel, by decide +kernel⟩
def spLaw : FS := fun ws O Q => ∃ ns : List Int, ws = [.d (.l (ns.map dI))] ∧ O = [] ∧ ns.length ≤ 63 ∧ Q (.d (dB true)) []
theorem mrg_ls {a b c a' b' c' : Int} {l0 l1 l2 : List Row} : mrg [0] [some (stD a b c), none, none, some (.lst, [.o 4, .o 5, .o 6]), some (lstR l0), some (lstR l1), some (lstR l2)] [some (stD a' b' c')] = [some (stD a b c), none, none, some (.lst, [.o 4, .o 5, .o 6]), some (lstR l0), some (lstR l1), some (lstR l2)] := by
  have h : ∀ f, renO f (stD a b c) = stD a b c := fun f => by unfold stD renO; rw [rens_d]
  simp [mrg, putAll, renR, h]
  rfl
theorem lent3 {O : Ob} {i j k : Nat} {x y z : List Row} (e1 : O[i]? = some (some (lstR x))) (e2 : O[j]? = some (some (lstR y))) (e3 : O[k]? = some (some (lstR z))) : ∀ p ∈ ([(i, x.map rD), (j, y.map rD), (k, z.map rD)] : Lent), O[p.1]? = some (some (.lst, p.2.map .d)) := fun p hp => by
  rcases List.mem_cons.mp hp with rfl | hp
  · exact e1
  rcases List.mem_cons.mp hp with rfl | hp
  · exact e2
  · rw [List.mem_singleton.mp hp]; exact e3
local macro_rules
  | `(tactic| walk_at "go") => `(tactic| first
    | ((with_reducible show WE _ (.Constant _ _ _) _ _ _) <;> first | refine we_int ?_ | refine we_str ?_ | refine we_bl ?_ | refine we_non ?_)
    | ((with_reducible show WE _ (.BinOp _ _ _ _) _ _ _) <;> first | refine we_op ?_)
    | ((with_reducible show WE _ (.Compare _ [_] _ _) _ _ _) <;> first | refine we_cmp ?_)
    | ((with_reducible show WE _ (.UnaryOp .USub _ _) _ _ _) <;> first | refine we_un ?_)
    | ((with_reducible show WE _ (.UnaryOp .Not _ _) _ _ _) <;> first | refine we_not ?_)
    | ((with_reducible show WE _ (.Subscript _ (.Slice _ _ _ _) _) _ _ _) <;> first | refine we_sliceL ?_)
    | ((with_reducible show WE _ (.Subscript _ _ _) _ _ _) <;> first | refine we_ix ?_)
    | ((with_reducible show WE _ (.IfExp _ _ _ _) _ _ _) <;> first | refine we_ifExp ?_)
    | ((with_reducible show WE _ (.Tuple _ _ _) _ _ _) <;> first | refine we_tup ?_)
    | ((with_reducible show WE _ (.List _ _) _ _ _) <;> first | refine we_lst ?_)
    | ((with_reducible show WE _ (.Call (.Name "int" _) _ _ _) _ _ _) <;> first | refine we_callTy (T := "int") ?_ (by assumption))
    | ((with_reducible show WE _ (.Name "int" _) _ _ _) <;> first | refine we_tyv (n := "int") (by assumption) ?_)
    | ((with_reducible show WE _ (.Call (.Name "list" _) _ _ _) _ _ _) <;> first | refine we_callTy (T := "list") ?_ (by assumption))
    | ((with_reducible show WE _ (.Name "list" _) _ _ _) <;> first | refine we_tyv (n := "list") (by assumption) ?_)
    | ((with_reducible show WE _ (.Call (.Name "tuple" _) _ _ _) _ _ _) <;> first | refine we_callTy (T := "tuple") ?_ (by assumption))
    | ((with_reducible show WE _ (.Name "tuple" _) _ _ _) <;> first | refine we_tyv (n := "tuple") (by assumption) ?_)
    | ((with_reducible show WE _ (.Call (.Name "str" _) _ _ _) _ _ _) <;> first | refine we_callTy (T := "str") ?_ (by assumption))
    | ((with_reducible show WE _ (.Name "str" _) _ _ _) <;> first | refine we_tyv (n := "str") (by assumption) ?_)
    | ((with_reducible show WE _ (.Call (.Name "dict" _) _ _ _) _ _ _) <;> first | refine we_callTy (T := "dict") ?_ (by assumption))
    | ((with_reducible show WE _ (.Name "dict" _) _ _ _) <;> first | refine we_tyv (n := "dict") (by assumption) ?_)
    | ((with_reducible show WE _ (.Call (.Name "bool" _) _ _ _) _ _ _) <;> first | refine we_callTy (T := "bool") ?_ (by assumption))
    | ((with_reducible show WE _ (.Name "bool" _) _ _ _) <;> first | refine we_tyv (n := "bool") (by assumption) ?_)
    | ((with_reducible show WE _ (.Call (.Name "len" _) _ _ _) _ _ _) <;> first | refine we_callB (id := "len") ?_ (by assumption))
    | ((with_reducible show WE _ (.Call (.Name "max" _) _ _ _) _ _ _) <;> first | refine we_callB (id := "max") ?_ (by assumption))
    | ((with_reducible show WE _ (.Call (.Name "min" _) _ _ _) _ _ _) <;> first | refine we_callB (id := "min") ?_ (by assumption))
    | ((with_reducible show WE _ (.Call (.Name "sorted" _) _ _ _) _ _ _) <;> first | refine we_callB (id := "sorted") ?_ (by assumption))
    | ((with_reducible show WE _ (.Call (.Name "isinstance" _) _ _ _) _ _ _) <;> first | refine we_callB (id := "isinstance") ?_ (by assumption))
    | ((with_reducible show WE _ (.Call (.Name "sum" _) _ _ _) _ _ _) <;> first | refine we_callB (id := "sum") ?_ (by assumption))
    | ((with_reducible show WE _ (.Call (.Name "repr" _) _ _ _) _ _ _) <;> first | refine we_callB (id := "repr") ?_ (by assumption))
    | ((with_reducible show WE _ (.Call (.Name "abs" _) _ _ _) _ _ _) <;> first | refine we_callB (id := "abs") ?_ (by assumption))
    | ((with_reducible show WE _ (.Call (.Name "ord" _) _ _ _) _ _ _) <;> first | refine we_callB (id := "ord") ?_ (by assumption))
    | ((with_reducible show WE _ (.Call (.Name "chr" _) _ _ _) _ _ _) <;> first | refine we_callB (id := "chr") ?_ (by assumption))
    | ((with_reducible show WE _ (.Name _ _) _ _ _) <;> first | refine we_var 0 rfl ?_ | refine we_var 1 rfl ?_ | refine we_var 2 rfl ?_ | refine we_var 3 rfl ?_ | refine we_var 4 rfl ?_ | refine we_var 5 rfl ?_ | refine we_var 6 rfl ?_ | refine we_var 7 rfl ?_ | refine we_var 8 rfl ?_ | refine we_var 9 rfl ?_ | refine we_var 10 rfl ?_ | refine we_var 11 rfl ?_ | refine we_var 12 rfl ?_ | refine we_var 13 rfl ?_)
    | ((with_reducible show WA _ ([]) _ _ _) <;> first | refine wa_nil ?_)
    | ((with_reducible show WA _ (_ :: _) _ _ _) <;> first | refine wa_cons ?_)
    | ((with_reducible show WO _ (none) _ _ _) <;> first | refine wo_none ?_)
    | ((with_reducible show WO _ (some _) _ _ _) <;> first | refine wo_some ?_)
    | ((with_reducible show WT _ (.Compare _ [_] _ _) _ _ _) <;> first | refine wt_cmp ?_)
    | ((with_reducible show WT _ (.BoolOp _ _ _) _ _ _) <;> first | refine wt_bool ?_)
    | ((with_reducible show WT _ (.UnaryOp .Not _ _) _ _ _) <;> first | refine wt_not ?_)
    | ((with_reducible show WW _ (.BoolOp .And [_] _) _ _ _) <;> first | refine ww_and1 ?_)
    | ((with_reducible show WW _ (.BoolOp .Or [_] _) _ _ _) <;> first | refine ww_or1 ?_)
    | ((with_reducible show WW _ (.BoolOp .And _ _) _ _ _) <;> first | refine ww_and ?_)
    | ((with_reducible show WW _ (.BoolOp .Or _ _) _ _ _) <;> first | refine ww_or ?_)
    | ((with_reducible show WG _ (.Name _ _) _ _ _ _) <;> first | refine wg_name 0 ?_ (by assumption) | refine wg_name 1 ?_ (by assumption) | refine wg_name 2 ?_ (by assumption) | refine wg_name 3 ?_ (by assumption) | refine wg_name 4 ?_ (by assumption) | refine wg_name 5 ?_ (by assumption) | refine wg_name 6 ?_ (by assumption) | refine wg_name 7 ?_ (by assumption) | refine wg_name 8 ?_ (by assumption) | refine wg_name 9 ?_ (by assumption) | refine wg_name 10 ?_ (by assumption) | refine wg_name 11 ?_ (by assumption) | refine wg_name 12 ?_ (by assumption) | refine wg_name 13 ?_ (by assumption))
    | ((with_reducible show WG _ (.Subscript _ _ _) _ _ _ _) <;> first | refine wg_sub ?_)
    | ((with_reducible show WGs _ ([]) _ _ _ _) <;> first | refine wgs_nil ?_)
    | ((with_reducible show WGs _ (_ :: _) _ _ _ _) <;> first | refine wgs_cons ?_)
    | ((with_reducible show WSs _ _ _ _ _ _) <;> first | refine wss1 ?_ | refine wss ?_ | refine wss_nil ?_)
    | ((with_reducible show WS _ _ ((.Return (some _) _)) _ _ _) <;> first | refine ws_ret ?_)
    | ((with_reducible show WS _ _ ((.Return none _)) _ _ _) <;> first | refine ws_retN ?_)
    | ((with_reducible show WS _ _ ((.If _ _ _ _)) _ _ _) <;> first | refine ws_if ?_)
    | ((with_reducible show WS _ _ ((.Expr _ _)) _ _ _) <;> first | refine ws_expr ?_)
    | ((with_reducible show WS _ _ ((.Pass _)) _ _ _) <;> first | refine ws_pass ?_)
    | ((with_reducible show WS _ _ ((.Break _)) _ _ _) <;> first | refine ws_break ?_)
    | ((with_reducible show WS _ _ ((.Continue _)) _ _ _) <;> first | refine ws_cont ?_)
    | ((with_reducible show WS _ _ ((.Assign [.Name _ _] _ _)) _ _ _) <;> first | refine ws_set 0 ?_ (by assumption) | refine ws_set 1 ?_ (by assumption) | refine ws_set 2 ?_ (by assumption) | refine ws_set 3 ?_ (by assumption) | refine ws_set 4 ?_ (by assumption) | refine ws_set 5 ?_ (by assumption) | refine ws_set 6 ?_ (by assumption) | refine ws_set 7 ?_ (by assumption) | refine ws_set 8 ?_ (by assumption) | refine ws_set 9 ?_ (by assumption) | refine ws_set 10 ?_ (by assumption) | refine ws_set 11 ?_ (by assumption) | refine ws_set 12 ?_ (by assumption) | refine ws_set 13 ?_ (by assumption))
    | ((with_reducible show WS _ _ ((.Assign _ _ _)) _ _ _) <;> first | refine ws_asg ?_)
    | ((with_reducible show O2 _ (binaryOp .Add) _ _ _ _) <;> first | refine o2_addI ?_)
    | ((with_reducible show O2 _ (binaryOp .Sub) _ _ _ _) <;> first | refine o2_subI ?_)
    | ((with_reducible show O2 _ (binaryOp .Mult) _ _ _ _) <;> first | refine o2_mulI (by decide) ?_ | refine o2_mulL (by omega) (by omega) ?_ | refine o2_mulR (by omega) (by omega) ?_)
    | ((with_reducible show O2 _ (binaryOp .Mod) _ _ _ _) <;> first | refine o2_modI (by decide) ?_ | refine o2_modI (by omega) ?_)
    | ((with_reducible show O2 _ (binaryOp .FloorDiv) _ _ _ _) <;> first | refine o2_divI (by decide) ?_ | refine o2_divI (by omega) ?_)
    | ((with_reducible show O2 _ (compareOp .Lt) _ _ _ _) <;> first | refine o2_lt ?_)
    | ((with_reducible show O2 _ (compareOp .LtE) _ _ _ _) <;> first | refine o2_le ?_)
    | ((with_reducible show O2 _ (compareOp .Gt) _ _ _ _) <;> first | refine o2_gt ?_)
    | ((with_reducible show O2 _ (compareOp .GtE) _ _ _ _) <;> first | refine o2_ge ?_)
    | ((with_reducible show O2 _ (compareOp .Eq) _ _ _ _) <;> first | refine o2_eqI ?_ | refine o2_eqS ?_)
    | ((with_reducible show O2 _ (compareOp .NotEq) _ _ _ _) <;> first | refine o2_neI ?_ | refine o2_neS ?_)
    | ((with_reducible show Vf.O1 _ (unaryOp .USub) _ _ _) <;> first | refine o1_neg ?_)
    | ((with_reducible show OC _ (.type "int") _ _ _) <;> first | refine oc_intI ?_ | refine oc_intB ?_)
    | ((with_reducible show OC _ (.builtin "len") _ _ _) <;> first | refine oc_lenL (.o rfl) ?_ | refine oc_lenL .d ?_)
    | ((with_reducible show OI _ _ _ _ _) <;> first | refine oi_lst (.o rfl) rfl ?_ | refine oi_lst .d rfl ?_)
    | ((with_reducible show OSet _ _ _ _ _ _) <;> first | refine os_lst rfl rfl ?_)
    | ((with_reducible show ∃ b, W.d (D.s (V.bl _)) = W.d (D.s (V.bl b)) ∧ _) <;> refine ⟨_, rfl, ?_⟩)
    | ((with_reducible show List.length _ ≤ 1000 ∧ ∃ xs, PureL _ xs ∧ _) <;> first | refine ⟨by simp, _, .nil, ?_⟩ | refine ⟨by simp, _, .cons .nil, ?_⟩ | refine ⟨by simp, _, .cons (.cons .nil), ?_⟩ | refine ⟨by simp, _, .cons (.cons (.cons .nil)), ?_⟩ | refine ⟨by simp, _, .cons (.cons (.cons (.cons .nil))), ?_⟩)
    | ((with_reducible show List.length _ ≤ 1000 ∧ _) <;> refine ⟨by simp, ?_⟩))
local macro_rules
  | `(tactic| walk_at "wkl") => `(tactic| repeat first | exact WkL.nil | refine wkl_d ?_ | refine wkl_n ?_ | refine WkL.drop ?_)
local macro_rules
  | `(tactic| walk_at "wks") => `(tactic| repeat first | exact WkS.nil | refine wks_d ?_ | refine wks_n ?_ | refine wks_x ?_ | refine wks_o (by first | decide | simp | omega) ?_ | refine WkS.junk ?_)
section
variable {P : Program} {w : World} {K : PySem.W.Frag} {mg : Str → Option Value} {base : Heap}
theorem ok_law {f : Addr} {fd : FuncData} (F : Fun K "law" "law" sLaw f fd) (T : Txt K mg) (D_begun : DefOk P w K mg base "_law_begun" 1 spBegun) (D_lists : DefOk P w K mg base "_law_lists" 4 spLists) (D_right : DefOk P w K mg base "_law_right" 4 spRight) : FnOk P w K mg base CX0 5 f fd ["script"] (lft K spLaw) := by
  have nd := scLaw.nd
  have b1 := T.len
  have b2 := T.max
  have b3 := T.min
  refine fn_wp F scLaw (fun ws O Q h => ?_) (fun cdv A outer s H E ws O Q hr h => ?_)
  · obtain ⟨_, rfl, _⟩ := h
    rfl
  · obtain ⟨ns, rfl, rfl, hl, q⟩ := h
    refine wss (ws_for (wi_range1 ?_ T.range) PassesOwn.never)
    refine wa_cons (we_callB (id := "max") (wa_cons (we_int (wa_cons (we_callB (id := "min") (wa_cons (we_callB (id := "len") (wa_cons (we_var 0 rfl (wa_nil (oc_lenL .d ?_)))) b1)) b3))))  b2)
    refine wa_cons (we_int (wa_nil (oc_min2 rfl ?_)))
    refine wa_nil (oc_max2 rfl ?_)
    rw [List.length_map]
    obtain ⟨n, hn, hn2⟩ : ∃ n : Nat, (if (if (30 : Int) < ns.length then 30 else (ns.length : Int)) > 3 then (if (30 : Int) < ns.length then 30 else (ns.length : Int)) else 3) = (n : Nat) ∧ n ≤ 30 := by
      refine ⟨(if (if (30 : Int) < ns.length then 30 else (ns.length : Int)) > 3 then (if (30 : Int) < ns.length then 30 else (ns.length : Int)) else 3).toNat, ?_, ?_⟩ <;> split <;> split <;> omega
    rw [hn]
    refine wa_nil ⟨_, rfl, by omega, by omega, ?_⟩
    refine ⟨fun i σ' O' => ∃ x1 x2, σ' = [some (.d (.l (ns.map dI))), x1, x2] ∧ O' = [], ⟨none, none, rfl, rfl⟩, fun _ _ _ _ => trivial, ?_, ?_⟩
    · rintro i x σ' O' hx ⟨x1, x2, rfl, rfl⟩
      have hi : i < n := by
        have := (List.getElem?_eq_some_iff.mp hx).1
        rw [ups_len] at this
        omega
      rw [ups_get (by omega)] at hx
      cases hx
      rw [Int.zero_add]
      refine wg_name 1 ?_ nd
      refine wss (ws_set 2 (we_call D_lists hr (wa_cons (we_call D_begun (hr.mono (by decide)) (wa_cons (we_var 0 rfl (wa_cons (we_var 1 rfl (wa_nil (cs_lent (bor := []) (fun p hp => nomatch hp) (vw_d (vw_d .nil)) ?_))))))))) nd)
      refine ⟨ns, i, rfl, rfl, by omega, fun a b c => ⟨.inl rfl, ?_⟩⟩
      rw [show mrg [] [some (stD a b c)] [] = [some (stD a b c)] from mrg01]
      refine wa_nil (cs_own1 (s := 0) (h := .lst) (xs := [dI a, dI b, dI c]) rfl (vw_o (j := 0) rfl .nil) ?_)
      refine ⟨a, b, c, rfl, rfl, fun a b c ks l0 l1 l2 hk h0 h1 h2 => ⟨.inl rfl, ?_⟩⟩
      rw [mrg_ls]
      refine wss (ws_if (wt_not (wt_val (we_call D_right hr ?_))))
      refine wa_cons (we_ix (we_var 2 rfl (we_int (oi_lstO rfl rfl ?_))))
      refine wa_cons (we_ix (we_var 2 rfl (we_int (oi_lstO rfl rfl ?_))))
      refine wa_cons (we_ix (we_var 2 rfl (we_int (oi_lstO rfl rfl ?_))))
      refine wa_nil (cs_lent (bor := [(4, l0.map rD), (5, l1.map rD), (6, l2.map rD)]) (lent3 rfl rfl rfl) (.lent (n := 4) List.mem_cons_self (.lent (n := 5) (List.mem_cons_of_mem _ List.mem_cons_self) (.lent (n := 6) (List.mem_cons_of_mem _ (List.mem_cons_of_mem _ List.mem_cons_self)) .nil))) ?_)
      refine ⟨l0, l1, l2, ks, rfl, rfl, hk, h0, h1, h2, .inr ⟨rfl, fun x h => nomatch h⟩, ?_⟩
      rw [mrg0]
      refine ⟨_, rfl, (fun h => nomatch h), fun _ => ?_⟩
      refine wss_nil ?_
      refine wss1 (ws_if (wt_not (wt_val (we_call D_right hr ?_))))
      refine wa_cons (we_ix (we_var 2 rfl (we_int (oi_lstO rfl rfl ?_))))
      refine wa_cons (we_ix (we_var 2 rfl (we_int (oi_lstO rfl rfl ?_))))
      refine wa_cons (we_ix (we_var 2 rfl (we_int (oi_lstO rfl rfl ?_))))
      refine wa_nil (cs_lent (bor := [(6, l2.map rD), (4, l0.map rD)]) (lent2 rfl rfl) (.lent (n := 6) List.mem_cons_self (.lent (n := 4) (List.mem_cons_of_mem _ List.mem_cons_self) (.lent (n := 4) (List.mem_cons_of_mem _ List.mem_cons_self) .nil))) ?_)
      refine ⟨l2, l0, l0, ks, rfl, rfl, hk, h2, h0, h0, .inr ⟨rfl, fun x h => nomatch h⟩, ?_⟩
      rw [mrg0]
      refine ⟨_, rfl, (fun h => nomatch h), fun _ => ?_⟩
      refine wss_nil ?_
      exact ⟨[some (.d (.l (ns.map dI))), some .x, some .x], [], Nat.le_refl _, .nil, wks_d (.junk (.junk .nil)), _, _, rfl, rfl⟩
    · rintro σ' O' ⟨x1, x2, rfl, rfl⟩
      exact wss1 (ws_ret (we_bl q))
end
end K86

namespace K86
open PySem L2 Evl Vf PySem.W
theorem all_mk {l : PySem.W.OpenLaw} {w : World} {K : PySem.W.Frag} {h : Heap} {mg : Str → Option Value} {fa f0 f1 f2 f3 f4 f5 f6 f7 f8 f9 f10 f11 f12 f13 f14 f15 f16 f17 : Addr} (X : K.In h) (G : h.Ns mainGlobals mg) (hfa : mg "law" = some (.ref fa))
    {od0 an0 od1 an1 od2 an2 od3 an3 od4 an4 od5 an5 od6 an6 od7 an7 od8 an8 od9 an9 od10 an10 od11 an11 od12 an12 od13 an13 od14 an14 od15 an15 od16 an16 od17 an17 : Option Addr} {sl0 sl1 sl2 sl3 sl4 sl5 sl6 sl7 sl8 sl9 sl10 sl11 sl12 sl13 sl14 sl15 sl16 sl17 : Array (Option Value)} {oc0 kV0 dc0 pm0 cd0 ct0 oc1 kV1 dc1 pm1 cd1 ct1 oc2 kV2 dc2 pm2 cd2 ct2 oc3 kV3 dc3 pm3 cd3 ct3 oc4 kV4 dc4 pm4 cd4 ct4 oc5 kV5 dc5 pm5 cd5 ct5 oc6 kV6 dc6 pm6 cd6 ct6 oc7 kV7 dc7 pm7 cd7 ct7 oc8 kV8 dc8 pm8 cd8 ct8 oc9 kV9 dc9 pm9 cd9 ct9 oc10 kV10 dc10 pm10 cd10 ct10 oc11 kV11 dc11 pm11 cd11 ct11 oc12 kV12 dc12 pm12 cd12 ct12 oc13 kV13 dc13 pm13 cd13 ct13 oc14 kV14 dc14 pm14 cd14 ct14 oc15 kV15 dc15 pm15 cd15 ct15 oc16 kV16 dc16 pm16 cd16 ct16 oc17 kV17 dc17 pm17 cd17 ct17 : Value}
    (a0 : PySem.W.nsIn K mainGlobals "bag_of" = some (some (.ref f0))) (l0 : K.lookup f0 = some ⟨oc0, od0, .func (PySem.W.fnOf "bag_of" "bag_of" (defArgs sBag) (defBody sBag) (defScope sBag) .none kV0 dc0 pm0 an0 cd0 ct0), sl0⟩) (c0 : PySem.W.codeIn K cd0 "bag_of" = true) (k0 : PySem.W.keepIn K (.ref f0) = true)
    (a1 : PySem.W.nsIn K mainGlobals "add_row_to" = some (some (.ref f1))) (l1 : K.lookup f1 = some ⟨oc1, od1, .func (PySem.W.fnOf "add_row_to" "add_row_to" (defArgs sAdd) (defBody sAdd) (defScope sAdd) .none kV1 dc1 pm1 an1 cd1 ct1), sl1⟩) (c1 : PySem.W.codeIn K cd1 "add_row_to" = true) (k1 : PySem.W.keepIn K (.ref f1) = true)
    (a2 : PySem.W.nsIn K mainGlobals "add_all_to" = some (some (.ref f2))) (l2 : K.lookup f2 = some ⟨oc2, od2, .func (PySem.W.fnOf "add_all_to" "add_all_to" (defArgs sAll) (defBody sAll) (defScope sAll) .none kV2 dc2 pm2 an2 cd2 ct2), sl2⟩) (c2 : PySem.W.codeIn K cd2 "add_all_to" = true) (k2 : PySem.W.keepIn K (.ref f2) = true)
    (a3 : PySem.W.nsIn K mainGlobals "spread" = some (some (.ref f3))) (l3 : K.lookup f3 = some ⟨oc3, od3, .func (PySem.W.fnOf "spread" "spread" (defArgs sSpread) (defBody sSpread) (defScope sSpread) .none kV3 dc3 pm3 an3 cd3 ct3), sl3⟩) (c3 : PySem.W.codeIn K cd3 "spread" = true) (k3 : PySem.W.keepIn K (.ref f3) = true)
    (a4 : PySem.W.nsIn K mainGlobals "parted" = some (some (.ref f4))) (l4 : K.lookup f4 = some ⟨oc4, od4, .func (PySem.W.fnOf "parted" "parted" (defArgs sPart) (defBody sPart) (defScope sPart) .none kV4 dc4 pm4 an4 cd4 ct4), sl4⟩) (c4 : PySem.W.codeIn K cd4 "parted" = true) (k4 : PySem.W.keepIn K (.ref f4) = true)
    (a5 : PySem.W.nsIn K mainGlobals "difference_of" = some (some (.ref f5))) (l5 : K.lookup f5 = some ⟨oc5, od5, .func (PySem.W.fnOf "difference_of" "difference_of" (defArgs sDiff) (defBody sDiff) (defScope sDiff) .none kV5 dc5 pm5 an5 cd5 ct5), sl5⟩) (c5 : PySem.W.codeIn K cd5 "difference_of" = true) (k5 : PySem.W.keepIn K (.ref f5) = true)
    (a6 : PySem.W.nsIn K mainGlobals "rows_changed" = some (some (.ref f6))) (l6 : K.lookup f6 = some ⟨oc6, od6, .func (PySem.W.fnOf "rows_changed" "rows_changed" (defArgs sChg) (defBody sChg) (defScope sChg) .none kV6 dc6 pm6 an6 cd6 ct6), sl6⟩) (c6 : PySem.W.codeIn K cd6 "rows_changed" = true) (k6 : PySem.W.keepIn K (.ref f6) = true)
    (a7 : PySem.W.nsIn K mainGlobals "differences_joined" = some (some (.ref f7))) (l7 : K.lookup f7 = some ⟨oc7, od7, .func (PySem.W.fnOf "differences_joined" "differences_joined" (defArgs sJoin) (defBody sJoin) (defScope sJoin) .none kV7 dc7 pm7 an7 cd7 ct7), sl7⟩) (c7 : PySem.W.codeIn K cd7 "differences_joined" = true) (k7 : PySem.W.keepIn K (.ref f7) = true)
    (a8 : PySem.W.nsIn K mainGlobals "_law_begun" = some (some (.ref f8))) (l8 : K.lookup f8 = some ⟨oc8, od8, .func (PySem.W.fnOf "_law_begun" "_law_begun" (defArgs sBegun) (defBody sBegun) (defScope sBegun) .none kV8 dc8 pm8 an8 cd8 ct8), sl8⟩) (c8 : PySem.W.codeIn K cd8 "_law_begun" = true) (k8 : PySem.W.keepIn K (.ref f8) = true)
    (a9 : PySem.W.nsIn K mainGlobals "_law_draw" = some (some (.ref f9))) (l9 : K.lookup f9 = some ⟨oc9, od9, .func (PySem.W.fnOf "_law_draw" "_law_draw" (defArgs sDraw) (defBody sDraw) (defScope sDraw) .none kV9 dc9 pm9 an9 cd9 ct9), sl9⟩) (c9 : PySem.W.codeIn K cd9 "_law_draw" = true) (k9 : PySem.W.keepIn K (.ref f9) = true)
    (a10 : PySem.W.nsIn K mainGlobals "_law_spelt" = some (some (.ref f10))) (l10 : K.lookup f10 = some ⟨oc10, od10, .func (PySem.W.fnOf "_law_spelt" "_law_spelt" (defArgs sSpelt) (defBody sSpelt) (defScope sSpelt) .none kV10 dc10 pm10 an10 cd10 ct10), sl10⟩) (c10 : PySem.W.codeIn K cd10 "_law_spelt" = true) (k10 : PySem.W.keepIn K (.ref f10) = true)
    (a11 : PySem.W.nsIn K mainGlobals "_law_value" = some (some (.ref f11))) (l11 : K.lookup f11 = some ⟨oc11, od11, .func (PySem.W.fnOf "_law_value" "_law_value" (defArgs sValue) (defBody sValue) (defScope sValue) .none kV11 dc11 pm11 an11 cd11 ct11), sl11⟩) (c11 : PySem.W.codeIn K cd11 "_law_value" = true) (k11 : PySem.W.keepIn K (.ref f11) = true)
    (a12 : PySem.W.nsIn K mainGlobals "_law_fewer" = some (some (.ref f12))) (l12 : K.lookup f12 = some ⟨oc12, od12, .func (PySem.W.fnOf "_law_fewer" "_law_fewer" (defArgs sFew) (defBody sFew) (defScope sFew) .none kV12 dc12 pm12 an12 cd12 ct12), sl12⟩) (c12 : PySem.W.codeIn K cd12 "_law_fewer" = true) (k12 : PySem.W.keepIn K (.ref f12) = true)
    (a13 : PySem.W.nsIn K mainGlobals "_law_difference" = some (some (.ref f13))) (l13 : K.lookup f13 = some ⟨oc13, od13, .func (PySem.W.fnOf "_law_difference" "_law_difference" (defArgs sLDiff) (defBody sLDiff) (defScope sLDiff) .none kV13 dc13 pm13 an13 cd13 ct13), sl13⟩) (c13 : PySem.W.codeIn K cd13 "_law_difference" = true) (k13 : PySem.W.keepIn K (.ref f13) = true)
    (a14 : PySem.W.nsIn K mainGlobals "_law_lists" = some (some (.ref f14))) (l14 : K.lookup f14 = some ⟨oc14, od14, .func (PySem.W.fnOf "_law_lists" "_law_lists" (defArgs sLists) (defBody sLists) (defScope sLists) .none kV14 dc14 pm14 an14 cd14 ct14), sl14⟩) (c14 : PySem.W.codeIn K cd14 "_law_lists" = true) (k14 : PySem.W.keepIn K (.ref f14) = true)
    (a15 : PySem.W.nsIn K mainGlobals "_law_is_pair" = some (some (.ref f15))) (l15 : K.lookup f15 = some ⟨oc15, od15, .func (PySem.W.fnOf "_law_is_pair" "_law_is_pair" (defArgs sPair) (defBody sPair) (defScope sPair) .none kV15 dc15 pm15 an15 cd15 ct15), sl15⟩) (c15 : PySem.W.codeIn K cd15 "_law_is_pair" = true) (k15 : PySem.W.keepIn K (.ref f15) = true)
    (a16 : PySem.W.nsIn K mainGlobals "_law_right" = some (some (.ref f16))) (l16 : K.lookup f16 = some ⟨oc16, od16, .func (PySem.W.fnOf "_law_right" "_law_right" (defArgs sRight) (defBody sRight) (defScope sRight) .none kV16 dc16 pm16 an16 cd16 ct16), sl16⟩) (c16 : PySem.W.codeIn K cd16 "_law_right" = true) (k16 : PySem.W.keepIn K (.ref f16) = true)
    (a17 : PySem.W.nsIn K mainGlobals "law" = some (some (.ref f17))) (l17 : K.lookup f17 = some ⟨oc17, od17, .func (PySem.W.fnOf "law" "law" (defArgs sLaw) (defBody sLaw) (defScope sLaw) .none kV17 dc17 pm17 an17 cd17 ct17), sl17⟩) (c17 : PySem.W.codeIn K cd17 "law" = true) (k17 : PySem.W.keepIn K (.ref f17) = true)
    (z0 : PySem.W.nsIn K mainGlobals "int" = some none) (z1 : PySem.W.nsIn K mainGlobals "sorted" = some none) (z2 : PySem.W.nsIn K mainGlobals "range" = some none) (z3 : PySem.W.nsIn K mainGlobals "enumerate" = some none) (z4 : PySem.W.nsIn K mainGlobals "len" = some none) (z5 : PySem.W.nsIn K mainGlobals "list" = some none) (z6 : PySem.W.nsIn K mainGlobals "tuple" = some none) (z7 : PySem.W.nsIn K mainGlobals "isinstance" = some none) (z8 : PySem.W.nsIn K mainGlobals "max" = some none) (z9 : PySem.W.nsIn K mainGlobals "min" = some none) :
    ∃ fd : FuncData, (∀ (s : Shared) (v : Value), BindsTo s fd ⟨[v], []⟩ [("script", v)]) ∧ ∀ base : Heap, K.In base → base.Ns mainGlobals mg → FnOk l.prog w K mg base CX0 5 fa fd ["script"] (lft K spLaw) := by
  have e := hfa.symm.trans (PySem.W.mg_of X G a17)
  cases e
  have T : Txt K mg := ⟨PySem.W.mg_none_of X G z0, PySem.W.mg_none_of X G z1, PySem.W.mg_none_of X G z2, PySem.W.mg_none_of X G z3, PySem.W.mg_none_of X G z4, PySem.W.mg_none_of X G z5, PySem.W.mg_none_of X G z6, PySem.W.mg_none_of X G z7, PySem.W.mg_none_of X G z8, PySem.W.mg_none_of X G z9⟩
  have F0 := fun_mk (st := sBag) l0 c0 k0
  have F1 := fun_mk (st := sAdd) l1 c1 k1
  have F2 := fun_mk (st := sAll) l2 c2 k2
  have F3 := fun_mk (st := sSpread) l3 c3 k3
  have F4 := fun_mk (st := sPart) l4 c4 k4
  have F5 := fun_mk (st := sDiff) l5 c5 k5
  have F6 := fun_mk (st := sChg) l6 c6 k6
  have F7 := fun_mk (st := sJoin) l7 c7 k7
  have F8 := fun_mk (st := sBegun) l8 c8 k8
  have F9 := fun_mk (st := sDraw) l9 c9 k9
  have F10 := fun_mk (st := sSpelt) l10 c10 k10
  have F11 := fun_mk (st := sValue) l11 c11 k11
  have F12 := fun_mk (st := sFew) l12 c12 k12
  have F13 := fun_mk (st := sLDiff) l13 c13 k13
  have F14 := fun_mk (st := sLists) l14 c14 k14
  have F15 := fun_mk (st := sPair) l15 c15 k15
  have F16 := fun_mk (st := sRight) l16 c16 k16
  have F17 := fun_mk (st := sLaw) l17 c17 k17
  have Q0 : ∀ base : Heap, DefOk l.prog w K mg base "bag_of" 1 spBag := fun base => def_ok (ok_bag F0 ) (PySem.W.mg_of X G a0) k0 (F0.binds (ps := ["rows"]) fun _ _ _ _ _ _ us hl => match us, hl with | [_], _ => rfl)
  have Q1 : ∀ base : Heap, DefOk l.prog w K mg base "add_row_to" 1 spAdd := fun base => def_ok (ok_add F1 ) (PySem.W.mg_of X G a1) k1 (F1.binds (ps := ["bag", "row", "many"]) fun _ _ _ _ _ _ us hl => match us, hl with | [_, _, _], _ => rfl)
  have Q2 : ∀ base : Heap, DefOk l.prog w K mg base "add_all_to" 2 spAll := fun base => def_ok (ok_all F2 (Q1 base)) (PySem.W.mg_of X G a2) k2 (F2.binds (ps := ["bag", "more"]) fun _ _ _ _ _ _ us hl => match us, hl with | [_, _], _ => rfl)
  have Q3 : ∀ base : Heap, DefOk l.prog w K mg base "spread" 1 spSpread := fun base => def_ok (ok_spread F3 T) (PySem.W.mg_of X G a3) k3 (F3.binds (ps := ["bag"]) fun _ _ _ _ _ _ us hl => match us, hl with | [_], _ => rfl)
  have Q4 : ∀ base : Heap, DefOk l.prog w K mg base "parted" 2 spPart := fun base => def_ok (ok_part F4 (Q3 base)) (PySem.W.mg_of X G a4) k4 (F4.binds (ps := ["changes"]) fun _ _ _ _ _ _ us hl => match us, hl with | [_], _ => rfl)
  have Q5 : ∀ base : Heap, DefOk l.prog w K mg base "difference_of" 3 spDiff := fun base => def_ok (ok_diff F5 (Q0 base) (Q1 base) (Q4 base)) (PySem.W.mg_of X G a5) k5 (F5.binds (ps := ["before", "after"]) fun _ _ _ _ _ _ us hl => match us, hl with | [_, _], _ => rfl)
  have Q6 : ∀ base : Heap, DefOk l.prog w K mg base "rows_changed" 3 spChg := fun base => def_ok (ok_chg F6 (Q0 base) (Q1 base) (Q2 base) (Q3 base)) (PySem.W.mg_of X G a6) k6 (F6.binds (ps := ["rows", "gone", "come"]) fun _ _ _ _ _ _ us hl => match us, hl with | [_, _, _], _ => rfl)
  have Q7 : ∀ base : Heap, DefOk l.prog w K mg base "differences_joined" 3 spJoin := fun base => def_ok (ok_join F7 (Q0 base) (Q1 base) (Q4 base)) (PySem.W.mg_of X G a7) k7 (F7.binds (ps := ["first", "second"]) fun _ _ _ _ _ _ us hl => match us, hl with | [_, _], _ => rfl)
  have Q8 : ∀ base : Heap, DefOk l.prog w K mg base "_law_begun" 1 spBegun := fun base => def_ok (ok_begun F8 T) (PySem.W.mg_of X G a8) k8 (F8.binds (ps := ["script", "k"]) fun _ _ _ _ _ _ us hl => match us, hl with | [_, _], _ => rfl)
  have Q9 : ∀ base : Heap, DefOk l.prog w K mg base "_law_draw" 1 spDraw := fun base => def_ok (ok_draw F9 T) (PySem.W.mg_of X G a9) k9 (F9.binds (ps := ["state", "many"]) fun _ _ _ _ _ _ us hl => match us, hl with | [_, _], _ => rfl)
  have Q10 : ∀ base : Heap, DefOk l.prog w K mg base "_law_spelt" 2 spSpelt := fun base => def_ok (ok_spelt F10 T (Q9 base)) (PySem.W.mg_of X G a10) k10 (F10.binds (ps := ["state", "many", "longest"]) fun _ _ _ _ _ _ us hl => match us, hl with | [_, _, _], _ => rfl)
  have Q11 : ∀ base : Heap, DefOk l.prog w K mg base "_law_value" 3 spValue := fun base => def_ok (ok_value F11 (Q9 base) (Q10 base)) (PySem.W.mg_of X G a11) k11 (F11.binds (ps := ["state", "kind"]) fun _ _ _ _ _ _ us hl => match us, hl with | [_, _], _ => rfl)
  have Q12 : ∀ base : Heap, DefOk l.prog w K mg base "_law_fewer" 1 spFew := fun base => def_ok (ok_few F12 T) (PySem.W.mg_of X G a12) k12 (F12.binds (ps := ["rows", "others"]) fun _ _ _ _ _ _ us hl => match us, hl with | [_, _], _ => rfl)
  have Q13 : ∀ base : Heap, DefOk l.prog w K mg base "_law_difference" 2 spLDiff := fun base => def_ok (ok_ldiff F13 (Q12 base)) (PySem.W.mg_of X G a13) k13 (F13.binds (ps := ["before", "after"]) fun _ _ _ _ _ _ us hl => match us, hl with | [_, _], _ => rfl)
  have Q14 : ∀ base : Heap, DefOk l.prog w K mg base "_law_lists" 4 spLists := fun base => def_ok (ok_lists F14 T (Q9 base) (Q11 base)) (PySem.W.mg_of X G a14) k14 (F14.binds (ps := ["state"]) fun _ _ _ _ _ _ us hl => match us, hl with | [_], _ => rfl)
  have Q15 : ∀ base : Heap, DefOk l.prog w K mg base "_law_is_pair" 1 spPair := fun base => def_ok (ok_pair F15 T) (PySem.W.mg_of X G a15) k15 (F15.binds (ps := ["thing"]) fun _ _ _ _ _ _ us hl => match us, hl with | [_], _ => rfl)
  have Q16 : ∀ base : Heap, DefOk l.prog w K mg base "_law_right" 4 spRight := fun base => def_ok (ok_right F16 T (Q5 base) (Q6 base) (Q7 base) (Q13 base) (Q15 base)) (PySem.W.mg_of X G a16) k16 (F16.binds (ps := ["before", "between", "after"]) fun _ _ _ _ _ _ us hl => match us, hl with | [_, _, _], _ => rfl)
  exact ⟨PySem.W.fnOf "law" "law" (defArgs sLaw) (defBody sLaw) (defScope sLaw) .none kV17 dc17 pm17 an17 cd17 ct17, fun s v => .of_eq rfl, fun base _ _ => ok_law F17 T (Q8 base) (Q14 base) (Q16 base)⟩

theorem rds_ints {K : PySem.W.Frag} {B : Hp} : ∀ ns : List Int, RDs K B (ns.map dI) (ns.map V.int)
  | [] => by simp only [List.map_nil, RDs]
  | n :: ns => by
    simp only [List.map_cons, RDs, RD]
    exact ⟨_, _, rfl, rfl, rds_ints ns⟩
theorem start {K : PySem.W.Frag} {H : Hp} {a : Addr} {ns : List Int} (hl : ns.length ≤ 63) (hS : SqL K H a (ns.map V.int)) : lft K spLaw [.ref a] H (fun v _ => v = .bl true) fun _ _ _ => False := by
  refine ⟨H, H, [], [.d (.l (ns.map dI))], [], fun w O => w = .d (dB true), ⟨fun _ _ z => z, fun _ _ z => z, rfl, fun _ => [], ⟨fun n x e => by simp at e, fun n x e => by simp at e, fun n m x y _ e => by simp at e, fun n x e => by simp at e⟩⟩, ?_, ⟨ns, rfl, rfl, hl, rfl⟩, ?_⟩
  · simp only [RWfs, RWf, RD]
    exact ⟨_, [], [], [], rfl, rfl, ⟨⟨a, _, rfl, hS, rds_ints ns⟩, rfl⟩, rfl, rfl⟩
  · rintro v H' ⟨B', ρ', w, O', _, _, _, rw', rfl⟩
    simp only [RWf, RD] at rw'
    exact rw'.1
theorem walk {l : PySem.W.OpenLaw} {q : Program} {loose : List Str} {XP : (Str → Option Value) → Heap → Prop} {YP : World → Heap → Prop} {d : DefRec} {K : Params → PySem.W.Frag} (hn : l.most = some 63) (hdf : d.params.defaults = [])
    (hY : ∀ (w : World) (h : Heap), YP w h → (K w.params).In h)
    (F : ∀ (w : World) (mg : Str → Option Value) (fa : Addr) (h : Heap), (K w.params).In h → h.Ns mainGlobals mg → mg d.name = some (.ref fa) →
      ∃ fd : FuncData, (∀ (s : Shared) (u : Value), BindsTo s fd ⟨[u], []⟩ [("script", u)]) ∧ ∀ base : Heap, (K w.params).In base → base.Ns mainGlobals mg → FnOk l.prog w (K w.params) mg base CX0 5 fa fd ["script"] (lft (K w.params) spLaw)) :
    PySem.W.WalkO q loose XP YP l.row.toRowW d [] (fun f vs => PySem.call f vs) :=
  L2.walk_of (n := 63) (k := 5) (x := "script") (CX := fun _ => CX0) (sp := fun w => lft (K w.params) spLaw) hn (by decide) hdf ⟨rfl, by decide, by decide⟩ hY F (fun _ _ a ns hl _ hS => start hl hS) fun _ _ _ _ _ z => z
end K86
open PySem PySem.W PyProof.Rows
set_option maxRecDepth 100000 in
set_option maxHeartbeats 0 in
theorem PySem.Challenge.cw_planstead_k86_differences_of_rows_holds : PySem.Challenge.rw_planstead_k86_differences_of_rows.Holds := by
  w_on; o_law; k_head; (case hw => w_witness2)
  k_fill
  refine K86.walk (l := PySem.Challenge.rw_planstead_k86_differences_of_rows) rfl rfl (fun w h Y => PySem.W.kIn_of Y) ?F
  case F =>
    intro w mg fa h KX G hmg
    refine' K86.all_mk KX G hmg ?a0 ?l0 ?c0 ?k0 ?a1 ?l1 ?c1 ?k1 ?a2 ?l2 ?c2 ?k2 ?a3 ?l3 ?c3 ?k3 ?a4 ?l4 ?c4 ?k4 ?a5 ?l5 ?c5 ?k5 ?a6 ?l6 ?c6 ?k6 ?a7 ?l7 ?c7 ?k7 ?a8 ?l8 ?c8 ?k8 ?a9 ?l9 ?c9 ?k9 ?a10 ?l10 ?c10 ?k10 ?a11 ?l11 ?c11 ?k11 ?a12 ?l12 ?c12 ?k12 ?a13 ?l13 ?c13 ?k13 ?a14 ?l14 ?c14 ?k14 ?a15 ?l15 ?c15 ?k15 ?a16 ?l16 ?c16 ?k16 ?a17 ?l17 ?c17 ?k17 ?z0 ?z1 ?z2 ?z3 ?z4 ?z5 ?z6 ?z7 ?z8 ?z9
    (case a0 => k_is); (case l0 => k_is); (case c0 => k_is); (case k0 => k_is); (case a1 => k_is); (case l1 => k_is); (case c1 => k_is); (case k1 => k_is)
    (case a2 => k_is); (case l2 => k_is); (case c2 => k_is); (case k2 => k_is); (case a3 => k_is); (case l3 => k_is); (case c3 => k_is); (case k3 => k_is)
    (case a4 => k_is); (case l4 => k_is); (case c4 => k_is); (case k4 => k_is); (case a5 => k_is); (case l5 => k_is); (case c5 => k_is); (case k5 => k_is)
    (case a6 => k_is); (case l6 => k_is); (case c6 => k_is); (case k6 => k_is); (case a7 => k_is); (case l7 => k_is); (case c7 => k_is); (case k7 => k_is)
    (case a8 => k_is); (case l8 => k_is); (case c8 => k_is); (case k8 => k_is); (case a9 => k_is); (case l9 => k_is); (case c9 => k_is); (case k9 => k_is)
    (case a10 => k_is); (case l10 => k_is); (case c10 => k_is); (case k10 => k_is); (case a11 => k_is); (case l11 => k_is); (case c11 => k_is); (case k11 => k_is)
    (case a12 => k_is); (case l12 => k_is); (case c12 => k_is); (case k12 => k_is); (case a13 => k_is); (case l13 => k_is); (case c13 => k_is); (case k13 => k_is)
    (case a14 => k_is); (case l14 => k_is); (case c14 => k_is); (case k14 => k_is); (case a15 => k_is); (case l15 => k_is); (case c15 => k_is); (case k15 => k_is)
    (case a16 => k_is); (case l16 => k_is); (case c16 => k_is); (case k16 => k_is); (case a17 => k_is); (case l17 => k_is); (case c17 => k_is); (case k17 => k_is)
    (case z0 => k_is); (case z1 => k_is); (case z2 => k_is); (case z3 => k_is); (case z4 => k_is); (case z5 => k_is); (case z6 => k_is); (case z7 => k_is)
    (case z8 => k_is); (case z9 => k_is)
#print axioms PySem.Challenge.cw_planstead_k86_differences_of_rows_holds

