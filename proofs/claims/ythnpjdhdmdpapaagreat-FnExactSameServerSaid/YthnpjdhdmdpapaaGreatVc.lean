import Derived.Test.YthnpjdhdmdpapaaGreatVb
set_option linter.unusedVariables false
set_option linter.unusedSimpArgs false
namespace Go.Proofs.Vai
open Go
set_option linter.unusedVariables false

/-! ### What symbolic data stand for -/
section
variable (T : Tab)
/-- One cell of a row. -/
def encCell (f : (b : Nat) → Fg → T.W b → List D) (c : CK) (p : Bool × Fg) (l : T.Lf) : D := match c, l with
  | .i k, .i n => .i k n
  | .b, .b t => .b t
  | .s, .s x => .s x
  | .sl _, .l b xs => .sl p.1 (T.kinds b).length (xs.map (f b p.2))
  | _, _ => .dead
def encCells (f : (b : Nat) → Fg → T.W b → List D) (fg : Fg) : Nat → List CK → List T.Lf → List D
  | j, c :: cs, l :: ls => encCell T f c (fgAt (AP T) c (fg.raw j)) l :: encCells f fg (j + 1) cs ls
  | _, _, _ => []
def encF : Nat → (b : Nat) → Fg → T.W b → List D
  | 0, _, _, _ => []
  | n + 1, b, fg, x => encCells T (encF n) fg 0 (T.kinds b) (splitP T b x)
/-- A row's cells. -/
def encW (b : Nat) (fg : Fg) (x : T.W b) : List D := encF T (b + 1) b fg x
/-- The table is right. -/
structure TabOK : Prop where
  lt : ∀ b b', CK.sl b' ∈ T.kinds b → b' < b
  un : ∀ b t x, T.mkr b t = some x → T.un b x = some t
  mkt : ∀ b t, T.kinds b ≠ [] → ∃ x, T.mkr b t = some x
def fit1 (c : CK) (l : T.Lf) : Prop := match c, l with
  | .i _, .i _ => True
  | .b, .b _ => True
  | .s, .s _ => True
  | .sl b, .l b' _ => b' = b
  | _, _ => False
def Fits : List CK → List T.Lf → Prop
  | [], [] => True
  | c :: cs, l :: ls => fit1 T c l ∧ Fits cs ls
  | _, _ => False
end
section
variable {T : Tab}
theorem toLf_fit : ∀ (c : CK) (x : kty T.W (ckK c)), fit1 T c (toLf T.W (ckK c) x)
  | .i _, _ => trivial
  | .b, _ => trivial
  | .s, _ => trivial
  | .sl _, _ => rfl
theorem unpT_fits : ∀ (cs : List CK) (t : TT T.W (cs.map ckK)), Fits T cs (unpT T.W (cs.map ckK) t)
  | [], _ => trivial
  | [c], t => ⟨toLf_fit c t, trivial⟩
  | c :: c' :: cs, t => ⟨toLf_fit c t.1, unpT_fits (c' :: cs) t.2⟩
theorem split_eq (b : Nat) (x : T.W b) : splitP T b x = match T.un b x with
    | some t => unpT T.W ((T.kinds b).map ckK) t
    | none => [] := rfl
theorem split_fits {b : Nat} {x : T.W b} (h : splitP T b x ≠ []) : Fits T (T.kinds b) (splitP T b x) := by
  rw [split_eq] at h ⊢
  cases hu : T.un b x with
  | none => rw [hu] at h; exact absurd rfl h
  | some t => exact unpT_fits _ t
theorem encCells_congr {f g : (b : Nat) → Fg → T.W b → List D} {fg : Fg} {N : Nat} (h : ∀ b, b < N → f b = g b) : ∀ (j : Nat) (cs : List CK) (ls : List T.Lf), Fits T cs ls → (∀ b, CK.sl b ∈ cs → b < N) → encCells T f fg j cs ls = encCells T g fg j cs ls
  | j, [], ls, _, _ => by simp [encCells]
  | j, c :: cs, [], _, _ => by simp [encCells]
  | j, c :: cs, l :: ls, hf, hb => by
    simp only [encCells]
    rw [encCells_congr h (j + 1) cs ls hf.2 fun b hb' => hb b (List.mem_cons_of_mem _ hb')]
    congr 1
    have h1 := hf.1
    unfold encCell
    unfold fit1 at h1
    split
    all_goals try rfl
    rename_i b b' xs
    simp only at h1
    subst h1
    rw [h _ (hb _ List.mem_cons_self)]
theorem encF_stable (hT : TabOK T) : ∀ (b n m : Nat), b < n → b < m → encF T n b = encF T m b := by
  intro b
  induction b using Nat.strongRecOn with
  | _ b ih =>
    intro n m hn hm
    obtain ⟨n, rfl⟩ : ∃ k, n = k + 1 := ⟨n - 1, by omega⟩
    obtain ⟨m, rfl⟩ : ∃ k, m = k + 1 := ⟨m - 1, by omega⟩
    funext fg x
    simp only [encF]
    by_cases he : splitP T b x = []
    · rw [he]; cases T.kinds b <;> simp [encCells]
    · exact encCells_congr (N := b) (fun b' hb' => ih b' hb' n m (by omega) (by omega)) _ _ _ (split_fits he) fun b' hb' => hT.lt _ _ hb'
theorem encW_eq (hT : TabOK T) (b : Nat) (fg : Fg) (x : T.W b) : encW T b fg x = encCells T (encW T) fg 0 (T.kinds b) (splitP T b x) := by
  show encF T (b + 1) b fg x = _
  rw [encF]
  by_cases he : splitP T b x = []
  · rw [he]; cases T.kinds b <;> simp [encCells]
  · exact encCells_congr (N := b) (fun b' hb' => by funext fg y; rw [encF_stable hT b' b (b' + 1) hb' (by omega)]; rfl) _ _ _ (split_fits he) fun b' hb' => hT.lt _ _ hb'
end

/-! ### Data, values, states -/
/-- How far the counters are off. -/
structure Dl where
  e : Nat → Nat
  h : Nat → Nat
  x : Nat → Nat
def Dl.ver (δ : Dl) (k : Nat) : Bool → Nat
  | false => δ.h k
  | true => δ.e k
def pkD : (k : PK) → k.ty → D
  | .i k, n => .i k n
  | .b, t => .b t
  | .s, x => .s x
section
variable (T : Tab) (δ : Dl)
def stN (st : Option (Int × Nat)) : Option (Nat × Nat) := st.map fun p => (p.1.toNat, p.2)
mutual
def dn : DD (AP T) → D
  | .i k x => .i k x
  | .b x => .b x
  | .bk t => .b t
  | .s x => .s x
  | .nilp => .nilp
  | .sl ow b fg x => .sl ow (T.kinds b).length (List.map (encW T b fg) x)
  | .nl ow w => .sl ow w []
  | .pt cs => .pt (dns cs)
  | .fn f cs => .fn f (dns cs)
  | .mp k v m => .mp (List.map (fun p => (pkD k p.1, pkD v p.2)) m)
  | .mn => .mp []
  | .al k j st n => .al k j (stN st) (n + δ.ver k st.isSome)
  | .bp k off n => .bp k off (n + δ.x k)
  | .el k j st i off n => .el k j (stN st) i.toNat off (n + δ.e k)
  | .und => .und
  | .dead => .dead
def dns : List (DD (AP T)) → List D
  | [] => []
  | d :: ds => dn d :: dns ds
end
theorem dns_map : ∀ ds : List (DD (AP T)), dns T δ ds = ds.map (dn T δ)
  | [] => by simp [dns]
  | d :: ds => by simp [dns, dns_map ds]
def dv : VV (AP T) → V
  | .leaf d => .leaf (dn T δ d)
  | .agg ds => .agg (ds.map (dn T δ))
  | .box ds => .box (ds.map (dn T δ))
  | _ => .leaf .dead
end
section
variable {T : Tab}
def VV.real (v : VV (AP T)) : Prop := match v with
  | .gone => False
  | .ref _ => False
  | _ => True
def RSl (δ : Dl) (k : Nat) (s : Sx (AP T)) (r : Sl) : Prop :=
  r.e = s.e + δ.e k ∧ r.h = s.h + δ.h k ∧ r.x = s.x + δ.x k ∧ (s.c.real → r.c = dv T δ s.c)
/-- The slot, looked up. -/
def Sx.look (t : List (VV (AP T))) (s : Sx (AP T)) : Sx (AP T) := ⟨lookR t s.c, s.e, s.h, s.x⟩
def RS (δ : Dl) (t : List (VV (AP T))) (S : SS (AP T)) (R : St) : Prop :=
  S.length = R.length ∧ (∀ k s r, S[k]? = some s → R[k]? = some r → RSl δ k (s.look t) r) ∧ ∀ (k : Nat) (s : Sx (AP T)) (i : Nat), S[k]? = some s → s.c = .ref i → i < t.length
def Pg.runG {α : Type} (l : Option (List Nat × List Nat)) (p : Pg α) (S : St) : Option (α × St) := match l with
  | none => p.run S
  | some q => p.runIn q.1 q.2 S
theorem Pg.run_bind {α β : Type} : ∀ (p : Pg α) (f : α → Pg β) (S : St), (p.bind f).run S = match p.run S with
    | some (a, S') => (f a).run S'
    | none => none
  | .ret a, f, S => rfl
  | .fail, f, S => rfl
  | .rd k g, f, S => by
    simp only [Pg.bind, Pg.run]
    cases S[k]? with
    | none => rfl
    | some s => exact Pg.run_bind (g s) f S
  | .wr k s p, f, S => by
    simp only [Pg.bind, Pg.run]
    split
    · exact Pg.run_bind p f _
    · rfl
theorem Pg.runIn_bind {α β : Type} {rs ws : List Nat} : ∀ (p : Pg α) (f : α → Pg β) (S : St), (p.bind f).runIn rs ws S = match p.runIn rs ws S with
    | some (a, S') => (f a).runIn rs ws S'
    | none => none
  | .ret a, f, S => rfl
  | .fail, f, S => rfl
  | .rd k g, f, S => by
    simp only [Pg.bind, Pg.runIn]
    split
    · cases S[k]? with
      | none => rfl
      | some s => exact Pg.runIn_bind (g s) f S
    · rfl
  | .wr k s p, f, S => by
    simp only [Pg.bind, Pg.runIn]
    split
    · exact Pg.runIn_bind p f _
    · rfl
theorem Pg.runG_bind {α β : Type} (l : Option (List Nat × List Nat)) (p : Pg α) (f : α → Pg β) (S : St) : (p.bind f).runG l S = match p.runG l S with
    | some (a, S') => (f a).runG l S'
    | none => none := by
  cases l with
  | none => exact Pg.run_bind p f S
  | some q => exact Pg.runIn_bind p f S

/-! ### A symbolic run against the real one -/
variable {R : Type}
/-- What m computes is what p does, up to rel. -/
def Snd {α β : Type} (G : Gd (AP T)) (δ : Dl) (m : MM (AP T) R α) (p : Pg β) (rel : α → β → Prop) : Prop :=
  ∀ (S : SS (AP T)) (W : St) (κ : α → SS (AP T) → Option R) (r : R), RS δ G.t S W → m S κ = some r →
    ∃ a b S' W', p.runG G.l W = some (b, W') ∧ rel a b ∧ RS δ G.t S' W' ∧ κ a S' = some r
/-- Something looked at alone. -/
def Pur {α : Type} (m : MM (AP T) R α) (φ : α → Prop) : Prop :=
  ∀ (S : SS (AP T)) (κ : α → SS (AP T) → Option R) (r : R), m S κ = some r → ∃ a, φ a ∧ κ a S = some r
variable {G : Gd (AP T)} {δ : Dl} {α β γ ε : Type}
theorem Snd.okk {a : α} {b : β} {rel : α → β → Prop} (h : rel a b) : Snd (R := R) G δ (ok a) (.ret b) rel := fun S W κ r hS hm => by
  refine ⟨a, b, S, W, ?_, h, hS, hm⟩
  unfold Pg.runG
  cases G.l <;> rfl
theorem Snd.nno {n : Nat} {p : Pg β} {rel : α → β → Prop} : Snd (R := R) G δ (no n) p rel := fun S W κ r hS hm => by cases hm
theorem Snd.bnd {m : MM (AP T) R α} {f : α → MM (AP T) R γ} {p : Pg β} {g : β → Pg ε} {r1 : α → β → Prop} {r2 : γ → ε → Prop} (h1 : Snd G δ m p r1) (h2 : ∀ a b, r1 a b → Snd G δ (f a) (g b) r2) : Snd G δ (bd m f) (p.bind g) r2 := fun S W κ r hS hm => by
  obtain ⟨a, b, S', W', e1, e2, e3, e4⟩ := h1 S W (fun a S' => f a S' κ) r hS hm
  obtain ⟨c, d, S2, W2, q1, q2, q3, q4⟩ := h2 a b e2 S' W' κ r e3 e4
  exact ⟨c, d, S2, W2, by rw [Pg.runG_bind, e1]; exact q1, q2, q3, q4⟩
theorem Snd.pur {m : MM (AP T) R α} {φ : α → Prop} (hm : Pur m φ) {f : α → MM (AP T) R γ} {p : Pg β} {rel : γ → β → Prop} (h : ∀ a, φ a → Snd G δ (f a) p rel) : Snd G δ (bd m f) p rel := fun S W κ r hS hr => by
  obtain ⟨a, ha, h2⟩ := hm S (fun a S' => f a S' κ) r hr
  exact h a ha S W κ r hS h2
theorem Snd.mono {m : MM (AP T) R α} {p : Pg β} {r1 r2 : α → β → Prop} (h : Snd G δ m p r1) (hr : ∀ a b, r1 a b → r2 a b) : Snd G δ m p r2 := fun S W κ r hS hm => by
  obtain ⟨a, b, S', W', e1, e2, e3, e4⟩ := h S W κ r hS hm
  exact ⟨a, b, S', W', e1, hr _ _ e2, e3, e4⟩
theorem Pur.okk {a : α} {φ : α → Prop} (h : φ a) : Pur (T := T) (R := R) (ok a) φ := fun S κ r hr => ⟨a, h, hr⟩
theorem Pur.nno {n : Nat} {φ : α → Prop} : Pur (T := T) (R := R) (no n) φ := fun S κ r hr => by cases hr
theorem Pur.bnd {m : MM (AP T) R α} {f : α → MM (AP T) R γ} {φ : α → Prop} {ψ : γ → Prop} (h : Pur m φ) (h2 : ∀ a, φ a → Pur (f a) ψ) : Pur (bd m f) ψ := fun S κ r hr => by
  obtain ⟨a, ha, h3⟩ := h S (fun a S' => f a S' κ) r hr
  exact h2 a ha S κ r h3
theorem Pur.mono {m : MM (AP T) R α} {φ ψ : α → Prop} (h : Pur m φ) (hp : ∀ a, φ a → ψ a) : Pur m ψ := fun S κ r hr => by
  obtain ⟨a, ha, h3⟩ := h S κ r hr
  exact ⟨a, hp a ha, h3⟩
theorem Pur.ofOo {n : Nat} {q : Option α} : Pur (T := T) (R := R) (ofO n q) (fun a => q = some a) := fun S κ r hr => by
  cases q with
  | none => cases hr
  | some a => exact ⟨a, rfl, hr⟩
theorem Pur.mustt {n : Nat} {c : Bool} : Pur (T := T) (R := R) (must (A := AP T) n c) (fun _ => c = true) := fun S κ r hr => by
  cases c with
  | true => exact ⟨(), rfl, hr⟩
  | false => cases hr
theorem Pur.letI {x : Int} : Pur (T := T) (R := R) (letI' (A := AP T) x) (fun y => y = x) := fun S κ r hr => ⟨x, rfl, hr⟩
theorem Pur.letS {x : ByteArray} : Pur (T := T) (R := R) (letS' (A := AP T) x) (fun y => y = x) := fun S κ r hr => ⟨x, rfl, hr⟩
theorem Pur.letL {b : Nat} {x : List (T.W b)} : Pur (T := T) (R := R) (letL' (A := AP T) b x) (fun y => y = x) := fun S κ r hr => ⟨x, rfl, hr⟩
theorem Pur.iff_ {c : Prop} [Decidable c] {m : MM (AP T) R α} {n : Nat} {φ : α → Prop} (h : c → Pur m φ) : Pur (if c then m else no n) φ := by
  split
  · rename_i hc; exact h hc
  · exact Pur.nno
theorem Snd.iff_ {c c' : Prop} [Decidable c] [Decidable c'] {m : MM (AP T) R α} {n : Nat} {p q : Pg β} {rel : α → β → Prop} (hc : c → c') (h : c → Snd G δ m p rel) : Snd G δ (if c then m else no n) (if c' then p else q) rel := by
  split
  · rename_i h1; rw [if_pos (hc h1)]; exact h h1
  · exact Snd.nno
theorem Snd.iffL {c : Prop} [Decidable c] {m : MM (AP T) R α} {n : Nat} {p : Pg β} {rel : α → β → Prop} (h : c → Snd G δ m p rel) : Snd G δ (if c then m else no n) p rel := by
  split
  · rename_i h1; exact h h1
  · exact Snd.nno
theorem Snd.rd {k : Nat} {f : Sx (AP T) → MM (AP T) R γ} {g : Sl → Pg β} {rel : γ → β → Prop} (h : ∀ s r, RSl δ k s r → Snd G δ (f s) (g r) rel) : Snd G δ (bd (rdS G k) f) (.rd k g) rel := fun S W κ r hS hr => by
  unfold Go.Proofs.Vai.bd rdS at hr
  split at hr
  · rename_i hg
    split at hr
    · rename_i s hs
      obtain ⟨w, hw⟩ : ∃ w, W[k]? = some w := by
        have hl : k < W.length := by rw [← hS.1]; exact (List.getElem?_eq_some_iff.1 hs).1
        exact ⟨W[k], List.getElem?_eq_getElem hl⟩
      obtain ⟨a, b, S', W', e1, e2, e3, e4⟩ := h _ w (hS.2.1 k s w hs hw) S W κ r hS hr
      refine ⟨a, b, S', W', ?_, e2, e3, e4⟩
      unfold Pg.runG at e1 ⊢
      unfold Gd.r at hg
      split
      · rename_i hl
        rw [hl] at e1
        simp only [Pg.run, hw]
        exact e1
      · rename_i q hl
        rw [hl] at e1 hg
        simp only [Pg.runIn, hw]
        rw [if_pos hg]
        exact e1
    · cases hr
  · cases hr
theorem RS.set {t : List (VV (AP T))} {S : SS (AP T)} {W : St} (h : RS δ t S W) {k : Nat} {s : Sx (AP T)} {w : Sl} (hs : RSl δ k (s.look t) w) (hr : ∀ i, s.c = .ref i → i < t.length) : RS δ t (S.set k s) (W.set k w) := by
  refine ⟨by simp [h.1], fun j s' w' hj hw => ?_, fun j s' i hj hc => ?_⟩
  · by_cases e : k = j
    · subst e
      rw [List.getElem?_set] at hj hw
      simp only [if_true] at hj hw
      split at hj
      · split at hw
        · obtain rfl := Option.some.inj hj
          obtain rfl := Option.some.inj hw
          exact hs
        · cases hw
      · cases hj
    · rw [List.getElem?_set_ne e] at hj hw
      exact h.2.1 j s' w' hj hw
  · by_cases e : k = j
    · subst e
      rw [List.getElem?_set] at hj
      simp only [if_true] at hj
      split at hj
      · obtain rfl := Option.some.inj hj
        exact hr i hc
      · cases hj
    · rw [List.getElem?_set_ne e] at hj
      exact h.2.2 j s' i hj hc
theorem lookR_real {t : List (VV (AP T))} {v : VV (AP T)} (h : v.real) : lookR t v = v := by
  unfold VV.real at h
  cases v with
  | ref i => exact absurd h (by simp)
  | _ => rfl
theorem Snd.wr {k : Nat} {s : Sx (AP T)} {w : Sl} {f : Unit → MM (AP T) R γ} {p : Pg β} {rel : γ → β → Prop} (hs : s.c.real → RSl δ k s w) (hn : ¬ s.c.real → s.c = .gone ∧ w.e = s.e + δ.e k ∧ w.h = s.h + δ.h k ∧ w.x = s.x + δ.x k) (h : Snd G δ (f ()) p rel) : Snd G δ (bd (wrS G k s) f) (.wr k w p) rel := fun S W κ r hS hr => by
  unfold Go.Proofs.Vai.bd wrS at hr
  split at hr
  · rename_i hc
    simp only [Bool.and_eq_true, decide_eq_true_eq] at hc
    have hsl : RSl δ k (s.look G.t) w := by
      by_cases hre : s.c.real
      · have : s.look G.t = s := by unfold Sx.look; rw [lookR_real hre]
        rw [this]; exact hs hre
      · obtain ⟨e1, e2, e3, e4⟩ := hn hre
        refine ⟨e2, e3, e4, fun hh => ?_⟩
        simp only [Sx.look, e1, lookR, VV.real] at hh
    have hrf : ∀ i, s.c = .ref i → i < G.t.length := fun i hi => by
      by_cases hre : s.c.real
      · rw [hi] at hre; exact absurd hre (by simp [VV.real])
      · rw [(hn hre).1] at hi; cases hi
    obtain ⟨a, b, S', W', e1, e2, e3, e4⟩ := h _ _ κ r (hS.set hsl hrf) hr
    refine ⟨a, b, S', W', ?_, e2, e3, e4⟩
    have hk : k < W.length := by rw [← hS.1]; exact hc.2
    unfold Pg.runG at e1 ⊢
    have hg := hc.1
    unfold Gd.w at hg
    split
    · rename_i hl
      rw [hl] at e1
      simp only [Pg.run, if_pos hk]
      exact e1
    · rename_i q hl
      rw [hl] at e1 hg
      simp only [Pg.runIn]
      rw [if_pos (by simp [hk]; simpa using hg)]
      exact e1
  · cases hr
theorem Snd.wr' {k : Nat} {s : Sx (AP T)} {w : Sl} {rel : Unit → Unit → Prop} (hs : s.c.real → RSl δ k s w) (hn : ¬ s.c.real → s.c = .gone ∧ w.e = s.e + δ.e k ∧ w.h = s.h + δ.h k ∧ w.x = s.x + δ.x k) (h : rel () ()) : Snd (R := R) G δ (wrS G k s) (.wr k w (.ret ())) rel := by
  have := Snd.wr (R := R) (G := G) (δ := δ) (f := fun _ => Go.Proofs.Vai.ok ()) (p := .ret ()) (rel := rel) hs hn (Snd.okk h)
  exact this
theorem RSl.up0 {k : Nat} {s : Sx (AP T)} {r : Sl} (h : RSl δ k s r) {v : VV (AP T)} {v' : V} (hv : v.real → v' = dv T δ v) : RSl δ k (s.up0 v) (r.up0 v') := ⟨by simp [Sx.up0, Sl.up0, h.1]; omega, by simp [Sx.up0, Sl.up0, h.2.1], by simp [Sx.up0, Sl.up0, h.2.2.1], hv⟩
theorem RSl.up1 {k : Nat} {s : Sx (AP T)} {r : Sl} (h : RSl δ k s r) {v : VV (AP T)} {v' : V} (hv : v.real → v' = dv T δ v) : RSl δ k (s.up1 v) (r.up1 v') := ⟨by simp [Sx.up1, Sl.up1, h.1]; omega, by simp [Sx.up1, Sl.up1, h.2.1]; omega, by simp [Sx.up1, Sl.up1, h.2.2.1], hv⟩
theorem RSl.up2 {k : Nat} {s : Sx (AP T)} {r : Sl} (h : RSl δ k s r) {v : VV (AP T)} {v' : V} (hv : v.real → v' = dv T δ v) : RSl δ k (s.up2 v) (r.up2 v') := ⟨by simp [Sx.up2, Sl.up2, h.1]; omega, by simp [Sx.up2, Sl.up2, h.2.1]; omega, by simp [Sx.up2, Sl.up2, h.2.2.1]; omega, hv⟩
theorem RSl.ver {k : Nat} {s : Sx (AP T)} {r : Sl} (h : RSl δ k s r) (st : Option (Int × Nat)) (n : Nat) : n = s.ver st.isSome ↔ n + δ.ver k st.isSome = r.ver (stN st) := by
  cases st with
  | none => simp only [stN, Option.map_none, Sl.ver, Option.isSome_none, Sx.ver, Dl.ver, h.2.1]; omega
  | some p => simp only [stN, Option.map_some, Sl.ver, Option.isSome_some, Sx.ver, Dl.ver, h.1]; omega
end
end Go.Proofs.Vai

namespace Go.Proofs.Vai
open Go
set_option linter.unusedVariables false

section
variable {T : Tab} {δ : Dl}
/-! ### Rows -/
theorem cellK_enc {c : CK} {p : Bool × Fg} {l : T.Lf} {d : DD (AP T)} (h : cellK c p l = some d) : dn T δ d = encCell T (encW T) c p l := by
  unfold cellK at h
  split at h
  · obtain rfl := Option.some.inj h; simp [dn, encCell]
  · obtain rfl := Option.some.inj h; simp [dn, encCell]
  · obtain rfl := Option.some.inj h; simp [dn, encCell]
  · split at h
    · obtain rfl := Option.some.inj h; simp [dn, encCell]
    · cases h
  · cases h
theorem cellsOf_enc {fg : Fg} : ∀ {j : Nat} {cs : List CK} {ls : List T.Lf} {ds : List (DD (AP T))}, cellsOf (A := AP T) fg j cs ls = some ds → encCells T (encW T) fg j cs ls = ds.map (dn T δ)
  | j, [], [], ds, h => by simp only [cellsOf] at h; obtain rfl := Option.some.inj h; rfl
  | j, [], _ :: _, ds, h => by simp [cellsOf] at h
  | j, _ :: _, [], ds, h => by simp [cellsOf] at h
  | j, c :: cs, l :: ls, ds, h => by
    simp only [cellsOf] at h
    split at h
    · rename_i d ds' h1 h2
      obtain rfl := Option.some.inj h
      simp only [encCells, List.map_cons]
      rw [cellK_enc (δ := δ) h1, cellsOf_enc h2]
    · cases h
theorem rowCells_enc (hT : TabOK T) {b : Nat} {fg : Fg} {x : T.W b} {ds : List (DD (AP T))} (h : rowCells (A := AP T) b fg x = some ds) : encW T b fg x = ds.map (dn T δ) := by
  rw [encW_eq hT]; exact cellsOf_enc h
theorem leafOf_enc {c : CK} {p : Bool × Fg} {d : DD (AP T)} {l : T.Lf} (h : leafOf c p d = some l) : encCell T (encW T) c p l = dn T δ d := by
  unfold leafOf at h
  split at h
  · split at h
    · rename_i hk
      obtain rfl := Option.some.inj h
      subst hk
      simp [dn, encCell]
    · cases h
  · obtain rfl := Option.some.inj h; simp [dn, encCell]
  · obtain rfl := Option.some.inj h; simp [dn, encCell]
  · obtain rfl := Option.some.inj h; simp [dn, encCell]
  · split at h
    · rename_i hk
      obtain rfl := Option.some.inj h
      obtain ⟨rfl, rfl, rfl⟩ := hk
      simp [dn, encCell]
    · cases h
  · split at h
    · rename_i hk
      obtain rfl := Option.some.inj h
      obtain ⟨rfl, rfl⟩ := hk
      simp [dn, encCell]
    · cases h
  · cases h
theorem leavesOf_enc {fg : Fg} : ∀ {j : Nat} {cs : List CK} {ds : List (DD (AP T))} {ls : List T.Lf}, leavesOf (A := AP T) fg j cs ds = some ls → encCells T (encW T) fg j cs ls = ds.map (dn T δ)
  | j, [], [], ls, h => by simp only [leavesOf] at h; obtain rfl := Option.some.inj h; rfl
  | j, [], _ :: _, ls, h => by simp [leavesOf] at h
  | j, _ :: _, [], ls, h => by simp [leavesOf] at h
  | j, c :: cs, d :: ds, ls, h => by
    simp only [leavesOf] at h
    split at h
    · rename_i l ls' h1 h2
      obtain rfl := Option.some.inj h
      simp only [encCells, List.map_cons]
      rw [leafOf_enc (δ := δ) h1, leavesOf_enc h2]
    · cases h
theorem ofLf_toLf {W : Nat → Type} : ∀ {k : K} {l : LfP W} {x : kty W k}, ofLf W k l = some x → toLf W k x = l
  | .i, l, x, h => by cases l <;> simp [ofLf] at h; subst h; rfl
  | .b, l, x, h => by cases l <;> simp [ofLf] at h; subst h; rfl
  | .s, l, x, h => by cases l <;> simp [ofLf] at h; subst h; rfl
  | .l b, l, x, h => by
    cases l <;> simp [ofLf] at h
    obtain ⟨rfl, rfl⟩ := h
    rfl
  | .w b, l, x, h => by
    cases l <;> simp [ofLf] at h
    obtain ⟨rfl, rfl⟩ := h
    rfl
  | .m k v, l, x, h => by
    cases l <;> simp [ofLf] at h
    obtain ⟨⟨rfl, rfl⟩, rfl⟩ := h
    rfl
theorem toLf_ofLf {W : Nat → Type} : ∀ (k : K) (x : kty W k), ofLf W k (toLf W k x) = some x
  | .i, _ => rfl
  | .b, _ => rfl
  | .s, _ => rfl
  | .l _, _ => by simp [toLf, ofLf]
  | .w _, _ => by simp [toLf, ofLf]
  | .m _ _, _ => by simp [toLf, ofLf]
theorem packT_unpT {W : Nat → Type} : ∀ {ks : List K} {ls : List (LfP W)} {t : TT W ks}, packT W ks ls = some t → unpT W ks t = ls
  | [], [], t, h => rfl
  | [], _ :: _, t, h => by simp [packT] at h
  | [k], [l], t, h => by simp only [packT] at h; simp only [unpT]; rw [ofLf_toLf h]
  | [k], [], t, h => by simp [packT] at h
  | [k], _ :: _ :: _, t, h => by simp [packT] at h
  | k :: k' :: r, [], t, h => by simp [packT] at h
  | k :: k' :: r, l :: ls, t, h => by
    simp only [packT] at h
    split at h
    · rename_i x y h1 h2
      obtain rfl := Option.some.inj h
      simp only [unpT]
      rw [ofLf_toLf h1, packT_unpT h2]
    · cases h
theorem unpT_packT {W : Nat → Type} : ∀ (ks : List K) (t : TT W ks), packT W ks (unpT W ks t) = some t
  | [], _ => rfl
  | [k], t => toLf_ofLf k t
  | k :: k' :: r, t => by
    simp only [unpT, packT]
    rw [toLf_ofLf, unpT_packT (k' :: r) t.2]
theorem join_split (hT : TabOK T) {b : Nat} {ls : List T.Lf} {x : T.W b} (h : joinP T b ls = some x) : splitP T b x = ls := by
  unfold joinP at h
  split at h
  · rename_i t ht
    rw [split_eq, hT.un b t x h]
    exact packT_unpT ht
  · cases h
theorem joinRow_enc (hT : TabOK T) {b : Nat} {fg : Fg} {ds : List (DD (AP T))} {x : T.W b} (h : joinRow (A := AP T) b fg ds = some x) : encW T b fg x = ds.map (dn T δ) := by
  unfold joinRow at h
  simp only [Option.bind_eq_some_iff] at h
  obtain ⟨ls, h1, h2⟩ := h
  rw [encW_eq hT, join_split hT h2]
  exact leavesOf_enc h1

/-! ### Facts about what is there -/
theorem own_dn (d : DD (AP T)) : own (dn T δ d) = d.own := by
  cases d with
  | sl ow b fg x => cases ow <;> simp [dn, own, DD.own]
  | nl ow w => cases ow <;> simp [dn, own, DD.own]
  | _ => simp [dn, own, DD.own]
theorem isAl_dn (d : DD (AP T)) : (match dn T δ d with | .al _ _ _ _ | .bp _ _ _ | .el _ _ _ _ _ _ | .mp _ | .fn _ _ => false | _ => true) = !(d.isAl || d.isMp || d.isFn) := by
  cases d <;> simp [dn, DD.isAl, DD.isMp, DD.isFn]
theorem flat_dn (d : DD (AP T)) : flat (dn T δ d) = d.flat := by
  cases d with
  | fn f cs =>
    simp only [dn, flat, DD.flat, dns_map, List.all_map]
    congr 1
    funext d
    exact isAl_dn d
  | _ => simp [dn, flat, DD.flat, DD.isAl, DD.isMp]
theorem firm_dn (d : DD (AP T)) : firm (dn T δ d) = d.firm := by
  unfold firm
  rw [flat_dn]
  cases d <;> simp [dn, DD.firm]
theorem outAl_dn (d : DD (AP T)) : outAl (dn T δ d) = d.outAl := by
  cases d <;> simp [dn, outAl, DD.outAl, DD.isAl]
theorem isPtr_dn (d : DD (AP T)) : isPtr (dn T δ d) = d.isPtr := by
  cases d <;> simp [dn, isPtr, DD.isPtr]
theorem isPrim_dn (d : DD (AP T)) : isPrim (dn T δ d) = d.isPrim := by
  cases d <;> simp [dn, isPrim, DD.isPrim]
theorem kindD_dn (d : DD (AP T)) : kindD (dn T δ d) = kindD' d := by
  cases d <;> simp [dn, kindD, kindD']
theorem okc_dv (v : VV (AP T)) (h : v.okc = true) : (dv T δ v).okc = true := by
  cases v with
  | leaf d => simp only [VV.okc] at h; simp [dv, V.okc, firm_dn, h]
  | agg ds =>
    simp only [VV.okc] at h
    simp only [dv, V.okc, List.all_map]
    rw [← h]
    congr 1
    funext d
    exact flat_dn d
  | _ => simp [VV.okc] at h
theorem data_dv (v : VV (AP T)) (h : v.okc = true) : (dv T δ v).data = v.data.map (dn T δ) := by
  cases v with
  | leaf d => simp [dv, V.data, VV.data]
  | agg ds => simp [dv, V.data, VV.data]
  | _ => simp [VV.okc] at h
theorem data_dv' (v : VV (AP T)) (h : v.real) : (dv T δ v).data = v.data.map (dn T δ) := by
  cases v with
  | leaf d => simp [dv, V.data, VV.data]
  | agg ds => simp [dv, V.data, VV.data]
  | box ds => simp [dv, V.data, VV.data]
  | _ => simp [VV.real] at h
theorem all_flat_dn (ds : List (DD (AP T))) : (ds.map (dn T δ)).all flat = ds.all DD.flat := by
  rw [List.all_map]; congr 1; funext d; exact flat_dn d
theorem all_firm_dn (ds : List (DD (AP T))) : (ds.map (dn T δ)).all firm = ds.all DD.firm := by
  rw [List.all_map]; congr 1; funext d; exact firm_dn d
theorem any_own_dn (ds : List (DD (AP T))) : (ds.map (dn T δ)).any own = ds.any DD.own := by
  rw [List.any_map]; congr 1; funext d; exact own_dn d
theorem solid_dv (v : VV (AP T)) (h : v.solid = true) : solid (dv T δ v) = true ∧ v.real := by
  cases v with
  | leaf d => refine ⟨?_, trivial⟩; cases d <;> simp [VV.solid] at h <;> simp [dv, dn, solid]
  | agg ds => exact ⟨rfl, trivial⟩
  | box ds => exact ⟨rfl, trivial⟩
  | _ => simp [VV.solid] at h

/-! ### What is read alone -/
theorem flCells_map (ds : List D) : flCells ds = ds.map fl := by
  induction ds with
  | nil => simp [flCells]
  | cons d ds ih => simp [flCells, ih]
theorem flRows_map (ds : List (List D)) : flRows ds = ds.map flCells := by
  induction ds with
  | nil => simp [flRows]
  | cons d ds ih => simp [flRows, ih]
theorem fgAt_v (c : CK) (j : Nat) : fgAt (AP T) c (Fg.raw .v j) = (false, .v) := by
  unfold fgAt
  cases c <;> simp [Fg.raw]
theorem encCells_fl {fg : Fg} {N : Nat} (h : ∀ b, b < N → ∀ (fg : Fg) (x : T.W b), flCells (encW T b fg x) = encW T b .v x) : ∀ (j : Nat) (cs : List CK) (ls : List T.Lf), Fits T cs ls → (∀ b, CK.sl b ∈ cs → b < N) → flCells (encCells T (encW T) fg j cs ls) = encCells T (encW T) .v j cs ls
  | j, [], ls, _, _ => by simp [encCells, flCells]
  | j, c :: cs, [], _, _ => by simp [encCells, flCells]
  | j, c :: cs, l :: ls, hf, hb => by
    simp only [encCells, flCells]
    rw [encCells_fl h (j + 1) cs ls hf.2 fun b hb' => hb b (List.mem_cons_of_mem _ hb'), fgAt_v]
    congr 1
    have h1 := hf.1
    unfold encCell
    unfold fit1 at h1
    split
    · simp [fl]
    · simp [fl]
    · simp [fl]
    · rename_i b b' xs
      simp only at h1
      subst h1
      simp only [fl, flRows_map, List.map_map]
      congr 1
      apply List.map_congr_left
      intro x _
      exact h _ (hb _ List.mem_cons_self) _ x
    · simp [fl]
theorem encW_fl (hT : TabOK T) : ∀ (b : Nat) (fg : Fg) (x : T.W b), flCells (encW T b fg x) = encW T b .v x := by
  intro b
  induction b using Nat.strongRecOn with
  | _ b ih =>
    intro fg x
    rw [encW_eq hT, encW_eq hT]
    by_cases he : splitP T b x = []
    · rw [he]; cases T.kinds b <;> simp [encCells, flCells]
    · exact encCells_fl (N := b) ih _ _ _ (split_fits he) fun b' hb' => hT.lt _ _ hb'
theorem rows_fl (hT : TabOK T) (b : Nat) (fg : Fg) (x : List (T.W b)) : flRows (x.map (encW T b fg)) = x.map (encW T b .v) := by
  rw [flRows_map, List.map_map]
  apply List.map_congr_left
  intro y _
  exact encW_fl hT b fg y
mutual
theorem flS_dn (hT : TabOK T) : ∀ (d : DD (AP T)), dn T δ (flS d) = fl (dn T δ d)
  | .sl _ b fg x => by simp only [flS, dn, fl]; rw [rows_fl hT]
  | .nl _ w => by simp [flS, dn, fl, flRows]
  | .pt cs => by simp only [flS, dn, fl]; rw [flSs_dn hT cs]
  | .fn f cs => by simp only [flS, dn, fl]; rw [flSs_dn hT cs]
  | .mp _ _ _ => by simp [flS, dn, fl]
  | .mn => by simp [flS, dn, fl]
  | .i _ _ => by simp [flS, dn, fl]
  | .b _ => by simp [flS, dn, fl]
  | .bk _ => by simp [flS, dn, fl]
  | .s _ => by simp [flS, dn, fl]
  | .nilp => by simp [flS, dn, fl]
  | .al _ _ _ _ => by simp [flS, dn, fl]
  | .bp _ _ _ => by simp [flS, dn, fl]
  | .el _ _ _ _ _ _ => by simp [flS, dn, fl]
  | .und => by simp [flS, dn, fl]
  | .dead => by simp [flS, dn, fl]
theorem flSs_dn (hT : TabOK T) : ∀ (ds : List (DD (AP T))), dns T δ (flSs ds) = flCells (dns T δ ds)
  | [] => by simp [flSs, dns, flCells]
  | d :: ds => by simp only [flSs, dns, flCells]; rw [flS_dn hT d, flSs_dn hT ds]
end
/-! ### What is owned -/
theorem ownedCells_all (ds : List D) : ownedCells ds = ds.all owned := by
  induction ds with
  | nil => simp [ownedCells]
  | cons d ds ih => simp [ownedCells, ih]
theorem ownedRows_all (ds : List (List D)) : ownedRows ds = ds.all ownedCells := by
  induction ds with
  | nil => simp [ownedRows]
  | cons d ds ih => simp [ownedRows, ih]
theorem raw_o (j : Nat) : Fg.raw .o j = (true, .o) := rfl
theorem hasSl_iff (b : Nat) : hasSl (AP T) b = false ↔ ∀ b', CK.sl b' ∉ T.kinds b := by
  unfold hasSl
  rw [List.any_eq_false]
  constructor
  · intro h b' hb
    have := h _ hb
    simp at this
  · intro h c hc
    cases c with
    | sl b' => exact absurd hc (h b')
    | _ => simp
theorem encCells_owned {fg : Fg} {N : Nat} (h : ∀ b, b < N → ∀ (fg : Fg) (x : T.W b), (fg = .o ∨ hasSl (AP T) b = false) → ownedCells (encW T b fg x) = true) : ∀ (j : Nat) (cs : List CK) (ls : List T.Lf), Fits T cs ls → (∀ b, CK.sl b ∈ cs → b < N) → (fg = .o ∨ ∀ b, CK.sl b ∉ cs) → ownedCells (encCells T (encW T) fg j cs ls) = true
  | j, [], ls, _, _, _ => by simp [encCells, ownedCells]
  | j, c :: cs, [], _, _, _ => by simp [encCells, ownedCells]
  | j, c :: cs, l :: ls, hf, hb, ho => by
    simp only [encCells, ownedCells, Bool.and_eq_true]
    refine ⟨?_, encCells_owned h (j + 1) cs ls hf.2 (fun b hb' => hb b (List.mem_cons_of_mem _ hb')) (ho.imp_right fun h b hb => h b (List.mem_cons_of_mem _ hb))⟩
    have h1 := hf.1
    unfold encCell
    unfold fit1 at h1
    split
    · simp [owned]
    · simp [owned]
    · simp [owned]
    · rename_i b b' xs
      simp only at h1
      subst h1
      rcases ho with rfl | ho
      · simp only [owned, fgAt, raw_o, Bool.true_or, Bool.true_and, ownedRows_all, List.all_map]
        rw [List.all_eq_true]
        intro x _
        simp only [Function.comp]
        refine h _ (hb _ List.mem_cons_self) _ x ?_
        cases hs : hasSl (AP T) b' with
        | true => simp
        | false => simp
      · exact absurd List.mem_cons_self (ho _)
    · simp [owned]
theorem encW_owned (hT : TabOK T) : ∀ (b : Nat) (fg : Fg) (x : T.W b), (fg = .o ∨ hasSl (AP T) b = false) → ownedCells (encW T b fg x) = true := by
  intro b
  induction b using Nat.strongRecOn with
  | _ b ih =>
    intro fg x ho
    rw [encW_eq hT]
    by_cases he : splitP T b x = []
    · rw [he]; cases T.kinds b <;> simp [encCells, ownedCells]
    · exact encCells_owned (N := b) ih _ _ _ (split_fits he) (fun b' hb' => hT.lt _ _ hb') (ho.imp_right fun h => (hasSl_iff b).1 h)
theorem owned_dn (hT : TabOK T) (d : DD (AP T)) (h : d.owned = true) : owned (dn T δ d) = true := by
  cases d with
  | sl ow q fg x =>
    simp only [DD.owned, Bool.and_eq_true] at h
    obtain ⟨rfl, h⟩ := h
    simp only [dn, owned, Bool.true_or, Bool.true_and, ownedRows_all, List.all_map, List.all_eq_true, Function.comp]
    intro y _
    refine encW_owned hT _ _ y ?_
    cases fg with
    | o => exact .inl rfl
    | _ => exact .inr (by simpa using h)
  | nl ow w => simp [dn, owned, ownedRows]
  | _ => simp [DD.owned] at h <;> simp [dn, owned]
theorem owneds_all (ds : List (DD (AP T))) : DD.owneds ds = ds.all DD.owned := by
  induction ds with
  | nil => rfl
  | cons d ds ih => simp [DD.owneds, ih]
theorem owned_dv (hT : TabOK T) (v : VV (AP T)) (h : v.owned = true) : (dv T δ v).owned = true := by
  have key : ∀ ds : List (DD (AP T)), DD.owneds ds = true → ownedCells (ds.map (dn T δ)) = true := fun ds hd => by
    rw [owneds_all, List.all_eq_true] at hd
    rw [ownedCells_all, List.all_map, List.all_eq_true]
    exact fun d hd' => owned_dn hT d (hd d hd')
  cases v with
  | leaf d => simp only [VV.owned] at h; simp [dv, V.owned, V.cells, ownedCells, owned_dn hT d h]
  | agg ds => exact key ds h
  | box ds => exact key ds h
  | _ => simp [VV.owned] at h
/-! ### Rows are firm -/
theorem encCells_firm {fg : Fg} : ∀ (j : Nat) (cs : List CK) (ls : List T.Lf), Fits T cs ls → (encCells T (encW T) fg j cs ls).all firm = true
  | j, [], ls, _ => by simp [encCells]
  | j, c :: cs, [], _ => by simp [encCells]
  | j, c :: cs, l :: ls, hf => by
    simp only [encCells, List.all_cons, Bool.and_eq_true]
    refine ⟨?_, encCells_firm (j + 1) cs ls hf.2⟩
    have h1 := hf.1
    unfold encCell
    unfold fit1 at h1
    split
    · simp [firm, flat]
    · simp [firm, flat]
    · simp [firm, flat]
    · simp [firm, flat]
    · rename_i hne1 hne2 hne3 hne4
      exfalso
      split at h1
      · exact hne1 _ _ rfl rfl
      · exact hne2 _ rfl rfl
      · exact hne3 _ rfl rfl
      · exact hne4 _ _ _ rfl rfl
      · exact h1
theorem encW_firm (hT : TabOK T) (b : Nat) (fg : Fg) (x : T.W b) : (encW T b fg x).all firm = true := by
  rw [encW_eq hT]
  by_cases he : splitP T b x = []
  · rw [he]; cases T.kinds b <;> simp [encCells]
  · exact encCells_firm _ _ _ (split_fits he)
theorem encCells_view {fg : Fg} : ∀ (j : Nat) (cs : List CK) (ls : List T.Lf), Fits T cs ls → (fg = .v ∨ ∀ b, CK.sl b ∉ cs) → (encCells T (encW T) fg j cs ls).all (fun d => !own d) = true
  | j, [], ls, _, _ => by simp [encCells]
  | j, c :: cs, [], _, _ => by simp [encCells]
  | j, c :: cs, l :: ls, hf, ho => by
    simp only [encCells, List.all_cons, Bool.and_eq_true]
    refine ⟨?_, encCells_view (j + 1) cs ls hf.2 (ho.imp_right fun h b hb => h b (List.mem_cons_of_mem _ hb))⟩
    have h1 := hf.1
    unfold encCell
    unfold fit1 at h1
    split
    · simp [own]
    · simp [own]
    · simp [own]
    · rename_i b b' xs
      rcases ho with rfl | ho
      · rw [fgAt_v]; simp [own]
      · exact absurd List.mem_cons_self (ho _)
    · simp [own]
theorem encW_view (hT : TabOK T) (b : Nat) (fg : Fg) (x : T.W b) (h : fg = .v ∨ hasSl (AP T) b = false) : (encW T b fg x).all (fun d => !own d) = true := by
  rw [encW_eq hT]
  by_cases he : splitP T b x = []
  · rw [he]; cases T.kinds b <;> simp [encCells]
  · exact encCells_view _ _ _ (split_fits he) (h.imp_right fun h => (hasSl_iff b).1 h)
end
end Go.Proofs.Vai

namespace Go.Proofs.Vai
open Go
set_option linter.unusedVariables false

section
variable {T : Tab} {R : Type} {G : Gd (AP T)} {δ : Dl}
/-- A datum, a value stands for another. -/
abbrev DR (δ : Dl) (d : DD (AP T)) (d' : D) : Prop := d' = dn T δ d
abbrev DsR (δ : Dl) (d : List (DD (AP T))) (d' : List D) : Prop := d' = d.map (dn T δ)
abbrev VR (δ : Dl) (v : VV (AP T)) (v' : V) : Prop := v.real ∧ v' = dv T δ v
theorem Snd.ofOpt {α β γ : Type} {q : Option α} {n : Nat} {f : α → MM (AP T) R γ} {p : Pg β} {rel : γ → β → Prop} (h : ∀ a, q = some a → Snd G δ (f a) p rel) : Snd G δ (bd (ofO n q) f) p rel := Snd.pur Pur.ofOo h
theorem cells_dv {v : VV (AP T)} {cs : List (DD (AP T))} (h : v.cells? = some cs) : v.real ∧ (dv T δ v).cells = cs.map (dn T δ) := by
  cases v with
  | leaf d => simp only [VV.cells?, Option.some.injEq] at h; subst h; exact ⟨trivial, rfl⟩
  | agg ds => simp only [VV.cells?, Option.some.injEq] at h; subst h; exact ⟨trivial, rfl⟩
  | box ds => simp only [VV.cells?, Option.some.injEq] at h; subst h; exact ⟨trivial, rfl⟩
  | _ => simp [VV.cells?] at h
theorem Pur.rowOfo (hT : TabOK T) {b : Nat} {fg : Fg} {x : List (T.W b)} {i : Int} : Pur (R := R) (rowOf (A := AP T) b fg x i) (fun cs => 0 ≤ i ∧ (x.map (encW T b fg))[i.toNat]? = some (cs.map (dn T δ))) := fun S κ r hr => by
  unfold rowOf at hr
  simp only [Option.bind_eq_some_iff] at hr
  obtain ⟨y, hy, h2⟩ := hr
  unfold ix at hy
  split at hy
  · rename_i h0
    split at h2
    · rename_i cs hcs
      refine ⟨cs, ⟨h0, ?_⟩, h2⟩
      rw [List.getElem?_map, hy, Option.map_some, rowCells_enc hT hcs]
    · cases h2
  · cases hy
theorem Pur.pl (hT : TabOK T) {v : VV (AP T)} {j : Nat} {st : Option (Int × Nat)} : Pur (R := R) (pl' (A := AP T) v j st) (fun d => v.real ∧ plD (dv T δ v) j (stN st) = some (dn T δ d)) := by
  unfold pl'
  split
  · exact Pur.nno
  · rename_i cs hcs
    obtain ⟨hre, hc⟩ := cells_dv (δ := δ) hcs
    split
    · exact Pur.nno
    · rename_i d hd
      have hd' : (dv T δ v).cells[j]? = some (dn T δ d) := by rw [hc, List.getElem?_map, hd]; rfl
      split
      · refine Pur.okk ⟨hre, ?_⟩
        simp only [plD, hd', stN, Option.map_none]
      · rename_i i l
        split
        · rename_i b fg x
          refine Pur.bnd (Pur.rowOfo hT (δ := δ)) fun cs' ⟨h0, hrow⟩ => ?_
          refine Pur.mono Pur.ofOo fun d' hd2 => ⟨hre, ?_⟩
          simp only [plD, hd', stN, Option.map_some, dn, hrow, List.getElem?_map, hd2]
        · exact Pur.nno
theorem modify_set' {α : Type} {f : α → α} : ∀ {l : List α} {j : Nat} {x : α}, l[j]? = some x → l.modify j f = l.set j (f x)
  | [], j, x, h => by simp at h
  | a :: l, 0, x, h => by simp at h; subst h; simp
  | a :: l, j + 1, x, h => by simp at h; simp [modify_set' h]
theorem modify_const {α : Type} {y : α} : ∀ (l : List α) (j : Nat), l.modify j (fun _ => y) = l.set j y
  | [], j => by simp
  | a :: l, 0 => by simp
  | a :: l, j + 1 => by simp [modify_const l j]
theorem setC_none {v : VV (AP T)} (h : v.real) (j : Nat) (d : DD (AP T)) : (setC v j d).real ∧ dv T δ (setC v j d) = plSet (dv T δ v) j none (dn T δ d) := by
  cases v with
  | leaf d0 => refine ⟨trivial, ?_⟩; simp only [setC, dv, plSet, V.setCell, inD]; split <;> rfl
  | agg ds => refine ⟨trivial, ?_⟩; simp only [setC, dv, plSet, V.setCell, List.map_set]; rw [show (inD none (dn T δ d)) = fun _ => dn T δ d from rfl, modify_const]
  | box ds => refine ⟨trivial, ?_⟩; simp only [setC, dv, plSet, V.setCell, List.map_set]; rw [show (inD none (dn T δ d)) = fun _ => dn T δ d from rfl, modify_const]
  | _ => simp [VV.real] at h
theorem setC_real {v : VV (AP T)} (j : Nat) (d : DD (AP T)) : (setC v j d).real ↔ v.real := by
  cases v <;> simp [setC, VV.real]
theorem setC_cell {v : VV (AP T)} {cs : List (DD (AP T))} (hcs : v.cells? = some cs) {j : Nat} {d0 : DD (AP T)} (hd : cs[j]? = some d0) {d : DD (AP T)} {st : Option (Nat × Nat)} {d' : D} (he : inD st d' (dn T δ d0) = dn T δ d) :
    (setC v j d).real ∧ dv T δ (setC v j d) = plSet (dv T δ v) j st d' := by
  cases v with
  | leaf d1 =>
    simp only [VV.cells?, Option.some.injEq] at hcs
    subst hcs
    have hj : j = 0 := by
      cases j with
      | zero => rfl
      | succ j => simp at hd
    subst hj
    simp at hd
    subst hd
    refine ⟨trivial, ?_⟩
    simp only [setC, dv, plSet, V.setCell, if_true, he]
  | agg ds =>
    simp only [VV.cells?, Option.some.injEq] at hcs
    subst hcs
    refine ⟨trivial, ?_⟩
    simp only [setC, dv, plSet, V.setCell, List.map_set]
    rw [modify_set' (x := dn T δ d0) (by rw [List.getElem?_map, hd]; rfl), he]
  | box ds =>
    simp only [VV.cells?, Option.some.injEq] at hcs
    subst hcs
    refine ⟨trivial, ?_⟩
    simp only [setC, dv, plSet, V.setCell, List.map_set]
    rw [modify_set' (x := dn T δ d0) (by rw [List.getElem?_map, hd]; rfl), he]
  | _ => simp [VV.cells?] at hcs
theorem Pur.plSet (hT : TabOK T) {v : VV (AP T)} {j : Nat} {st : Option (Int × Nat)} {d : DD (AP T)} : Pur (R := R) (plSet' (A := AP T) v j st d) (fun v' => v.real → v'.real ∧ dv T δ v' = plSet (dv T δ v) j (stN st) (dn T δ d)) := by
  unfold plSet'
  split
  · exact Pur.okk fun h => setC_none h j d
  · rename_i i l
    split
    · exact Pur.nno
    · rename_i cs hcs
      split
      · rename_i b fg x hd
        refine Pur.bnd (Pur.rowOfo hT (δ := δ)) fun r ⟨h0, hrow⟩ => ?_
        refine Pur.bnd Pur.ofOo fun y hy => ?_
        refine Pur.okk fun _ => setC_cell hcs hd ?_
        simp only [stN, Option.map_some, inD, dn]
        rw [List.map_set, joinRow_enc hT (δ := δ) hy, List.map_set, List.getD_eq_getElem?_getD, hrow]
        rfl
      · exact Pur.nno
theorem isR_real {v : VV (AP T)} (h : v.isR = true) : v.real := by
  cases v <;> simp [VV.isR] at h <;> trivial
theorem Snd.lookAl (hT : TabOK T) {k j : Nat} {st : Option (Int × Nat)} {n : Nat} : Snd (R := R) G δ (lookAl' G k j st n) (Go.Proofs.Vai.lookAl k j (stN st) (n + δ.ver k st.isSome)) (fun d d' => DR δ d d' ∧ d.own = true) := by
  unfold lookAl' Go.Proofs.Vai.lookAl
  refine Snd.rd fun s r hr => ?_
  refine Snd.iff_ (hr.ver st n).1 fun _ => ?_
  refine Snd.pur (Pur.pl hT (δ := δ)) fun d ⟨hre, hpl⟩ => ?_
  rw [hr.2.2.2 hre, hpl]
  simp only
  refine Snd.iff_ (fun h => by rw [own_dn]; exact h) fun ho => Snd.okk ⟨rfl, ho⟩
theorem Snd.deref (hT : TabOK T) {d : DD (AP T)} : Snd (R := R) G δ (deref' G d) (Go.Proofs.Vai.deref (dn T δ d)) (DR δ) := by
  cases d with
  | al k j st n => simp only [dn, deref', Go.Proofs.Vai.deref]; exact (Snd.lookAl hT).mono fun _ _ h => h.1
  | _ => simp only [dn, deref', Go.Proofs.Vai.deref]; exact Snd.okk rfl
theorem Snd.putS {d : Nat} {v : VV (AP T)} {v' : V} (h : v.real ∧ v' = dv T δ v) : Snd (R := R) G δ (putS' G d v) (Go.Proofs.Vai.putS d v') (fun _ _ => True) := by
  unfold putS' Go.Proofs.Vai.putS
  refine Snd.rd fun s r hr => ?_
  exact Snd.wr' (fun _ => hr.up2 fun _ => h.2) (fun hn => absurd h.1 hn) trivial
theorem Snd.putO {dst : Option Nat} {v : VV (AP T)} {v' : V} (h : v.real ∧ v' = dv T δ v) : Snd (R := R) G δ (putO' G dst v) (Go.Proofs.Vai.putO dst v') (fun _ _ => True) := by
  unfold putO' Go.Proofs.Vai.putO
  cases dst with
  | none => exact Snd.okk trivial
  | some d => exact Snd.putS h
theorem Snd.putL {dst : Option Nat} {d : DD (AP T)} : Snd (R := R) G δ (putO' G dst (.leaf d)) (Go.Proofs.Vai.putO dst (.leaf (dn T δ d))) (fun _ _ => True) := Snd.putO ⟨trivial, rfl⟩
/-- Values, one by one. -/
def VsR (δ : Dl) : List (VV (AP T)) → List V → Prop
  | [], [] => True
  | v :: vs, v' :: vs' => VR δ v v' ∧ VsR δ vs vs'
  | _, _ => False
theorem VsR.len : ∀ {vs : List (VV (AP T))} {vs' : List V}, VsR δ vs vs' → vs.length = vs'.length
  | [], [], _ => rfl
  | _ :: _, _ :: _, h => by simp [VsR.len h.2]
theorem VsR.solid : ∀ {vs : List (VV (AP T))} {vs' : List V}, VsR δ vs vs' → vs.all VV.solid = true → vs'.all Go.Proofs.Vai.solid = true
  | [], [], _, _ => rfl
  | v :: vs, v' :: vs', h, hs => by
    simp only [List.all_cons, Bool.and_eq_true] at hs ⊢
    refine ⟨?_, VsR.solid h.2 hs.2⟩
    rw [h.1.2]; exact (solid_dv v hs.1).1
theorem VsR.owned (hT : TabOK T) : ∀ {vs : List (VV (AP T))} {vs' : List V}, VsR δ vs vs' → vs.all VV.owned = true → vs'.all V.owned = true
  | [], [], _, _ => rfl
  | v :: vs, v' :: vs', h, hs => by
    simp only [List.all_cons, Bool.and_eq_true] at hs ⊢
    refine ⟨?_, VsR.owned hT h.2 hs.2⟩
    rw [h.1.2]; exact owned_dv hT v hs.1
theorem Snd.putVs : ∀ {ds : List Nat} {vs : List (VV (AP T))} {vs' : List V}, VsR δ vs vs' → Snd (R := R) G δ (putVs' G ds vs) (Go.Proofs.Vai.putVs ds vs') (fun _ _ => True)
  | [], [], [], _ => Snd.okk trivial
  | [], _ :: _, _ :: _, _ => Snd.nno
  | _ :: _, [], [], _ => Snd.nno
  | d :: ds, v :: vs, v' :: vs', h => by
    simp only [putVs', Go.Proofs.Vai.putVs]
    exact Snd.bnd (Snd.putS h.1) fun _ _ _ => Snd.putVs h.2
theorem Snd.putR {dst : Option Nat} {ks : List Nat} {vs : List (VV (AP T))} {vs' : List V} (h : VsR δ vs vs') : Snd (R := R) G δ (putR' G dst ks vs) (Go.Proofs.Vai.putR dst ks vs') (fun _ _ => True) := by
  cases dst with
  | none =>
    cases ks with
    | nil => simp only [putR', Go.Proofs.Vai.putR]; exact Snd.okk trivial
    | cons => simp only [putR', Go.Proofs.Vai.putR]; exact Snd.nno
  | some d =>
    have gen : Snd (R := R) G δ (bd (putS' G d (.leaf .dead)) fun _ => putVs' G ks vs) ((Go.Proofs.Vai.putS d (.leaf .dead)).bind fun _ => Go.Proofs.Vai.putVs ks vs') (fun _ _ => True) :=
      Snd.bnd (Snd.putS ⟨trivial, by simp [dv, dn]⟩) fun _ _ _ => Snd.putVs h
    match ks, vs, vs', h with
    | [], [v], [v'], h => simp only [putR', Go.Proofs.Vai.putR]; exact Snd.putS h.1
    | [], [], [], h => simp only [putR', Go.Proofs.Vai.putR]; exact gen
    | [], _ :: _ :: _, _ :: _ :: _, h => simp only [putR', Go.Proofs.Vai.putR]; exact gen
    | k :: ks, vs, vs', h => simp only [putR', Go.Proofs.Vai.putR]; exact gen
    | [], [_], _ :: _ :: _, h => exact absurd h.2 (by simp [VsR])
    | [], _ :: _ :: _, [_], h => exact absurd h.2 (by simp [VsR])
/-! ### Constants -/
theorem cstD_ok {d : D} {x : DD (AP T)} (h : cstD d = some x) : dn T δ x = d := by
  unfold cstD at h
  split at h
  all_goals first
    | (obtain rfl := Option.some.inj h; simp [dn, dns]; done)
    | cases h
theorem cstDs_ok : ∀ {ds : List D} {xs : List (DD (AP T))}, cstDs ds = some xs → xs.map (dn T δ) = ds
  | [], xs, h => by simp only [cstDs] at h; obtain rfl := Option.some.inj h; rfl
  | d :: ds, xs, h => by
    simp only [cstDs] at h
    split at h
    · rename_i x xs' h1 h2
      obtain rfl := Option.some.inj h
      simp [cstD_ok h1, cstDs_ok h2]
    · cases h
theorem cstV_ok {v : V} {x : VV (AP T)} (h : cstV v = some x) : x.real ∧ v = dv T δ x := by
  cases v with
  | leaf d => simp only [cstV, Option.map_eq_some_iff] at h; obtain ⟨y, hy, rfl⟩ := h; exact ⟨trivial, by simp [dv, cstD_ok hy]⟩
  | agg ds => simp only [cstV, Option.map_eq_some_iff] at h; obtain ⟨y, hy, rfl⟩ := h; exact ⟨trivial, by simp [dv, cstDs_ok hy]⟩
  | box ds => simp only [cstV, Option.map_eq_some_iff] at h; obtain ⟨y, hy, rfl⟩ := h; exact ⟨trivial, by simp [dv, cstDs_ok hy]⟩
/-! ### Looks -/
theorem dupD_dn {n : Nat} {s : Sx (AP T)} {r : Sl} (hr : RSl δ n s r) (j : Nat) (d : DD (AP T)) : dupD n r j (dn T δ d) = dn T δ (dupD' n s j d) := by
  unfold dupD'
  by_cases ho : d.own = true
  · rw [if_pos ho]
    have e : r.h = s.h + δ.ver n (Option.isSome (none : Option (Int × Nat))) := hr.2.1
    cases d with
    | sl ow b fg x => cases ow <;> simp [DD.own] at ho; simp [dn, dupD, stN, e]
    | nl ow w => cases ow <;> simp [DD.own] at ho; simp [dn, dupD, stN, e]
    | mp k v m => simp [dn, dupD, stN, e]
    | mn => simp [dn, dupD, stN, e]
    | _ => simp [DD.own] at ho
  · rw [if_neg ho]
    cases d with
    | sl ow b fg x => cases ow <;> simp [DD.own] at ho; simp [dn, dupD]
    | nl ow w => cases ow <;> simp [DD.own] at ho; simp [dn, dupD]
    | mp k v m => simp [DD.own] at ho
    | mn => simp [DD.own] at ho
    | _ => simp [dn, dupD]
theorem dupL_dn {n : Nat} {s : Sx (AP T)} {r : Sl} (hr : RSl δ n s r) : ∀ (j : Nat) (ds : List (DD (AP T))), dupL n r j (ds.map (dn T δ)) = (dupL' n s j ds).map (dn T δ)
  | j, [] => rfl
  | j, d :: ds => by simp only [List.map_cons, dupL, dupL']; rw [dupD_dn hr, dupL_dn hr]
theorem dupV_dn {n : Nat} {s : Sx (AP T)} {r : Sl} (hr : RSl δ n s r) {v : VV (AP T)} (h : dupV' n s s.c = some v) : v.real ∧ dupV n r r.c = dv T δ v := by
  have hre : s.c.real := by
    cases hc : s.c with
    | gone => rw [hc] at h; simp [dupV'] at h
    | ref i => rw [hc] at h; simp [dupV'] at h
    | _ => exact trivial
  rw [hr.2.2.2 hre]
  cases hc : s.c with
  | leaf d => rw [hc] at h; simp only [dupV', Option.some.injEq] at h; subst h; exact ⟨trivial, by simp only [dv, dupV]; rw [dupD_dn hr]⟩
  | agg ds => rw [hc] at h; simp only [dupV', Option.some.injEq] at h; subst h; exact ⟨trivial, by simp only [dv, dupV]; rw [dupL_dn hr]⟩
  | box ds => rw [hc] at h; simp only [dupV', Option.some.injEq] at h; subst h; exact ⟨trivial, by simp only [dv, dupV, dn]; rw [hr.2.2.1]⟩
  | gone => rw [hc] at h; simp [dupV'] at h
  | ref i => rw [hc] at h; simp [dupV'] at h
theorem Snd.getV {x : X} : Snd (R := R) G δ (getV' G x) (Go.Proofs.Vai.getV x) (VR δ) := by
  cases x with
  | c v =>
    simp only [getV', Go.Proofs.Vai.getV]
    cases h : cstV (A := AP T) v with
    | none => exact Snd.nno
    | some y => exact Snd.okk (cstV_ok h)
  | t n =>
    simp only [getV', Go.Proofs.Vai.getV]
    refine Snd.rd fun s r hr => ?_
    cases h : dupV' n s s.c with
    | none => exact Snd.nno
    | some y => exact Snd.okk (dupV_dn hr h)
theorem Snd.one {v : VV (AP T)} {v' : V} (h : VR δ v v') : Snd (R := R) G δ (one' v) (V.one v') (DR δ) := by
  obtain ⟨hre, rfl⟩ := h
  cases v with
  | leaf d => simp only [one', dv, V.one]; exact Snd.okk rfl
  | agg ds => exact Snd.nno
  | box ds => exact Snd.nno
  | _ => exact Snd.nno
theorem Snd.getD {x : X} : Snd (R := R) G δ (getD' G x) (Go.Proofs.Vai.getD x) (DR δ) := by
  unfold getD' Go.Proofs.Vai.getD
  exact Snd.bnd Snd.getV fun a b h => Snd.one h
theorem Snd.getDs : ∀ {xs : List X}, Snd (R := R) G δ (getDs' G xs) (Go.Proofs.Vai.getDs xs) (DsR δ)
  | [] => Snd.okk rfl
  | x :: xs => by
    simp only [getDs', Go.Proofs.Vai.getDs]
    refine Snd.bnd Snd.getD fun a b h => Snd.bnd Snd.getDs fun as bs hs => Snd.okk ?_
    rw [h, hs]; rfl
theorem Snd.content (hT : TabOK T) {x : X} : Snd (R := R) G δ (content' G x) (contentP x) (DR δ) := by
  unfold content' contentP
  exact Snd.bnd Snd.getD fun a b h => by rw [h]; exact Snd.deref hT
/-! ### Taking -/
theorem kill_dn (d : DD (AP T)) : killOwn (dn T δ d) = dn T δ (kill' d) := by
  unfold killOwn kill'
  rw [own_dn]
  split
  · simp [dn]
  · rfl
theorem kills_dn (ds : List (DD (AP T))) : (ds.map (dn T δ)).map killOwn = (ds.map kill').map (dn T δ) := by
  rw [List.map_map, List.map_map]; apply List.map_congr_left; intro d _; exact kill_dn d
theorem Snd.takeD (hT : TabOK T) {d : DD (AP T)} : Snd (R := R) G δ (takeD' G d) (Go.Proofs.Vai.takeD (dn T δ d)) (DR δ) := by
  cases d with
  | al k j st n =>
    cases st with
    | none =>
      simp only [takeD', dn, Go.Proofs.Vai.takeD]
      refine Snd.bnd (Snd.lookAl hT) fun a b h => ?_
      refine Snd.rd fun s r hr => Snd.iffL fun hc => ?_
      have hre := isR_real hc
      refine Snd.wr (fun _ => hr.up0 fun _ => ?_) (fun hn => absurd ((setC_real j .dead).2 hre) hn) (Snd.okk h.1)
      rw [hr.2.2.2 hre, (setC_none hre j .dead).2]
      simp [stN, dn]
    | some p => exact Snd.nno
  | _ =>
    simp only [takeD', dn, Go.Proofs.Vai.takeD]
    refine Snd.iff_ (fun h => ?_) fun _ => Snd.okk rfl
    rw [← flat_dn (δ := δ)] at h
    simpa only [dn] using h
theorem Snd.takeL (hT : TabOK T) : ∀ {ds : List (DD (AP T))}, Snd (R := R) G δ (takeL' G ds) (Go.Proofs.Vai.takeL (ds.map (dn T δ))) (DsR δ)
  | [] => Snd.okk rfl
  | d :: ds => by
    simp only [takeL', List.map_cons, Go.Proofs.Vai.takeL]
    refine Snd.bnd (Snd.takeD hT) fun a b h => Snd.bnd (Snd.takeL hT) fun as bs hs => Snd.okk ?_
    rw [h, hs]; rfl
theorem VR.leaf {d : DD (AP T)} {d' : D} (h : DR δ d d') : VR δ (.leaf d) (.leaf d') := ⟨trivial, by rw [h]; rfl⟩
theorem VR.agg {ds : List (DD (AP T))} {ds' : List D} (h : DsR δ ds ds') : VR δ (.agg ds) (.agg ds') := ⟨trivial, by rw [h]; rfl⟩
theorem VR.box {ds : List (DD (AP T))} {ds' : List D} (h : DsR δ ds ds') : VR δ (.box ds) (.box ds') := ⟨trivial, by rw [h]; rfl⟩
theorem real_leaf {d : DD (AP T)} : (VV.leaf d : VV (AP T)).real := trivial
theorem real_agg {d : List (DD (AP T))} : (VV.agg d : VV (AP T)).real := trivial
theorem real_box {d : List (DD (AP T))} : (VV.box d : VV (AP T)).real := trivial
/-- What a slot holds, when its form is known. -/
theorem RSl.leaf {k : Nat} {s : Sx (AP T)} {r : Sl} (h : RSl δ k s r) {d : DD (AP T)} (hc : s.c = .leaf d) : r.c = .leaf (dn T δ d) := by
  have := h.2.2.2 (by rw [hc]; trivial)
  rw [this, hc]; rfl
theorem RSl.agg {k : Nat} {s : Sx (AP T)} {r : Sl} (h : RSl δ k s r) {d : List (DD (AP T))} (hc : s.c = .agg d) : r.c = .agg (d.map (dn T δ)) := by
  have := h.2.2.2 (by rw [hc]; trivial)
  rw [this, hc]; rfl
theorem RSl.box {k : Nat} {s : Sx (AP T)} {r : Sl} (h : RSl δ k s r) {d : List (DD (AP T))} (hc : s.c = .box d) : r.c = .box (d.map (dn T δ)) := by
  have := h.2.2.2 (by rw [hc]; trivial)
  rw [this, hc]; rfl
theorem Snd.iff2 {α β : Type} {c c' : Prop} [Decidable c] [Decidable c'] {m m2 : MM (AP T) R α} {p q : Pg β} {rel : α → β → Prop} (hc : c ↔ c') (h : c → Snd G δ m p rel) (h2 : ¬ c → Snd G δ m2 q rel) : Snd G δ (if c then m else m2) (if c' then p else q) rel := by
  split
  · rename_i h1; rw [if_pos (hc.1 h1)]; exact h h1
  · rename_i h1; rw [if_neg (fun h => h1 (hc.2 h))]; exact h2 h1
/-- A write of a value that is there. -/
theorem Snd.wrV {α β : Type} {k : Nat} {s : Sx (AP T)} {w : Sl} {f : Unit → MM (AP T) R α} {p : Pg β} {rel : α → β → Prop} (hre : s.c.real) (hs : RSl δ k s w) (h : Snd G δ (f ()) p rel) : Snd G δ (bd (wrS G k s) f) (.wr k w p) rel :=
  Snd.wr (fun _ => hs) (fun hn => absurd hre hn) h
theorem Snd.wrV' {k : Nat} {s : Sx (AP T)} {w : Sl} {rel : Unit → Unit → Prop} (hre : s.c.real) (hs : RSl δ k s w) (h : rel () ()) : Snd (R := R) G δ (wrS G k s) (.wr k w (.ret ())) rel :=
  Snd.wr' (fun _ => hs) (fun hn => absurd hre hn) h
theorem Snd.takeV (hT : TabOK T) {x : X} : Snd (R := R) G δ (takeV' G x) (Go.Proofs.Vai.takeV x) (VR δ) := by
  cases x with
  | c v =>
    simp only [takeV', Go.Proofs.Vai.takeV]
    cases h : cstV (A := AP T) v with
    | none => exact Snd.nno
    | some y => exact Snd.okk (cstV_ok h)
  | t n =>
    simp only [takeV', Go.Proofs.Vai.takeV]
    refine Snd.rd fun s r hr => ?_
    split
    · rename_i d hc
      rw [hr.leaf hc]
      simp only
      refine Snd.iff2 (by rw [own_dn]) (fun _ => ?_) (fun _ => ?_)
      · exact Snd.wrV trivial (hr.up0 fun _ => by simp [dv, dn]) (Snd.okk (VR.leaf rfl))
      · exact Snd.bnd (Snd.takeD hT) fun a b h => Snd.okk (VR.leaf h)
    · rename_i ds hc
      rw [hr.agg hc]
      simp only
      refine Snd.iff2 (by rw [any_own_dn]) (fun _ => ?_) (fun _ => ?_)
      · exact Snd.wrV trivial (hr.up0 fun _ => by rw [kills_dn]; rfl) (Snd.bnd (Snd.takeL hT) fun a b h => Snd.okk (VR.agg h))
      · exact Snd.bnd (Snd.takeL hT) fun a b h => Snd.okk (VR.agg h)
    · rename_i ds hc
      rw [hr.box hc]
      exact Snd.wrV trivial (hr.up2 fun _ => by simp [dv, dn]) (Snd.okk (VR.box rfl))
    · exact Snd.nno
theorem Snd.moveV {x : X} : Snd (R := R) G δ (moveV' G x) (Go.Proofs.Vai.moveV x) (VR δ) := by
  cases x with
  | c v =>
    simp only [moveV', Go.Proofs.Vai.moveV]
    cases h : cstV (A := AP T) v with
    | none => exact Snd.nno
    | some y => exact Snd.okk (cstV_ok h)
  | t n =>
    simp only [moveV', Go.Proofs.Vai.moveV]
    refine Snd.rd fun s r hr => ?_
    split
    · rename_i d hc
      rw [hr.leaf hc]
      simp only
      refine Snd.iff2 (by rw [own_dn]) (fun _ => ?_) (fun _ => ?_)
      · exact Snd.wrV trivial (hr.up0 fun _ => by simp [dv, dn]) (Snd.okk (VR.leaf rfl))
      · exact Snd.okk (VR.leaf rfl)
    · rename_i ds hc
      rw [hr.agg hc]
      simp only
      refine Snd.iff2 (by rw [any_own_dn]) (fun _ => ?_) (fun _ => ?_)
      · exact Snd.wrV trivial (hr.up0 fun _ => by rw [kills_dn]; rfl) (Snd.okk (VR.agg rfl))
      · exact Snd.okk (VR.agg rfl)
    · rename_i ds hc
      rw [hr.box hc]
      exact Snd.wrV trivial (hr.up2 fun _ => by simp [dv, dn]) (Snd.okk (VR.box rfl))
    · exact Snd.nno
theorem Snd.takeVs (hT : TabOK T) : ∀ {ks : List Nat}, Snd (R := R) G δ (takeVs' G ks) (Go.Proofs.Vai.takeVs ks) (VsR δ)
  | [] => Snd.okk trivial
  | k :: ks => by
    simp only [takeVs', Go.Proofs.Vai.takeVs]
    exact Snd.bnd (Snd.takeV hT) fun a b h => Snd.bnd (Snd.takeVs hT) fun as bs hs => Snd.okk ⟨h, hs⟩
/-! ### Parts -/
theorem Snd.pick {ag : Bool} {ds : List (DD (AP T))} : Snd (R := R) G δ (pick' ag ds) (V.pick ag (ds.map (dn T δ))) (VR δ) := by
  unfold pick' V.pick
  cases ag with
  | true => exact Snd.okk (VR.agg rfl)
  | false =>
    simp only [Bool.false_eq_true, if_false]
    match ds with
    | [] => exact Snd.nno
    | [d] => exact Snd.okk (VR.leaf rfl)
    | _ :: _ :: _ => exact Snd.nno
theorem spl_dn (ds : List (DD (AP T))) (off : Nat) (xs : List (DD (AP T))) : splice (ds.map (dn T δ)) off (xs.map (dn T δ)) = (spl ds off xs).map (dn T δ) := by
  unfold splice spl
  simp only [List.map_append, List.map_take, List.map_drop, List.length_map]
theorem Snd.fills (hT : TabOK T) : ∀ {ps : List (Nat × Nat × X)} {z : List (DD (AP T))}, Snd (R := R) G δ (fills' G z ps) (Go.Proofs.Vai.fills (z.map (dn T δ)) ps) (DsR δ)
  | [], z => Snd.okk rfl
  | (off, m, x) :: ps, z => by
    simp only [fills', Go.Proofs.Vai.fills]
    refine Snd.bnd (Snd.takeV hT) fun a b h => ?_
    obtain ⟨hre, rfl⟩ := h
    refine Snd.iff_ (fun h => ?_) fun h => ?_
    · simp only [Bool.and_eq_true, beq_iff_eq, decide_eq_true_eq] at h ⊢
      refine ⟨⟨okc_dv _ h.1.1, ?_⟩, by simpa using h.2⟩
      rw [data_dv' _ hre, List.length_map]; exact h.1.2
    · rw [data_dv' _ hre, spl_dn]
      exact Snd.fills hT
theorem Snd.fillRows (hT : TabOK T) {zr : List D} {m : Nat} (hm : m = zr.length) : ∀ {ps : List (Nat × X)} {rows : List (List (DD (AP T)))}, Snd (R := R) G δ (fillRows' G m rows ps) (Go.Proofs.Vai.fillRows zr (rows.map fun r => r.map (dn T δ)) ps) (fun a b => b = a.map fun r => r.map (dn T δ))
  | [], z => Snd.okk rfl
  | (i, x) :: ps, rows => by
    simp only [fillRows', Go.Proofs.Vai.fillRows]
    refine Snd.bnd (Snd.takeV hT) fun a b h => ?_
    obtain ⟨hre, rfl⟩ := h
    refine Snd.iff_ (fun h => ?_) fun h => ?_
    · simp only [Bool.and_eq_true, beq_iff_eq, decide_eq_true_eq] at h ⊢
      refine ⟨⟨⟨okc_dv _ h.1.1.1, ?_⟩, by simpa using h.1.2⟩, ?_⟩
      · rw [data_dv' _ hre, List.length_map, ← hm]; exact h.1.1.2
      · rw [data_dv' _ hre, all_flat_dn]; exact h.2
    · rw [data_dv' _ hre]
      have := Snd.fillRows hT hm (ps := ps) (rows := rows.set i a.data)
      rw [List.map_set] at this
      exact this
theorem joinAll_enc (hT : TabOK T) {b : Nat} {fg : Fg} : ∀ {rows : List (List (DD (AP T)))} {ys : List (T.W b)}, joinAll (A := AP T) b fg rows = some ys → ys.map (encW T b fg) = rows.map fun r => r.map (dn T δ)
  | [], ys, h => by simp only [joinAll] at h; obtain rfl := Option.some.inj h; rfl
  | r :: rows, ys, h => by
    simp only [joinAll] at h
    split at h
    · rename_i y ys' h1 h2
      obtain rfl := Option.some.inj h
      simp only [List.map_cons]
      rw [joinRow_enc hT (δ := δ) h1, joinAll_enc hT h2]
    · cases h
theorem Snd.live {d : DD (AP T)} : Snd (R := R) G δ (live' G d) (Go.Proofs.Vai.live (dn T δ d)) (fun _ _ => True) := by
  cases d with
  | bp k off n =>
    simp only [live', dn, Go.Proofs.Vai.live]
    refine Snd.rd fun s r hr => Snd.iff_ (fun h => ?_) fun _ => Snd.okk trivial
    rw [hr.2.2.1, h]
  | el k j st i off n =>
    simp only [live', dn, Go.Proofs.Vai.live]
    refine Snd.rd fun s r hr => Snd.iff_ (fun h => ?_) fun _ => Snd.okk trivial
    rw [hr.1, h]
  | _ => first
    | (simp only [live', dn, Go.Proofs.Vai.live]; exact Snd.okk trivial)
    | exact Snd.nno
theorem Snd.faddr {off : Nat} {d : DD (AP T)} : Snd (R := R) G δ (faddr' off d) (faddrD off (dn T δ d)) (VR δ) := by
  cases d with
  | bp k q n => simp only [faddr', dn, faddrD]; exact Snd.okk (VR.leaf (by simp only [DR, dn]))
  | el k j st i q n => simp only [faddr', dn, faddrD]; exact Snd.okk (VR.leaf (by simp only [DR, dn]))
  | pt cs =>
    simp only [faddr', dn, faddrD, dns_map]
    refine Snd.iff_ (fun h => by simpa using h) fun _ => Snd.okk (VR.leaf ?_)
    simp only [DR, dn, dns_map, List.map_drop]
  | _ => exact Snd.nno
theorem dupIn_dn {k j : Nat} {i : Int} {e e' : Nat} (he : e' = e + δ.e k) : ∀ (c : Nat) (ds : List (DD (AP T))), dupIn k j i.toNat e' c (ds.map (dn T δ)) = (dupIn' (A := AP T) k j i e c ds).map (dn T δ)
  | c, [] => rfl
  | c, d :: ds => by
    simp only [List.map_cons, dupIn, dupIn']
    rw [dupIn_dn he (c + 1) ds, own_dn]
    congr 1
    split
    · simp [dn, stN, he, Dl.ver]
    · rfl
theorem Snd.loadP (hT : TabOK T) {ag : Bool} {m : Nat} {d : DD (AP T)} : Snd (R := R) G δ (loadP' G ag m d) (Go.Proofs.Vai.loadP ag m (dn T δ d)) (VR δ) := by
  cases d with
  | bp k off n =>
    simp only [loadP', dn, Go.Proofs.Vai.loadP]
    refine Snd.rd fun s r hr => Snd.iff_ (fun h => by rw [hr.2.2.1, h]) fun _ => ?_
    split
    · rename_i ds hc
      rw [hr.box hc]
      simp only
      refine Snd.iff_ (fun h => by simpa using h) fun _ => ?_
      rw [← List.map_drop, ← List.map_take, dupL_dn hr]
      exact Snd.pick
    · exact Snd.nno
  | el k j st i off n =>
    simp only [loadP', dn, Go.Proofs.Vai.loadP]
    refine Snd.rd fun s r hr => Snd.iff_ (fun h => by rw [hr.1, h]) fun _ => ?_
    refine Snd.pur (Pur.pl hT (δ := δ)) fun d ⟨hre, hpl⟩ => ?_
    rw [hr.2.2.2 hre, hpl]
    split
    · rename_i b fg x
      simp only [dn]
      refine Snd.pur (Pur.rowOfo hT (δ := δ)) fun cs ⟨h0, hrow⟩ => ?_
      rw [hrow]
      simp only
      refine Snd.iff_ (fun h => by simpa using h) fun _ => ?_
      cases st with
      | none =>
        simp only [stN, Option.map_none]
        rw [← List.map_drop, ← List.map_take, dupIn_dn hr.1]
        exact Snd.pick
      | some p =>
        simp only [stN, Option.map_some]
        rw [← List.map_drop, ← List.map_take]
        refine Snd.iff_ (fun h => ?_) fun _ => Snd.pick
        rw [List.all_map]
        rw [← h]
        congr 1
        funext d
        simp [own_dn]
    · exact Snd.nno
  | pt cs =>
    simp only [loadP', dn, Go.Proofs.Vai.loadP, dns_map]
    refine Snd.iff_ (fun h => by simpa using h) fun _ => ?_
    rw [← List.map_take]
    exact Snd.pick
  | _ => exact Snd.nno
theorem Snd.storeP (hT : TabOK T) {xs : List (DD (AP T))} {d : DD (AP T)} : Snd (R := R) G δ (storeP' G xs d) (Go.Proofs.Vai.storeP (xs.map (dn T δ)) (dn T δ d)) (fun _ _ => True) := by
  cases d with
  | bp k off n =>
    simp only [storeP', dn, Go.Proofs.Vai.storeP]
    refine Snd.rd fun s r hr => Snd.iff_ (fun h => by rw [hr.2.2.1, h]) fun _ => ?_
    split
    · rename_i ds hc
      rw [hr.box hc]
      simp only
      refine Snd.iff_ (fun h => by simpa using h) fun _ => ?_
      rw [spl_dn]
      exact Snd.wrV' trivial (hr.up1 fun _ => rfl) trivial
    · exact Snd.nno
  | el k j st i off n =>
    simp only [storeP', dn, Go.Proofs.Vai.storeP]
    refine Snd.rd fun s r hr => Snd.iff_ (fun h => by rw [hr.1, h]) fun _ => ?_
    refine Snd.pur (Pur.pl hT (δ := δ)) fun d ⟨hre, hpl⟩ => ?_
    rw [hr.2.2.2 hre, hpl]
    split
    · rename_i b fg x
      simp only [dn]
      refine Snd.pur (Pur.rowOfo hT (δ := δ)) fun cs ⟨h0, hrow⟩ => ?_
      rw [hrow]
      simp only
      refine Snd.iff_ (fun h => by simpa using h) fun _ => ?_
      refine Snd.ofOpt fun y hy => ?_
      refine Snd.pur Pur.letL fun x' hx' => ?_
      subst hx'
      refine Snd.pur (Pur.plSet hT (δ := δ)) fun v hv => ?_
      obtain ⟨hvr, hve⟩ := hv hre
      refine Snd.wrV' hvr (hr.up0 fun _ => ?_) trivial
      rw [hve]
      simp only [dn]
      rw [List.map_set, joinRow_enc hT (δ := δ) hy, spl_dn]
    · exact Snd.nno
  | _ => exact Snd.nno
theorem rowAt_run {rows : List (List D)} {i : Int} {row : List D} (h0 : 0 ≤ i) (h : rows[i.toNat]? = some row) : rowAt rows i = .ret row := by
  unfold rowAt
  rw [if_pos h0, h]
theorem Snd.iaddr (hT : TabOK T) {w : Nat} {x : X} {i : Int} : Snd (R := R) G δ (iaddr' G w x i) (iaddrP w x i) (VR δ) := by
  unfold iaddr' iaddrP
  refine Snd.bnd Snd.getD fun d d' h => ?_
  rw [h]
  cases d with
  | al k j st n =>
    simp only [dn]
    refine Snd.bnd (Snd.lookAl hT) fun c c' hc => ?_
    rw [hc.1]
    split
    · rename_i b fg y
      simp only [dn]
      refine Snd.iff_ (fun h => h) fun _ => ?_
      refine Snd.pur (Pur.rowOfo hT (δ := δ)) fun cs ⟨h0, hrow⟩ => ?_
      rw [rowAt_run h0 hrow]
      simp only [Pg.bind]
      exact Snd.rd fun s r hr => Snd.okk (VR.leaf (by simp only [DR, dn, hr.1]))
    · exact Snd.nno
  | sl ow b fg y =>
    cases ow with
    | false =>
      simp only [dn]
      refine Snd.iff_ (fun h => h) fun _ => ?_
      refine Snd.pur (Pur.rowOfo hT (δ := δ)) fun cs ⟨h0, hrow⟩ => ?_
      rw [rowAt_run h0 hrow]
      simp only [Pg.bind]
      exact Snd.okk (VR.leaf (by simp only [DR, dn, dns_map]))
    | true => exact Snd.nno
  | _ => exact Snd.nno
end
end Go.Proofs.Vai

namespace Go.Proofs.Vai
open Go
set_option linter.unusedVariables false

section
variable {T : Tab} {R : Type} {G : Gd (AP T)} {δ : Dl}
theorem Snd.ofOptR {α β γ : Type} {q : Option β} {b : β} (hq : q = some b) {m : MM (AP T) R γ} {g : β → Pg α} {rel : γ → α → Prop} (h : Snd G δ m (g b) rel) : Snd G δ m ((Pg.ofOpt q).bind g) rel := by
  rw [hq]; exact h
theorem beqd {α : Type} [BEq α] [LawfulBEq α] [DecidableEq α] (a b : α) : (a == b) = decide (a = b) := by
  by_cases h : a = b <;> simp [h]
theorem beqS (a b : ByteArray) : (a == b) = decide (a = b) := by
  have : (a == b) = (a.data == b.data) := rfl
  rw [this]
  by_cases h : a = b
  · simp [h]
  · have : ¬ a.data = b.data := fun hh => h (by cases a; cases b; simp_all)
    simp [h, this]
theorem bytes_eq (a b : ByteArray) : (a.toList == b.toList) = decide (a = b) := by
  by_cases h : a = b
  · subst h; simp
  · have : ¬ a.toList = b.toList := fun hh => h (by
      cases a; cases b
      simp only [ByteArray.mk.injEq]
      have := hh
      simpa [ByteArray.toList_eq] using this)
    simp [h, this]
theorem Pur.bin {op : BinOp} {x y : DD (AP T)} : Pur (R := R) (bin' (A := AP T) op x y) (fun d => binD op (dn T δ x) (dn T δ y) = some (dn T δ d)) := by
  unfold bin'
  split
  · rename_i k a k' b
    have ar : ∀ {op : BinOp} {n : Int} (h : k = k' → binD op (.i k a) (.i k' b) = some (.i k n)), Pur (T := T) (R := R) (if k = k' then Go.Proofs.Vai.bd (letI' (A := AP T) n) fun z => ok (.i k z) else no 55) (fun d => binD op (.i k a) (.i k' b) = some (dn T δ d)) := fun h =>
      Pur.iff_ fun hk => Pur.bnd Pur.letI fun z hz => Pur.okk (by rw [h hk, hz]; simp only [dn])
    have cm : ∀ {op : BinOp} {c : Bool} (h : k = k' → binD op (.i k a) (.i k' b) = some (.b c)), Pur (T := T) (R := R) (if k = k' then ok (.b c : DD (AP T)) else no 55) (fun d => binD op (.i k a) (.i k' b) = some (dn T δ d)) := fun h =>
      Pur.iff_ fun hk => Pur.okk (by rw [h hk]; simp only [dn])
    cases op with
    | add => exact ar fun hk => by simp only [binD, if_pos hk, binI, ibinP]
    | sub => exact ar fun hk => by simp only [binD, if_pos hk, binI, ibinP]
    | mul => exact ar fun hk => by simp only [binD, if_pos hk, binI, ibinP]
    | quo =>
      refine Pur.iff_ fun hk => Pur.bnd Pur.mustt fun _ hb => Pur.bnd Pur.letI fun z hz => Pur.okk ?_
      have hb' : b ≠ 0 := of_decide_eq_true hb
      simp only [dn, binD, if_pos hk, binI, if_neg hb', hz, ibinP]
    | rem =>
      refine Pur.iff_ fun hk => Pur.bnd Pur.mustt fun _ hb => Pur.bnd Pur.letI fun z hz => Pur.okk ?_
      have hb' : b ≠ 0 := of_decide_eq_true hb
      simp only [dn, binD, if_pos hk, binI, if_neg hb', hz, ibinP]
    | and => exact ar fun hk => by simp only [binD, if_pos hk, binI, ibinP, bitI]
    | or => exact ar fun hk => by simp only [binD, if_pos hk, binI, ibinP, bitI]
    | xor => exact ar fun hk => by simp only [binD, if_pos hk, binI, ibinP, bitI]
    | andNot => exact ar fun hk => by simp only [binD, if_pos hk, binI, ibinP, bitI]
    | shl =>
      refine Pur.bnd Pur.mustt fun _ hb => Pur.bnd Pur.letI fun z hz => Pur.okk ?_
      have hb' : ¬ (show Int from b) < 0 := Int.not_lt.2 (of_decide_eq_true hb)
      simp only [dn, binD, shI, if_neg hb', hz, ibinP, shlI]
    | shr =>
      refine Pur.bnd Pur.mustt fun _ hb => Pur.bnd Pur.letI fun z hz => Pur.okk ?_
      have hb' : ¬ (show Int from b) < 0 := Int.not_lt.2 (of_decide_eq_true hb)
      simp only [dn, binD, shI, if_neg hb', hz, ibinP, shrI]
    | eql => exact cm fun hk => by simp only [binD, if_pos hk, binI, icmpP, Option.some.injEq, D.b.injEq]; rw [beqd]
    | neq => exact cm fun hk => by simp only [binD, if_pos hk, binI, icmpP, Option.some.injEq, D.b.injEq]; rw [bne, beqd]; simp
    | lss => exact cm fun hk => by simp only [binD, if_pos hk, binI, icmpP]
    | leq => exact cm fun hk => by simp only [binD, if_pos hk, binI, icmpP]
    | gtr => exact cm fun hk => by simp only [binD, if_pos hk, binI, icmpP]
    | geq => exact cm fun hk => by simp only [binD, if_pos hk, binI, icmpP]
  · rename_i a b
    cases op with
    | add =>
      refine Pur.bnd Pur.mustt fun _ hb => Pur.bnd Pur.letS fun z hz => Pur.okk ?_
      have hb' : a.size + b.size ≤ LIM := of_decide_eq_true hb
      simp only [dn, binD, binS, if_pos hb', hz]
    | eql => exact Pur.okk (by simp only [dn, binD, binS, scmpP]; rw [bytes_eq])
    | neq => exact Pur.okk (by simp only [dn, binD, binS, scmpP]; rw [bytes_eq]; simp)
    | lss => exact Pur.okk (by simp only [dn, binD, binS, scmpP, sLt])
    | leq => exact Pur.okk (by simp only [dn, binD, binS, scmpP, sLe]; rw [bytes_eq])
    | gtr => exact Pur.okk (by simp only [dn, binD, binS, scmpP, sLe]; rw [bytes_eq])
    | geq => exact Pur.okk (by simp only [dn, binD, binS, scmpP, sLt])
    | _ => exact Pur.nno
  · exact Pur.nno
theorem bool_dn {d : DD (AP T)} {c : Bool} (h : d.bool = some c) : dn T δ d = .b c := by
  cases d <;> simp [DD.bool] at h
  · subst h; simp [dn]
  · subst h; simp [dn]
theorem eqD_ok {x y : DD (AP T)} {c : Bool} (h : eqD' (A := AP T) x y = some c) : eqD (dn T δ x) (dn T δ y) = some c := by
  unfold eqD' at h
  split at h
  · split at h
    · rename_i hk
      obtain rfl := Option.some.inj h
      simp only [dn, eqD, if_pos hk, icmpP, Option.some.injEq]
      rw [beqd]
    · cases h
  · obtain rfl := Option.some.inj h
    simp only [dn, eqD, scmpP, Option.some.injEq]
    rw [beqS]
  · split at h
    · rename_i a b ha hb
      obtain rfl := Option.some.inj h
      rw [bool_dn ha, bool_dn hb]
      rfl
    · cases h
theorem eqCells_ok : ∀ {xs ys : List (DD (AP T))} {c : Bool}, eqCells' (A := AP T) xs ys = some c → eqCells (xs.map (dn T δ)) (ys.map (dn T δ)) = some c
  | [], [], c, h => by simp only [eqCells'] at h; obtain rfl := Option.some.inj h; rfl
  | [], _ :: _, c, h => by simp [eqCells'] at h
  | _ :: _, [], c, h => by simp [eqCells'] at h
  | x :: xs, y :: ys, c, h => by
    simp only [eqCells'] at h
    split at h
    · rename_i a b h1 h2
      simp only [List.map_cons, eqCells, eqD_ok h1, eqCells_ok h2]
      obtain rfl := Option.some.inj h
      split
      · cases ys with
        | nil => simp only [eqCells', Option.some.injEq] at h2; subst h2; simp
        | cons => simp [eqCells'] at h2
      · rfl
    · cases h
theorem eqP_ok {k : Nat} {x y d : DD (AP T)} (h : eqP' k x y = some d) : ∃ t : Bool, eqP k (dn T δ x) (dn T δ y) = some t ∧ dn T δ d = .b t := by
  unfold eqP' at h
  split at h
  · split at h
    · rename_i hk
      obtain rfl := Option.some.inj h
      exact ⟨true, by simp only [dn, eqP, if_pos hk], by simp only [dn]⟩
    · cases h
  · rename_i hne
    split at h
    · rename_i hk
      obtain rfl := Option.some.inj h
      refine ⟨false, ?_, by simp only [dn]⟩
      rw [← isPtr_dn (δ := δ)] at hk
      simp only [dn]
      cases y with
      | nilp => simp at hne
      | pt cs => simp only [dn] at hk ⊢; simp only [eqP, if_pos hk]
      | bp k off n => simp only [dn] at hk ⊢; simp only [eqP, if_pos hk]
      | el k j st i off n => simp only [dn] at hk ⊢; simp only [eqP, if_pos hk]
      | _ => simp [dn, isPtr] at hk
    · cases h
  · rename_i hne
    split at h
    · rename_i hk
      obtain rfl := Option.some.inj h
      refine ⟨false, ?_, by simp only [dn]⟩
      rw [← isPtr_dn (δ := δ)] at hk
      simp only [dn]
      cases x with
      | pt cs => simp only [dn] at hk ⊢; simp only [eqP, if_pos hk]
      | bp k off n => simp only [dn] at hk ⊢; simp only [eqP, if_pos hk]
      | el k j st i off n => simp only [dn] at hk ⊢; simp only [eqP, if_pos hk]
      | _ => simp [dn, isPtr] at hk
    · cases h
  · rename_i a b
    split at h
    · rename_i hk
      obtain rfl := Option.some.inj h
      exact ⟨a == b, show eqP k (dn T δ (DD.bk _)) (dn T δ (DD.bk _)) = some _ by simp only [dn, eqP, if_pos hk], by simp only [dn]⟩
    · cases h
  · split at h
    · rename_i a b ha hb
      split at h
      · rename_i hk
        obtain rfl := Option.some.inj h
        refine ⟨(show Bool from a) == b, ?_, ?_⟩
        · rw [bool_dn ha, bool_dn hb]; simp only [eqP, if_pos hk]
        · simp only [dn]
      · cases h
    · cases h
theorem notD_ok {d d' : DD (AP T)} {t : Bool} (h : notD (A := AP T) d = some d') (ht : dn T δ d = .b t) : dn T δ d' = .b (!t) := by
  cases d with
  | b x => simp only [notD, Option.some.injEq] at h; subst h; simp only [dn, D.b.injEq] at ht ⊢; rw [ht]
  | bk x => simp only [notD, Option.some.injEq] at h; subst h; simp only [dn, D.b.injEq] at ht ⊢; rw [ht]
  | _ => simp [notD] at h
theorem Pur.un {op : UnOp} {x : DD (AP T)} : Pur (R := R) (un' (A := AP T) op x) (fun d => unD op (dn T δ x) = some (dn T δ d)) := by
  unfold un'
  split
  · exact Pur.bnd Pur.letI fun z hz => Pur.okk (by rw [hz]; simp only [dn, unD])
  · refine Pur.mono Pur.ofOo fun d hd => ?_
    cases x with
    | b x => simp only [notD, Option.some.injEq] at hd; subst hd; simp only [dn, unD]
    | bk x => simp only [notD, Option.some.injEq] at hd; subst hd; simp only [dn, unD]
    | _ => simp [notD] at hd
  · exact Pur.nno
theorem intsOf_ok {k : IntKind} : ∀ {ds : List (DD (AP T))} {l : List Int}, intsOf' (A := AP T) k ds = some l → intsOf k (ds.map (dn T δ)) = some l
  | [], l, h => by simp only [intsOf'] at h; obtain rfl := Option.some.inj h; rfl
  | d :: ds, l, h => by
    cases d with
    | i k' n =>
      simp only [intsOf'] at h
      split at h
      · rename_i hk
        simp only [Option.map_eq_some_iff] at h
        obtain ⟨l', h1, rfl⟩ := h
        simp only [List.map_cons, dn, intsOf, if_pos hk, intsOf_ok h1, Option.map_some]
      · cases h
    | _ => simp [intsOf'] at h
theorem min_ok (mx : Bool) : ∀ (l : List Int) (a : Int), min' (A := AP T) mx l a = minL mx l a
  | [], a => rfl
  | b :: r, a => by simp only [min', minL]; exact min_ok mx r _
theorem Snd.bnd1 (hT : TabOK T) {n : Int} {m : Nat} (hn : n = m) {q : Option X} {d : Int} {d' : Nat} (hd : d = d') : Snd (R := R) G δ (bnd' G n q d) (bndP m q d') (fun a b => a = (b : Int)) := by
  unfold bnd' bndP
  cases q with
  | none => exact Snd.okk hd
  | some x =>
    simp only
    refine Snd.bnd Snd.getD fun a b h => ?_
    rw [h]
    split
    · rename_i k i
      simp only [dn, D.int, Pg.bind]
      refine Snd.pur Pur.mustt fun _ h1 => Snd.pur Pur.mustt fun _ h2 => ?_
      have h1 : (0 : Int) ≤ i := of_decide_eq_true h1
      have h2 : i ≤ n := of_decide_eq_true h2
      rw [if_pos ⟨h1, by rw [← hn]; exact h2⟩]
      exact Snd.okk (Int.toNat_of_nonneg h1).symm
    · exact Snd.nno
/-! ### Views -/
abbrev DbR (δ : Dl) (p : DD (AP T) × Bool) (q : D × Bool) : Prop := q = (dn T δ p.1, p.2)
theorem Snd.viewC (hT : TabOK T) {d : DD (AP T)} : Snd (R := R) G δ (viewC' G d) (Go.Proofs.Vai.viewC (dn T δ d)) (DbR δ) := by
  cases d with
  | al k j st n =>
    simp only [viewC', dn, Go.Proofs.Vai.viewC]
    refine Snd.bnd (Snd.lookAl hT) fun a b h => ?_
    rw [h.1]
    split
    · simp only [dn]; exact Snd.okk (by simp only [DbR, dn]; rw [rows_fl hT])
    · simp only [dn]; exact Snd.okk (by simp only [DbR, dn, flRows])
    · exact Snd.nno
  | bp k off n =>
    simp only [viewC', dn, Go.Proofs.Vai.viewC]
    refine Snd.rd fun s r hr => Snd.iff_ (fun h => by rw [hr.2.2.1, h]) fun _ => ?_
    split
    · rename_i ds hc
      rw [hr.box hc]
      simp only
      refine Snd.iff_ (fun h => ?_) fun _ => Snd.okk ?_
      · simp only [Bool.and_eq_true, decide_eq_true_eq] at h ⊢
        exact ⟨by rw [all_flat_dn]; exact h.1, by simpa using h.2⟩
      · simp only [DbR, dn]
        rw [flSs_dn hT, dns_map, List.map_drop]
    · exact Snd.nno
  | el k j st i off n =>
    simp only [viewC', dn, Go.Proofs.Vai.viewC]
    refine Snd.rd fun s r hr => Snd.iff_ (fun h => by rw [hr.1, h]) fun _ => ?_
    refine Snd.pur (Pur.pl hT (δ := δ)) fun d ⟨hre, hpl⟩ => ?_
    rw [hr.2.2.2 hre, hpl]
    split
    · rename_i b fg x
      simp only [dn]
      refine Snd.pur (Pur.rowOfo hT (δ := δ)) fun cs ⟨h0, hrow⟩ => ?_
      rw [hrow]
      simp only
      refine Snd.iff_ (fun h => by simpa using h) fun _ => Snd.okk ?_
      simp only [DbR, dn]
      rw [flSs_dn hT, dns_map, List.map_drop]
    · exact Snd.nno
  | sl ow b fg x =>
    cases ow with
    | true => simp only [viewC', dn, Go.Proofs.Vai.viewC]; exact Snd.okk (by simp only [DbR, dn]; rw [rows_fl hT])
    | false => simp only [viewC', dn, Go.Proofs.Vai.viewC]; exact Snd.okk (by simp only [DbR, dn])
  | nl ow w =>
    cases ow with
    | true => simp only [viewC', dn, Go.Proofs.Vai.viewC]; exact Snd.okk (by simp only [DbR, dn, flRows])
    | false => simp only [viewC', dn, Go.Proofs.Vai.viewC]; exact Snd.okk (by simp only [DbR, dn])
  | _ => first
    | (simp only [viewC', dn, Go.Proofs.Vai.viewC]; exact Snd.okk (by simp only [DbR, dn]))
    | exact Snd.nno
abbrev DsbR (δ : Dl) (p : List (DD (AP T)) × Bool) (q : List D × Bool) : Prop := q = (p.1.map (dn T δ), p.2)
theorem Snd.viewL (hT : TabOK T) : ∀ {ds : List (DD (AP T))}, Snd (R := R) G δ (viewL' G ds) (Go.Proofs.Vai.viewL (ds.map (dn T δ))) (DsbR δ)
  | [] => Snd.okk rfl
  | d :: ds => by
    simp only [viewL', List.map_cons, Go.Proofs.Vai.viewL]
    refine Snd.bnd (Snd.viewC hT) fun a b h => Snd.bnd (Snd.viewL hT) fun as bs hs => Snd.okk ?_
    rw [h, hs]; rfl
theorem Snd.viewD (hT : TabOK T) {d : DD (AP T)} : Snd (R := R) G δ (viewD' G d) (Go.Proofs.Vai.viewD (dn T δ d)) (DbR δ) := by
  cases d with
  | fn f cs =>
    simp only [viewD', dn, Go.Proofs.Vai.viewD, dns_map]
    refine Snd.bnd (Snd.viewL hT) fun a b h => Snd.okk ?_
    rw [h]; simp only [DbR, dn, dns_map]
  | al k j st n => have := Snd.viewC (R := R) (G := G) (δ := δ) hT (d := .al k j st n); simp only [viewD', dn, Go.Proofs.Vai.viewD] at this ⊢; exact this
  | bp k off n => have := Snd.viewC (R := R) (G := G) (δ := δ) hT (d := .bp k off n); simp only [viewD', dn, Go.Proofs.Vai.viewD] at this ⊢; exact this
  | el k j st i off n => have := Snd.viewC (R := R) (G := G) (δ := δ) hT (d := .el k j st i off n); simp only [viewD', dn, Go.Proofs.Vai.viewD] at this ⊢; exact this
  | sl ow b fg x => have := Snd.viewC (R := R) (G := G) (δ := δ) hT (d := .sl ow b fg x); simp only [viewD', dn, Go.Proofs.Vai.viewD] at this ⊢; exact this
  | nl ow w => have := Snd.viewC (R := R) (G := G) (δ := δ) hT (d := .nl ow w); simp only [viewD', dn, Go.Proofs.Vai.viewD] at this ⊢; exact this
  | pt cs => have := Snd.viewC (R := R) (G := G) (δ := δ) hT (d := .pt cs); simp only [viewD', dn, Go.Proofs.Vai.viewD] at this ⊢; exact this
  | i k n => have := Snd.viewC (R := R) (G := G) (δ := δ) hT (d := .i k n); simp only [viewD', dn, Go.Proofs.Vai.viewD] at this ⊢; exact this
  | b x => have := Snd.viewC (R := R) (G := G) (δ := δ) hT (d := .b x); simp only [viewD', dn, Go.Proofs.Vai.viewD] at this ⊢; exact this
  | bk x => have := Snd.viewC (R := R) (G := G) (δ := δ) hT (d := .bk x); simp only [viewD', dn, Go.Proofs.Vai.viewD] at this ⊢; exact this
  | s x => have := Snd.viewC (R := R) (G := G) (δ := δ) hT (d := .s x); simp only [viewD', dn, Go.Proofs.Vai.viewD] at this ⊢; exact this
  | nilp => have := Snd.viewC (R := R) (G := G) (δ := δ) hT (d := .nilp); simp only [viewD', dn, Go.Proofs.Vai.viewD] at this ⊢; exact this
  | _ => exact Snd.nno
theorem Snd.viewDs (hT : TabOK T) : ∀ {ds : List (DD (AP T))}, Snd (R := R) G δ (viewDs' G ds) (Go.Proofs.Vai.viewDs (ds.map (dn T δ))) (DsbR δ)
  | [] => Snd.okk rfl
  | d :: ds => by
    simp only [viewDs', List.map_cons, Go.Proofs.Vai.viewDs]
    refine Snd.bnd (Snd.viewD hT) fun a b h => Snd.bnd (Snd.viewDs hT) fun as bs hs => Snd.okk ?_
    rw [h, hs]; rfl
abbrev VbR (δ : Dl) (p : VV (AP T) × Bool) (q : V × Bool) : Prop := VR δ p.1 q.1 ∧ q.2 = p.2
theorem Snd.viewX (hT : TabOK T) {x : X} : Snd (R := R) G δ (viewX' G x) (viewV x) (VbR δ) := by
  have gen : ∀ d : D, Snd (R := R) G δ (bd (ofO 73 (cstD (A := AP T) d)) fun x => if x.isPrim then ok (VV.leaf x, false) else no 74) (if isPrim d then .ret (.leaf d, false) else .fail) (VbR δ) := fun d => by
    refine Snd.ofOpt fun y hy => ?_
    refine Snd.iff_ (fun h => ?_) fun _ => Snd.okk ⟨⟨trivial, by simp only [dv]; rw [cstD_ok hy]⟩, rfl⟩
    rw [← cstD_ok (δ := δ) hy, isPrim_dn]; exact h
  cases x with
  | c v =>
    cases v with
    | leaf d =>
      cases d with
      | sl ow w els =>
        cases ow with
        | true =>
          cases els with
          | nil => simp only [viewX', viewV]; exact Snd.okk ⟨⟨trivial, by simp only [dv, dn]⟩, rfl⟩
          | cons e es => simp only [viewX', viewV]; exact gen _
        | false => simp only [viewX', viewV]; exact gen _
      | fn f caps =>
        cases caps with
        | nil => simp only [viewX', viewV]; exact Snd.okk ⟨⟨trivial, by simp only [dv, dn, dns]⟩, rfl⟩
        | cons e es => simp only [viewX', viewV]; exact gen _
      | _ => simp only [viewX', viewV]; exact gen _
    | agg ds => exact Snd.nno
    | box ds => exact Snd.nno
  | t n =>
    simp only [viewX', viewV]
    refine Snd.rd fun s r hr => ?_
    split
    · rename_i d hc
      rw [hr.leaf hc]
      exact Snd.bnd (Snd.viewD hT) fun a b h => by rw [h]; exact Snd.okk ⟨VR.leaf rfl, rfl⟩
    · rename_i ds hc
      rw [hr.agg hc]
      exact Snd.bnd (Snd.viewDs hT) fun a b h => by rw [h]; exact Snd.okk ⟨VR.agg rfl, rfl⟩
    · rename_i ds hc
      rw [hr.box hc]
      simp only
      refine Snd.bnd (r1 := DbR δ) ?_ fun a b h => by rw [h]; exact Snd.okk ⟨VR.leaf rfl, rfl⟩
      have := Snd.viewD (R := R) (G := G) (δ := δ) hT (d := .bp n 0 s.x)
      simp only [dn] at this
      rw [hr.2.2.1]
      exact this
    · exact Snd.nno
abbrev VsbR (δ : Dl) (p : List (VV (AP T)) × Bool) (q : List V × Bool) : Prop := VsR δ p.1 q.1 ∧ q.2 = p.2
theorem Snd.viewVs (hT : TabOK T) {io : Option Nat} {vio : VV (AP T)} {vio' : V} (hv : io.isSome = true → VR δ vio vio') : ∀ {xs : List X} {j : Nat}, Snd (R := R) G δ (viewVs' G io vio j xs) (Go.Proofs.Vai.viewVs io vio' j xs) (VsbR δ)
  | [], j => Snd.okk ⟨trivial, rfl⟩
  | x :: xs, j => by
    simp only [viewVs', Go.Proofs.Vai.viewVs]
    refine Snd.bnd (r1 := VbR δ) ?_ fun a b h => Snd.bnd (Snd.viewVs hT hv) fun as bs hs => Snd.okk ⟨⟨h.1, hs.1⟩, by rw [h.2, hs.2]⟩
    by_cases e : io = some j
    · rw [if_pos e, if_pos e]
      exact Snd.okk ⟨hv (by rw [e]; rfl), rfl⟩
    · rw [if_neg e, if_neg e]
      exact Snd.viewX hT
end
end Go.Proofs.Vai

namespace Go.Proofs.Vai
open Go
set_option linter.unusedVariables false

section
variable {T : Tab} {δ : Dl}
/-! ### Codes held against values, and back -/
theorem leafOf_fit {c : CK} {p : Bool × Fg} {d : DD (AP T)} {l : T.Lf} (h : leafOf c p d = some l) : fit1 T c l := by
  unfold leafOf at h
  split at h
  · split at h
    · obtain rfl := Option.some.inj h; trivial
    · cases h
  · obtain rfl := Option.some.inj h; trivial
  · obtain rfl := Option.some.inj h; trivial
  · obtain rfl := Option.some.inj h; trivial
  · split at h
    · rename_i hk; obtain rfl := Option.some.inj h; exact hk.1
    · cases h
  · split at h
    · obtain rfl := Option.some.inj h; rfl
    · cases h
  · cases h
theorem leavesOf_fits {fg : Fg} : ∀ {j : Nat} {cs : List CK} {ds : List (DD (AP T))} {ls : List T.Lf}, leavesOf (A := AP T) fg j cs ds = some ls → Fits T cs ls
  | j, [], [], ls, h => by simp only [leavesOf] at h; obtain rfl := Option.some.inj h; trivial
  | j, [], _ :: _, ls, h => by simp [leavesOf] at h
  | j, _ :: _, [], ls, h => by simp [leavesOf] at h
  | j, c :: cs, d :: ds, ls, h => by
    simp only [leavesOf] at h
    split at h
    · rename_i l ls' h1 h2
      obtain rfl := Option.some.inj h
      exact ⟨leafOf_fit h1, leavesOf_fits h2⟩
    · cases h
theorem cellsOf_fits {fg : Fg} : ∀ {j : Nat} {cs : List CK} {ls : List T.Lf}, Fits T cs ls → ∃ ds, cellsOf (A := AP T) fg j cs ls = some ds
  | j, [], [], _ => ⟨[], rfl⟩
  | j, [], _ :: _, h => h.elim
  | j, _ :: _, [], h => h.elim
  | j, c :: cs, l :: ls, h => by
    obtain ⟨ds, hd⟩ := cellsOf_fits (fg := fg) (j := j + 1) h.2
    have h1 := h.1
    have : ∃ d, cellK (A := AP T) c (fgAt (AP T) c (fg.raw j)) l = some d := by
      unfold fit1 at h1
      unfold cellK
      split at h1
      · exact ⟨_, rfl⟩
      · exact ⟨_, rfl⟩
      · exact ⟨_, rfl⟩
      · exact ⟨_, if_pos h1⟩
      · exact h1.elim
    obtain ⟨d, hd'⟩ := this
    exact ⟨d :: ds, by simp only [cellsOf, hd', hd]⟩
theorem joinRow_cells (hT : TabOK T) {b : Nat} {fg : Fg} {ds : List (DD (AP T))} {x : T.W b} (h : joinRow (A := AP T) b fg ds = some x) : ∃ ds', rowCells (A := AP T) b fg x = some ds' ∧ ∀ δ, ds'.map (dn T δ) = ds.map (dn T δ) := by
  have h' := h
  unfold joinRow at h
  simp only [Option.bind_eq_some_iff] at h
  obtain ⟨ls, h1, h2⟩ := h
  obtain ⟨ds', hd⟩ := cellsOf_fits (T := T) (fg := fg) (j := 0) (leavesOf_fits h1)
  have hr : rowCells (A := AP T) b fg x = some ds' := by
    unfold rowCells
    show cellsOf fg 0 (T.kinds b) (splitP T b x) = some ds'
    rw [join_split hT h2]; exact hd
  exact ⟨ds', hr, fun δ => by rw [← rowCells_enc hT hr, joinRow_enc hT h']⟩
theorem same_some {c : Bool} {ls r : List T.Lf} (h : same (A := AP T) c ls = some r) : c = true ∧ r = ls := by
  unfold same at h
  split at h
  · rename_i hc; exact ⟨hc, (Option.some.inj h).symm⟩
  · cases h
mutual
theorem packD_unp (hT : TabOK T) : ∀ (c : DC) (d : DD (AP T)) (ls rest : List T.Lf), packD (A := AP T) c d = some ls → ∃ d', unpD (A := AP T) c (ls ++ rest) = some (d', rest) ∧ ∀ δ, dn T δ d' = dn T δ d
  | .i k, d, ls, rest, h => by
    cases d with
    | i k' x =>
      simp only [packD] at h
      obtain ⟨h1, rfl⟩ := same_some h
      have := of_decide_eq_true h1
      subst this
      exact ⟨_, rfl, fun _ => rfl⟩
    | _ => simp [packD] at h
  | .b, d, ls, rest, h => by
    cases d with
    | b x => simp only [packD] at h; obtain rfl := Option.some.inj h; exact ⟨_, rfl, fun _ => rfl⟩
    | bk t => simp only [packD] at h; obtain rfl := Option.some.inj h; exact ⟨_, rfl, fun _ => by simp only [dn]⟩
    | _ => simp [packD] at h
  | .bk t, d, ls, rest, h => by
    cases d with
    | bk t' =>
      simp only [packD] at h
      obtain ⟨h1, rfl⟩ := same_some h
      simp only [beq_iff_eq] at h1
      subst h1
      exact ⟨_, rfl, fun _ => rfl⟩
    | _ => simp [packD] at h
  | .s, d, ls, rest, h => by
    cases d with
    | s x => simp only [packD] at h; obtain rfl := Option.some.inj h; exact ⟨_, rfl, fun _ => rfl⟩
    | _ => simp [packD] at h
  | .nilp, d, ls, rest, h => by
    cases d with
    | nilp => simp only [packD] at h; obtain rfl := Option.some.inj h; exact ⟨_, rfl, fun _ => rfl⟩
    | _ => simp [packD] at h
  | .sl ow b fg, d, ls, rest, h => by
    cases d with
    | sl ow' b' fg' x =>
      simp only [packD] at h
      obtain ⟨h1, rfl⟩ := same_some h
      simp only [Bool.and_eq_true, beq_iff_eq, decide_eq_true_eq] at h1
      obtain ⟨⟨rfl, rfl⟩, rfl⟩ := h1
      exact ⟨.sl ow b fg x, by simp only [List.singleton_append, unpD, if_true], fun _ => rfl⟩
    | nl ow' w =>
      simp only [packD] at h
      obtain ⟨h1, rfl⟩ := same_some h
      simp only [Bool.and_eq_true, beq_iff_eq] at h1
      obtain ⟨rfl, rfl⟩ := h1
      exact ⟨.sl ow b fg [], by simp only [List.singleton_append, unpD, if_true], fun _ => by simp [dn]⟩
    | _ => simp [packD] at h
  | .nl ow w, d, ls, rest, h => by
    cases d with
    | nl ow' w' =>
      simp only [packD] at h
      obtain ⟨h1, rfl⟩ := same_some h
      simp only [Bool.and_eq_true, beq_iff_eq] at h1
      obtain ⟨rfl, rfl⟩ := h1
      exact ⟨_, rfl, fun _ => rfl⟩
    | _ => simp [packD] at h
  | .pt cs, d, ls, rest, h => by
    cases d with
    | pt ds =>
      simp only [packD] at h
      obtain ⟨ds', h1, h2⟩ := packDs_unp hT cs ds ls rest h
      exact ⟨.pt ds', by simp only [unpD, h1], fun δ => by simp only [dn]; rw [h2]⟩
    | _ => simp [packD] at h
  | .fn f cs, d, ls, rest, h => by
    cases d with
    | fn f' ds =>
      simp only [packD] at h
      split at h
      · rename_i hf
        subst hf
        obtain ⟨ds', h1, h2⟩ := packDs_unp hT cs ds ls rest h
        exact ⟨.fn f ds', by simp only [unpD, h1], fun δ => by simp only [dn]; rw [h2]⟩
      · cases h
    | _ => simp [packD] at h
  | .mp k v, d, ls, rest, h => by
    cases d with
    | mp k' v' x =>
      simp only [packD] at h
      obtain ⟨h1, rfl⟩ := same_some h
      obtain ⟨rfl, rfl⟩ := of_decide_eq_true h1
      exact ⟨.mp k v x, by simp only [List.singleton_append, unpD, and_self, if_true], fun _ => rfl⟩
    | mn =>
      simp only [packD] at h
      obtain rfl := Option.some.inj h
      exact ⟨.mp k v [], by simp only [List.singleton_append, unpD, and_self, if_true], fun _ => by simp [dn]⟩
    | _ => simp [packD] at h
  | .mn, d, ls, rest, h => by
    cases d with
    | mn => simp only [packD] at h; obtain rfl := Option.some.inj h; exact ⟨_, rfl, fun _ => rfl⟩
    | _ => simp [packD] at h
  | .al k j st n, d, ls, rest, h => by
    cases d with
    | al k' j' st' n' =>
      cases st with
      | none =>
        cases st' with
        | none =>
          simp only [packD] at h
          obtain ⟨h1, rfl⟩ := same_some h
          simp only [Bool.and_eq_true, beq_iff_eq] at h1
          obtain ⟨⟨rfl, rfl⟩, rfl⟩ := h1
          exact ⟨_, rfl, fun _ => rfl⟩
        | some p => simp [packD] at h
      | some l =>
        cases st' with
        | none => simp [packD] at h
        | some p =>
          obtain ⟨i, l'⟩ := p
          simp only [packD] at h
          obtain ⟨h1, rfl⟩ := same_some h
          simp only [Bool.and_eq_true, beq_iff_eq] at h1
          obtain ⟨⟨⟨rfl, rfl⟩, rfl⟩, rfl⟩ := h1
          exact ⟨_, rfl, fun _ => rfl⟩
    | _ => cases st <;> simp [packD] at h
  | .bp k off n, d, ls, rest, h => by
    cases d with
    | bp k' off' n' =>
      simp only [packD] at h
      obtain ⟨h1, rfl⟩ := same_some h
      simp only [Bool.and_eq_true, beq_iff_eq] at h1
      obtain ⟨⟨rfl, rfl⟩, rfl⟩ := h1
      exact ⟨_, rfl, fun _ => rfl⟩
    | _ => simp [packD] at h
  | .el k j st off n, d, ls, rest, h => by
    cases d with
    | el k' j' st' i off' n' =>
      cases st with
      | none =>
        cases st' with
        | none =>
          simp only [packD] at h
          obtain ⟨h1, rfl⟩ := same_some h
          simp only [Bool.and_eq_true, beq_iff_eq] at h1
          obtain ⟨⟨⟨rfl, rfl⟩, rfl⟩, rfl⟩ := h1
          exact ⟨_, rfl, fun _ => rfl⟩
        | some p => simp [packD] at h
      | some l =>
        cases st' with
        | none => simp [packD] at h
        | some p =>
          obtain ⟨i0, l'⟩ := p
          simp only [packD] at h
          obtain ⟨h1, rfl⟩ := same_some h
          simp only [Bool.and_eq_true, beq_iff_eq] at h1
          obtain ⟨⟨⟨⟨rfl, rfl⟩, rfl⟩, rfl⟩, rfl⟩ := h1
          exact ⟨_, rfl, fun _ => rfl⟩
    | _ => cases st <;> simp [packD] at h
  | .und, d, ls, rest, h => by
    cases d with
    | und => simp only [packD] at h; obtain rfl := Option.some.inj h; exact ⟨_, rfl, fun _ => rfl⟩
    | _ => simp [packD] at h
  | .dead, d, ls, rest, h => by
    cases d with
    | dead => simp only [packD] at h; obtain rfl := Option.some.inj h; exact ⟨_, rfl, fun _ => rfl⟩
    | _ => simp [packD] at h
theorem packDs_unp (hT : TabOK T) : ∀ (cs : List DC) (ds : List (DD (AP T))) (ls rest : List T.Lf), packDs (A := AP T) cs ds = some ls → ∃ ds', unpDs (A := AP T) cs (ls ++ rest) = some (ds', rest) ∧ ∀ δ, dns T δ ds' = dns T δ ds
  | [], [], ls, rest, h => by simp only [packDs] at h; obtain rfl := Option.some.inj h; exact ⟨[], rfl, fun _ => rfl⟩
  | [], _ :: _, ls, rest, h => by simp [packDs] at h
  | _ :: _, [], ls, rest, h => by simp [packDs] at h
  | c :: cs, d :: ds, ls, rest, h => by
    simp only [packDs] at h
    split at h
    · rename_i a b h1 h2
      obtain rfl := Option.some.inj h
      obtain ⟨d', e1, e2⟩ := packD_unp hT c d a (b ++ rest) h1
      obtain ⟨ds', q1, q2⟩ := packDs_unp hT cs ds b rest h2
      refine ⟨d' :: ds', ?_, fun δ => by simp only [dns]; rw [e2, q2]⟩
      rw [List.append_assoc]
      simp only [unpDs, e1, q1]
    · cases h
end
theorem packV_unp (hT : TabOK T) {c : VC} {v : VV (AP T)} {ls : List T.Lf} (rest : List T.Lf) (h : packV (A := AP T) c v = some ls) : v.real ∧ ∃ v', unpV (A := AP T) c (ls ++ rest) = some (v', rest) ∧ v'.real ∧ ∀ δ, dv T δ v' = dv T δ v := by
  have cells : ∀ {cs : List DC} {ds : List (DD (AP T))} {ls : List T.Lf}, packDs (A := AP T) cs ds = some ls → ∃ ds', unpDs (A := AP T) cs (ls ++ rest) = some (ds', rest) ∧ ∀ δ, ds'.map (dn T δ) = ds.map (dn T δ) := fun h => by
    obtain ⟨ds', h1, h2⟩ := packDs_unp hT _ _ _ rest h
    exact ⟨ds', h1, fun δ => by rw [← dns_map, ← dns_map, h2]⟩
  unfold packV at h
  split at h
  · obtain ⟨d', h1, h2⟩ := packD_unp hT _ _ _ rest h
    exact ⟨trivial, .leaf d', by simp only [unpV, h1], trivial, fun δ => by simp only [dv]; rw [h2]⟩
  · obtain ⟨ds', h1, h2⟩ := cells h
    exact ⟨trivial, .agg ds', by simp only [unpV, h1], trivial, fun δ => by simp only [dv]; rw [h2]⟩
  · obtain ⟨ds', h1, h2⟩ := cells h
    exact ⟨trivial, .box ds', by simp only [unpV, h1], trivial, fun δ => by simp only [dv]; rw [h2]⟩
  · simp only [Option.map_eq_some_iff] at h
    obtain ⟨x, hx, rfl⟩ := h
    obtain ⟨ds', h1, h2⟩ := joinRow_cells hT hx
    exact ⟨trivial, .agg ds', by simp only [List.singleton_append, unpV, if_true, h1, Option.map_some], trivial, fun δ => by simp only [dv]; rw [h2]⟩
  · simp only [Option.map_eq_some_iff] at h
    obtain ⟨x, hx, rfl⟩ := h
    obtain ⟨ds', h1, h2⟩ := joinRow_cells hT hx
    exact ⟨trivial, .leaf (.pt ds'), by simp only [List.singleton_append, unpV, if_true, h1, Option.map_some], trivial, fun δ => by simp only [dv, dn, dns_map]; rw [h2]⟩
  · simp only [Option.map_eq_some_iff] at h
    obtain ⟨x, hx, rfl⟩ := h
    obtain ⟨ds', h1, h2⟩ := joinRow_cells hT hx
    exact ⟨trivial, .box ds', by simp only [List.singleton_append, unpV, if_true, h1, Option.map_some], trivial, fun δ => by simp only [dv]; rw [h2]⟩
  · cases h
def allReal (vs : List (VV (AP T))) : Prop := ∀ v ∈ vs, v.real
theorem packVs_unp (hT : TabOK T) : ∀ {cs : List VC} {vs : List (VV (AP T))} {ls : List T.Lf} (rest : List T.Lf), packVs (A := AP T) cs vs = some ls → allReal vs ∧ ∃ vs', unpVs (A := AP T) cs (ls ++ rest) = some (vs', rest) ∧ allReal vs' ∧ ∀ δ, vs'.map (dv T δ) = vs.map (dv T δ)
  | [], [], ls, rest, h => by simp only [packVs] at h; obtain rfl := Option.some.inj h; exact ⟨fun v hv => by simp at hv, [], rfl, fun v hv => by simp at hv, fun _ => rfl⟩
  | [], _ :: _, ls, rest, h => by simp [packVs] at h
  | _ :: _, [], ls, rest, h => by simp [packVs] at h
  | c :: cs, d :: ds, ls, rest, h => by
    simp only [packVs] at h
    split at h
    · rename_i a b h1 h2
      obtain rfl := Option.some.inj h
      obtain ⟨r1, d', e1, e2, e3⟩ := packV_unp hT (b ++ rest) h1
      obtain ⟨r2, ds', q1, q2, q3⟩ := packVs_unp hT rest h2
      refine ⟨fun v hv => (List.mem_cons.1 hv).elim (fun e => e ▸ r1) (r2 v), d' :: ds', ?_, fun v hv => (List.mem_cons.1 hv).elim (fun e => e ▸ e2) (q2 v), fun δ => by simp only [List.map_cons]; rw [e3, q3]⟩
      rw [List.append_assoc]
      simp only [unpVs, e1, q1]
    · cases h
/-! ### Several ways out -/
theorem xcase_inj {W : Nat → Type} : ∀ {xs : List (List K)} {q : Nat} {t : TT W (xs.getD q [])} {x : XX W xs}, injX W xs q t = some x → q < xs.length ∧ ∀ {R : Type} (f : (e : Nat) → TT W (xs.getD e []) → R), xcase W xs x f = f q t
  | [], q, t, x, h => by simp [injX] at h
  | [a], 0, t, x, h => by
    have h' : t = x := Option.some.inj h
    subst h'
    exact ⟨by simp, fun f => rfl⟩
  | [a], q + 1, t, x, h => by simp [injX] at h
  | a :: a' :: r, 0, t, x, h => by
    simp only [injX, Option.some.injEq] at h
    subst h
    exact ⟨by simp, fun f => rfl⟩
  | a :: a' :: r, q + 1, t, x, h => by
    simp only [injX] at h
    split at h
    · rename_i y hy
      obtain rfl := Option.some.inj h
      obtain ⟨h1, h2⟩ := xcase_inj (xs := a' :: r) hy
      exact ⟨by simp at h1 ⊢; omega, fun f => by simp only [xcase]; exact h2 fun e t => f (e + 1) t⟩
    · cases h
theorem inj_ex {W : Nat → Type} : ∀ (xs : List (List K)) (x : XX W xs), ∃ q t, injX W xs q t = some x
  | [], x => x.elim
  | [a], x => ⟨0, x, rfl⟩
  | a :: a' :: r, .inl t => ⟨0, t, rfl⟩
  | a :: a' :: r, .inr y => by
    obtain ⟨q, t, h⟩ := inj_ex (a' :: r) y
    exact ⟨q + 1, t, by simp only [injX]; rw [h]⟩
/-! ### Calls -/
/-- What an entry says holds of what calls answer. -/
def EntOK (T : Tab) (Er : CallF) (e : Ent (AP T)) : Prop :=
  ∀ (δ : Dl) (t : TT T.W (VC.kss e.args)) (x : XX T.W e.xs) (vs : List (VV (AP T))), e.fn t = some x → unpVs (A := AP T) e.args (unpT T.W _ t) = some (vs, []) →
    ∀ q (tt : TT T.W (e.xs.getD q [])), injX T.W e.xs q tt = some x →
      ∃ p rs l ios, e.res[q]? = some p ∧ unpVs (A := AP T) p.1 (unpT T.W _ tt) = some (rs, l) ∧ unpVs (A := AP T) p.2 l = some (ios, []) ∧ allReal rs ∧ allReal ios ∧ Er e.f (vs.map (dv T δ)) = some (rs.map (dv T δ), ios.map (dv T δ))
theorem VsR_map {vs : List (VV (AP T))} (h : allReal vs) : VsR δ vs (vs.map (dv T δ)) := by
  induction vs with
  | nil => trivial
  | cons v vs ih => exact ⟨⟨h v List.mem_cons_self, rfl⟩, ih fun w hw => h w (List.mem_cons_of_mem _ hw)⟩
theorem VsR_eq : ∀ {vs : List (VV (AP T))} {vs' : List V}, VsR δ vs vs' → vs' = vs.map (dv T δ) ∧ allReal vs
  | [], [], _ => ⟨rfl, fun v hv => by simp at hv⟩
  | v :: vs, v' :: vs', h => by
    obtain ⟨h1, h2⟩ := VsR_eq h.2
    exact ⟨by rw [List.map_cons, ← h1, h.1.2], fun w hw => (List.mem_cons.1 hw).elim (fun e => e ▸ h.1.1) (h2 w)⟩
theorem Pur.callE {R : Type} (hT : TabOK T) {Er : CallF} : ∀ {E : List (Ent (AP T))} (hE : ∀ e ∈ E, EntOK T Er e) {f : Nat} {args : List (VV (AP T))} {args' : List V} (ha : VsR δ args args'),
    Pur (R := R) (callE E f args) (fun r => ∃ rs ios, Er f args' = some (rs, ios) ∧ VsR δ r.1 rs ∧ VsR δ r.2 ios)
  | [], hE, f, args, args', ha => fun S κ r hr => by cases hr
  | e :: E, hE, f, args, args', ha => fun S κ r hr => by
    have rest : Pur (R := R) (Go.Proofs.Vai.callE E f args) (fun r => ∃ rs ios, Er f args' = some (rs, ios) ∧ VsR δ r.1 rs ∧ VsR δ r.2 ios) := Pur.callE hT (fun e' he' => hE e' (List.mem_cons_of_mem _ he')) ha
    simp only [Go.Proofs.Vai.callE] at hr
    split at hr
    · rename_i hf
      split at hr
      · rename_i t ht
        simp only [Option.bind_eq_some_iff] at ht
        obtain ⟨ls, h1, h2⟩ := ht
        obtain ⟨x, hx, hr⟩ := Option.bind_eq_some_iff.1 (show Option.bind (e.fn t) (fun x => xcase T.W e.xs x _) = some r from hr)
        obtain ⟨q, tt, hq⟩ := inj_ex (W := T.W) e.xs x
        rw [(xcase_inj hq).2] at hr
        have hu := packT_unpT h2
        obtain ⟨_, vs', g1, g2, g3⟩ := packVs_unp hT [] h1
        rw [List.append_nil, ← hu] at g1
        obtain ⟨p, rs, l, ios, e1, e2, e3, e4, e5, e6⟩ := hE e List.mem_cons_self δ t x vs' hx g1 q tt hq
        simp only [e1, e2, e3] at hr
        refine ⟨(rs, ios), ⟨_, _, ?_, VsR_map e4, VsR_map e5⟩, hr⟩
        rw [← hf, (VsR_eq ha).1, ← g3 δ]
        exact e6
      · exact rest S κ r hr
    · exact rest S κ r hr
end
end Go.Proofs.Vai

namespace Go.Proofs.Vai
open Go
set_option linter.unusedVariables false

section
variable {T : Tab} {R : Type} {G : Gd (AP T)} {δ : Dl}
theorem runG_ret {α : Type} (l : Option (List Nat × List Nat)) (a : α) (W : St) : (Pg.ret a).runG l W = some (a, W) := by cases l <;> rfl
theorem set_self? {α : Type} : ∀ {l : List α} {n : Nat} {a : α}, l[n]? = some a → l.set n a = l
  | [], n, a, h => by simp at h
  | b :: l, 0, a, h => by simp at h; subst h; simp
  | b :: l, n + 1, a, h => by simp at h; simp [set_self? h]
/-- A look at a condition, and what is known behind it. -/
theorem getD_keep {c : X} {S : SS (AP T)} {W : St} {κ : DD (AP T) → SS (AP T) → Option R} {r : R} (hS : RS δ G.t S W) (h : getD' G c S κ = some r) :
    ∃ d, (Go.Proofs.Vai.getD c).runG G.l W = some (dn T δ d, W) ∧ κ d S = some r ∧ ∀ (v : Bool) (n : Nat), c = .t n → d = .b v → ∀ {R' : Type} (κ' : Unit → SS (AP T) → Option R') (r' : R'), knowS (A := AP T) n v S κ' = some r' → ∃ S', RS δ G.t S' W ∧ κ' () S' = some r' := by
  cases c with
  | c v =>
    unfold getD' getV' Go.Proofs.Vai.bd ofO at h
    simp only at h
    cases hc : cstV (A := AP T) v with
    | none => rw [hc] at h; cases h
    | some y =>
      rw [hc] at h
      obtain ⟨h1, h2⟩ := cstV_ok (δ := δ) hc
      cases y with
      | leaf d =>
        refine ⟨d, ?_, h, fun v n hn => by cases hn⟩
        rw [h2]
        exact runG_ret _ _ _
      | _ => cases h
  | t n =>
    unfold getD' getV' Go.Proofs.Vai.bd rdS at h
    simp only at h
    split at h
    · rename_i hg
      split at h
      · rename_i s hs
        obtain ⟨w, hw⟩ : ∃ w, W[n]? = some w := ⟨W[n]'(by rw [← hS.1]; exact (List.getElem?_eq_some_iff.1 hs).1), List.getElem?_eq_getElem _⟩
        have hr := hS.2.1 n s w hs hw
        cases hv : dupV' (A := AP T) n (s.look G.t) (s.look G.t).c with
        | none => unfold Sx.look at hv; simp only at hv; rw [hv] at h; cases h
        | some v =>
          have hv0 := hv
          unfold Sx.look at hv0; simp only at hv0; rw [hv0] at h
          obtain ⟨h1, h2⟩ := dupV_dn hr hv
          cases v with
          | leaf d =>
            refine ⟨d, ?_, h, ?_⟩
            · unfold Pg.runG
              unfold Gd.r at hg
              split
              · simp only [Go.Proofs.Vai.getD, Go.Proofs.Vai.getV, Pg.bind, Pg.run, hw, h2, dv, V.one]
              · rename_i q hl
                rw [hl] at hg
                simp only [Go.Proofs.Vai.getD, Go.Proofs.Vai.getV, Pg.bind, Pg.runIn, hw]
                rw [if_pos hg]
                simp only [h2, dv, V.one, Pg.runIn]
            · intro v n' hn hd R' κ' r' hk
              obtain rfl : n = n' := by injection hn
              subst hd
              unfold knowS at hk
              rw [hs] at hk
              simp only at hk
              split at hk
              · rename_i x hx
                refine ⟨_, ?_, hk⟩
                have hlook : lookR G.t s.c = .leaf (.b x) := by rw [hx]; rfl
                have hvx : x = v := by
                  simp only [Sx.look, hlook] at hv
                  simp only [dupV', Option.some.injEq, VV.leaf.injEq] at hv
                  unfold dupD' at hv
                  simp only [DD.own, Bool.false_eq_true, if_false, DD.b.injEq] at hv
                  exact hv
                have := hS.set (k := n) (s := ⟨.leaf (.bk v), s.e, s.h, s.x⟩) (w := w) ⟨hr.1, hr.2.1, hr.2.2.1, fun _ => by
                  have h3 := hr.2.2.2 (by simp only [Sx.look, hlook]; trivial)
                  rw [h3]
                  simp only [Sx.look, hx, lookR, dv, dn, hvx]⟩ (fun i hi => by cases hi)
                rw [show W.set n w = W from set_self? hw] at this
                exact this
              · exact ⟨_, hS, hk⟩
          | _ => cases h
      · cases h
    · cases h
/-- A decision. -/
theorem Snd.branch {α β : Type} {c : X} {mt mf : MM (AP T) R α} {n : Nat} {pt pf : Pg β} {K : D → Pg β} {rel : α → β → Prop} (hKt : K (.b true) = pt) (hKf : K (.b false) = pf) (ht : Snd G δ mt pt rel) (hf : Snd G δ mf pf rel) :
    Snd G δ (bd (getD' G c) (decB c n mt mf)) ((Go.Proofs.Vai.getD c).bind K) rel := fun S W κ r hS hr => by
  obtain ⟨d, h1, h2, h3⟩ := getD_keep hS hr
  rw [Pg.runG_bind, h1]
  cases d with
  | bk t =>
    cases t with
    | true => simp only [dn]; rw [hKt]; exact ht S W κ r hS h2
    | false => simp only [dn]; rw [hKf]; exact hf S W κ r hS h2
  | b t =>
    simp only [dn]
    have h2' : (bif (show Bool from t) then (bd (knowX c true) fun _ => mt) S κ else (bd (knowX c false) fun _ => mf) S κ) = some r := h2
    cases t with
    | true =>
      simp only [cond_true] at h2'
      rw [hKt]
      cases c with
      | c v => exact ht S W κ r hS h2'
      | t n =>
        obtain ⟨S', q1, q2⟩ := h3 true n rfl rfl _ _ (show knowS (A := AP T) n true S (fun _ S' => mt S' κ) = some r from h2')
        exact ht S' W κ r q1 q2
    | false =>
      simp only [cond_false] at h2'
      rw [hKf]
      cases c with
      | c v => exact hf S W κ r hS h2'
      | t n =>
        obtain ⟨S', q1, q2⟩ := h3 false n rfl rfl _ _ (show knowS (A := AP T) n false S (fun _ S' => mf S' κ) = some r from h2')
        exact hf S' W κ r q1 q2
  | _ => cases h2
theorem Snd.store (hT : TabOK T) {m : Nat} {a x : X} {dst : Option Nat} {E : CallF} {vs : List Nat} : Snd (R := R) G δ (bd (takeV' G x) fun v => bd (getD' G a) fun d => if v.okc && v.data.length == m && v.data.all DD.firm then bd (storeP' G v.data d) fun _ => putO' G dst (.leaf .und) else no 111) (stepO E dst vs (.store m a x)) (fun _ _ => True) := by
  simp only [stepO]
  refine Snd.bnd (Snd.takeV hT) fun v v' h => Snd.bnd Snd.getD fun d d' hd => ?_
  obtain ⟨hre, rfl⟩ := h
  rw [hd, data_dv' _ hre]
  refine Snd.iff_ (fun h => ?_) fun _ => Snd.bnd (Snd.storeP hT) fun _ _ _ => ?_
  · simp only [Bool.and_eq_true, beq_iff_eq] at h ⊢
    refine ⟨⟨okc_dv _ h.1.1, by rw [List.length_map]; exact h.1.2⟩, ?_⟩
    rw [all_firm_dn]; exact h.2
  · exact Snd.putO ⟨trivial, by simp [dv, dn]⟩
theorem fwdD_dn {n : Nat} {s : Sx (AP T)} {r : Sl} (hr : RSl δ n s r) (j : Nat) (d : DD (AP T)) : fwdD n r j (dn T δ d) = dn T δ (fwdD' n s j d) := by
  have e : r.h = s.h + δ.ver n (Option.isSome (none : Option (Int × Nat))) := hr.2.1
  cases d with
  | sl ow b fg x => cases ow <;> simp [dn, fwdD, fwdD', stN, e]
  | nl ow w => cases ow <;> simp [dn, fwdD, fwdD', stN, e]
  | _ => simp [dn, fwdD, fwdD']
theorem fwdL_dn {n : Nat} {s : Sx (AP T)} {r : Sl} (hr : RSl δ n s r) : ∀ (j : Nat) (ds : List (DD (AP T))), fwdL n r j (ds.map (dn T δ)) = (fwdL' n s j ds).map (dn T δ)
  | j, [] => rfl
  | j, d :: ds => by simp only [List.map_cons, fwdL, fwdL']; rw [fwdD_dn hr, fwdL_dn hr]
theorem Snd.box (hT : TabOK T) {x : X} {dst : Option Nat} {E : CallF} {E' : List (Ent (AP T))} {vs : List Nat} {b : Nat} : Snd (R := R) G δ (stepO' G E' dst vs b (.box x)) (stepO E dst vs (.box x)) (fun _ _ => True) := by
  simp only [stepO', stepO]
  cases dst with
  | none => exact Snd.nno
  | some k =>
    simp only
    cases x with
    | c v =>
      simp only
      refine Snd.ofOpt fun y hy => ?_
      obtain ⟨h1, rfl⟩ := cstV_ok (δ := δ) hy
      rw [data_dv' _ h1]
      exact Snd.iff_ (fun h => okc_dv _ h) fun _ => Snd.putS ⟨trivial, rfl⟩
    | t n =>
      simp only
      refine Snd.rd fun s r hr => ?_
      by_cases hk : k = n
      · rw [if_pos hk]; exact Snd.nno
      · rw [if_neg hk, if_neg hk]
        refine Snd.bnd (Snd.takeV hT) fun v v' h => ?_
        obtain ⟨hre, rfl⟩ := h
        rw [data_dv' _ hre]
        refine Snd.iff_ (fun h => okc_dv _ h) fun _ => ?_
        refine Snd.bnd (Snd.putS ⟨trivial, rfl⟩) fun _ _ _ => ?_
        refine Snd.rd fun s' r' hr' => Snd.rd fun s2 r2 hr2 => ?_
        split
        · rename_i d hc
          rw [hr.leaf hc]
          exact Snd.wrV' trivial (hr2.up2 fun _ => by simp only [dv]; rw [fwdD_dn hr']) trivial
        · rename_i ds hc
          rw [hr.agg hc]
          exact Snd.wrV' trivial (hr2.up2 fun _ => by simp only [dv]; rw [fwdL_dn hr']) trivial
        · rename_i ds hc
          rw [hr.box hc]
          exact Snd.wrV' trivial (hr2.up2 fun _ => by simp only [dv, dn]) trivial
        · exact Snd.nno
theorem Snd.lit (hT : TabOK T) {w n : Nat} {zr : List D} {ps : List (Nat × X)} {dst : Option Nat} {E : CallF} {E' : List (Ent (AP T))} {vs : List Nat} {b : Nat} : Snd (R := R) G δ (stepO' G E' dst vs b (.lit w zr n ps)) (stepO E dst vs (.lit w zr n ps)) (fun _ _ => True) := by
  simp only [stepO', stepO]
  refine Snd.ofOpt fun zs hz => ?_
  have hz' := cstDs_ok (δ := δ) hz
  have hl : zs.length = zr.length := by rw [← hz', List.length_map]
  have hrep : List.replicate n zr = (List.replicate n zs).map fun r => r.map (dn T δ) := by rw [List.map_replicate, hz']
  rw [hrep]
  refine Snd.bnd (Snd.fillRows hT hl) fun rows rows' h => ?_
  subst h
  split
  · exact Snd.putO ⟨trivial, by simp [dv, dn]⟩
  · rename_i r0 rs
    refine Snd.iffL fun hw => Snd.ofOpt fun ys hy => Snd.putO ⟨trivial, ?_⟩
    simp only [dv, dn]
    rw [← hw, joinAll_enc hT (δ := δ) hy]
theorem Snd.eqs {ne : Bool} {ks : List Nat} {x y : X} {dst : Option Nat} {E : CallF} {E' : List (Ent (AP T))} {vs : List Nat} {b : Nat} : Snd (R := R) G δ (stepO' G E' dst vs b (.eqs ne ks x y)) (stepO E dst vs (.eqs ne ks x y)) (fun _ _ => True) := by
  simp only [stepO', stepO]
  refine Snd.bnd Snd.getV fun a a' ha => Snd.bnd Snd.getV fun c c' hc => ?_
  obtain ⟨ra, rfl⟩ := ha
  obtain ⟨rc, rfl⟩ := hc
  have kd : ∀ ds : List (DD (AP T)), (ds.map (dn T δ)).map kindD = ds.map kindD' := fun ds => by
    rw [List.map_map]; apply List.map_congr_left; intro d _; exact kindD_dn d
  rw [data_dv' _ ra, data_dv' _ rc, kd, kd]
  refine Snd.iff_ (fun h => h) fun _ => ?_
  split
  · rename_i a c
    refine Snd.ofOpt fun t ht => ?_
    refine Snd.ofOptR (b := t) (by simp only [dv, eqV]; exact eqCells_ok ht) ?_
    refine Snd.putO ⟨trivial, ?_⟩
    cases ne <;> rfl
  · exact Snd.nno
theorem Snd.eqc {ne : Bool} {k : Nat} {x y : X} {dst : Option Nat} {E : CallF} {E' : List (Ent (AP T))} {vs : List Nat} {b : Nat} : Snd (R := R) G δ (stepO' G E' dst vs b (.eqc ne k x y)) (stepO E dst vs (.eqc ne k x y)) (fun _ _ => True) := by
  simp only [stepO', stepO]
  refine Snd.bnd Snd.getD fun a a' ha => Snd.bnd Snd.getD fun c c' hc => ?_
  rw [ha, hc]
  refine Snd.bnd Snd.live fun _ _ _ => Snd.bnd Snd.live fun _ _ _ => ?_
  refine Snd.ofOpt fun d hd => ?_
  obtain ⟨t, h1, h2⟩ := eqP_ok (δ := δ) hd
  refine Snd.ofOpt fun d2 hd2 => Snd.ofOptR h1 (Snd.putO ⟨trivial, ?_⟩)
  cases ne with
  | true => simp only [if_true] at hd2; simp only [dv]; rw [notD_ok hd2 h2]; rfl
  | false => simp only [Bool.false_eq_true, if_false, Option.some.injEq] at hd2; subst hd2; simp only [dv]; rw [h2]; rfl
theorem rows_firm (hT : TabOK T) (b : Nat) (fg : Fg) (x : List (T.W b)) : ((x.map (encW T b fg)).all fun r => r.all firm) = true := by
  rw [List.all_map, List.all_eq_true]
  intro y _
  exact encW_firm hT b fg y
theorem rows_view (hT : TabOK T) (b : Nat) (fg : Fg) (x : List (T.W b)) (h : fg = .v ∨ hasSl (AP T) b = false) : ((x.map (encW T b fg)).all fun r => r.all fun d => !own d && firm d) = true := by
  rw [List.all_map, List.all_eq_true]
  intro y _
  simp only [Function.comp]
  have h1 := encW_firm hT b fg y
  have h2 := encW_view hT b fg y h
  rw [List.all_eq_true] at h1 h2 ⊢
  intro d hd
  rw [Bool.and_eq_true]
  exact ⟨h2 d hd, h1 d hd⟩
theorem toL_some {b b2 : Nat} {y : List (T.W b2)} {y' : List (T.W b)} (h : Lf.toL (AP T) b (.l b2 y) = some y') : ∃ e : b2 = b, e ▸ y = y' := by
  unfold Lf.toL at h
  simp only at h
  split at h
  · rename_i e; exact ⟨e, Option.some.inj h⟩
  · cases h
theorem fit_len {b : Nat} {x y : List (T.W b)} (h : (AP T).fit b x y = true) : x.length + y.length ≤ LIM := of_decide_eq_true h
theorem Snd.app (hT : TabOK T) {w : Nat} {s x : X} {dst : Option Nat} {E : CallF} {E' : List (Ent (AP T))} {vs : List Nat} {b : Nat} : Snd (R := R) G δ (stepO' G E' dst vs b (.app w s x)) (stepO E dst vs (.app w s x)) (fun _ _ => True) := by
  simp only [stepO', stepO]
  refine Snd.bnd (Snd.takeV hT) fun v v' hv => ?_
  obtain ⟨hre, rfl⟩ := hv
  split
  · rename_i b' fg z
    simp only [dv, dn]
    refine Snd.iff_ (fun h => h.symm) fun hw => ?_
    unfold app1
    split
    · exact Snd.putO ⟨trivial, by simp only [dv, dn]; rw [hw]⟩
    · exact Snd.nno
    · rename_i n
      refine Snd.rd fun sx r hr => ?_
      split
      · rename_i b2 fg2 y hc
        rw [hr.leaf hc]
        simp only [dn]
        refine Snd.iffL fun hfg => Snd.ofOpt fun y' hy => Snd.pur Pur.mustt fun _ hf => ?_
        obtain ⟨rfl, rfl⟩ := toL_some hy
        subst hfg
        have hf := fit_len hf
        rw [if_pos ⟨hw.symm, by simpa using hf, rows_firm hT _ _ _⟩]
        refine Snd.wrV trivial (hr.up0 fun _ => by simp only [dv, dn]) (Snd.pur Pur.letL fun z' hz => Snd.putO ⟨trivial, ?_⟩)
        rw [hz]; simp only [dv, dn]; rw [hw, List.map_append]
      · rename_i w2 hc
        rw [hr.leaf hc]
        simp only [dn]
        refine Snd.iffL fun hw2 => Snd.pur Pur.mustt fun _ hf => ?_
        have hf := fit_len hf
        rw [if_pos ⟨by rw [hw2, hw], by simpa using hf, rfl⟩]
        refine Snd.wrV trivial (hr.up0 fun _ => by simp only [dv, dn]) (Snd.putO ⟨trivial, ?_⟩)
        simp only [dv, dn]; rw [hw, List.append_nil]
      · rename_i d h1 h2 hc
        rw [hr.leaf hc]
        have hd : ∀ (d' : D), DR δ d d' → Snd (R := R) G δ (deref' G d) (Go.Proofs.Vai.deref d') (DR δ) := fun d' h => by rw [h]; exact Snd.deref hT
        cases d
        case sl ow b2 fg2 y =>
          cases ow
          · skip
            simp only [dn]
            refine Snd.bnd (hd _ (by simp only [DR, dn])) fun q q' hq => ?_
            rw [hq]
            unfold app1d
            split
            · rename_i b2 fg2 y
              simp only [dn]
              refine Snd.iffL fun hfg => Snd.ofOpt fun y' hy => Snd.pur Pur.mustt fun _ hf => ?_
              obtain ⟨rfl, rfl⟩ := toL_some hy
              obtain ⟨rfl, hv⟩ := hfg
              have hf := fit_len hf
              rw [if_pos ⟨hw.symm, by simpa using hf, rows_view hT _ _ _ hv⟩]
              refine Snd.pur Pur.letL fun z' hz => Snd.putO ⟨trivial, ?_⟩
              rw [hz]; simp only [dv, dn]; rw [hw, List.map_append]
            · rename_i w2
              simp only [dn]
              refine Snd.iffL fun hw2 => Snd.pur Pur.mustt fun _ hf => ?_
              have hf := fit_len hf
              rw [if_pos ⟨by rw [hw2, hw], by simpa using hf, rfl⟩]
              refine Snd.putO ⟨trivial, ?_⟩
              simp only [dv, dn]; rw [hw, List.append_nil]
            · exact Snd.nno
          · exact absurd rfl (h1 b2 fg2 y)
        case nl ow w2 =>
          cases ow
          · skip
            simp only [dn]
            refine Snd.bnd (hd _ (by simp only [DR, dn])) fun q q' hq => ?_
            rw [hq]
            unfold app1d
            split
            · rename_i b2 fg2 y
              simp only [dn]
              refine Snd.iffL fun hfg => Snd.ofOpt fun y' hy => Snd.pur Pur.mustt fun _ hf => ?_
              obtain ⟨rfl, rfl⟩ := toL_some hy
              obtain ⟨rfl, hv⟩ := hfg
              have hf := fit_len hf
              rw [if_pos ⟨hw.symm, by simpa using hf, rows_view hT _ _ _ hv⟩]
              refine Snd.pur Pur.letL fun z' hz => Snd.putO ⟨trivial, ?_⟩
              rw [hz]; simp only [dv, dn]; rw [hw, List.map_append]
            · rename_i w2
              simp only [dn]
              refine Snd.iffL fun hw2 => Snd.pur Pur.mustt fun _ hf => ?_
              have hf := fit_len hf
              rw [if_pos ⟨by rw [hw2, hw], by simpa using hf, rfl⟩]
              refine Snd.putO ⟨trivial, ?_⟩
              simp only [dv, dn]; rw [hw, List.append_nil]
            · exact Snd.nno
          · exact absurd rfl (h2 w2)
        all_goals
          simp only [dn]
          refine Snd.bnd (hd _ (by simp only [DR, dn])) fun q q' hq => ?_
          rw [hq]
          unfold app1d
          split
          · rename_i b2 fg2 y
            simp only [dn]
            refine Snd.iffL fun hfg => Snd.ofOpt fun y' hy => Snd.pur Pur.mustt fun _ hf => ?_
            obtain ⟨rfl, rfl⟩ := toL_some hy
            obtain ⟨rfl, hv⟩ := hfg
            have hf := fit_len hf
            rw [if_pos ⟨hw.symm, by simpa using hf, rows_view hT _ _ _ hv⟩]
            refine Snd.pur Pur.letL fun z' hz => Snd.putO ⟨trivial, ?_⟩
            rw [hz]; simp only [dv, dn]; rw [hw, List.map_append]
          · rename_i w2
            simp only [dn]
            refine Snd.iffL fun hw2 => Snd.pur Pur.mustt fun _ hf => ?_
            have hf := fit_len hf
            rw [if_pos ⟨by rw [hw2, hw], by simpa using hf, rfl⟩]
            refine Snd.putO ⟨trivial, ?_⟩
            simp only [dv, dn]; rw [hw, List.append_nil]
          · exact Snd.nno
      · exact Snd.nno
  · rename_i w'
    simp only [dv, dn]
    refine Snd.iff_ (fun h => h.symm) fun hw => ?_
    subst hw
    unfold app2
    split
    · exact Snd.putO ⟨trivial, by simp only [dv, dn]⟩
    · exact Snd.nno
    · rename_i n
      refine Snd.rd fun sx r hr => ?_
      split
      · rename_i b2 fg2 y hc
        rw [hr.leaf hc]
        simp only [dn]
        refine Snd.iffL fun hw2 => Snd.pur Pur.mustt fun _ hf => ?_
        have hf := fit_len hf
        rw [if_pos ⟨hw2.symm, by simpa using hf, rows_firm hT _ _ _⟩]
        refine Snd.wrV trivial (hr.up0 fun _ => by simp only [dv, dn]) (Snd.putO ⟨trivial, ?_⟩)
        simp only [dv, dn]; rw [hw2, List.nil_append]
      · rename_i w2 hc
        rw [hr.leaf hc]
        simp only [dn]
        refine Snd.iffL fun hw2 => ?_
        rw [if_pos ⟨hw2.symm, by simp [LIM], rfl⟩]
        refine Snd.wrV trivial (hr.up0 fun _ => by simp only [dv, dn]) (Snd.putO ⟨trivial, ?_⟩)
        simp only [dv, dn, List.nil_append]
      · rename_i d h1 h2 hc
        rw [hr.leaf hc]
        have hd : ∀ (d' : D), DR δ d d' → Snd (R := R) G δ (deref' G d) (Go.Proofs.Vai.deref d') (DR δ) := fun d' h => by rw [h]; exact Snd.deref hT
        cases d
        case sl ow b2 fg2 y =>
          cases ow
          · skip
            simp only [dn]
            refine Snd.bnd (hd _ (by simp only [DR, dn])) fun q q' hq => ?_
            rw [hq]
            unfold app2d
            split
            · rename_i b2 fg2 y
              simp only [dn]
              refine Snd.iffL fun hw2 => Snd.pur Pur.mustt fun _ hf => ?_
              have hf := fit_len hf
              rw [if_pos ⟨hw2.1.symm, by simpa using hf, rows_view hT _ _ _ hw2.2⟩]
              refine Snd.putO ⟨trivial, ?_⟩
              simp only [dv, dn]; rw [hw2.1, List.nil_append]
            · rename_i w2
              simp only [dn]
              refine Snd.iffL fun hw2 => ?_
              rw [if_pos ⟨hw2.symm, by simp [LIM], rfl⟩]
              exact Snd.putO ⟨trivial, by simp only [dv, dn, List.nil_append]⟩
            · exact Snd.nno
          · exact absurd rfl (h1 b2 fg2 y)
        case nl ow w2 =>
          cases ow
          · skip
            simp only [dn]
            refine Snd.bnd (hd _ (by simp only [DR, dn])) fun q q' hq => ?_
            rw [hq]
            unfold app2d
            split
            · rename_i b2 fg2 y
              simp only [dn]
              refine Snd.iffL fun hw2 => Snd.pur Pur.mustt fun _ hf => ?_
              have hf := fit_len hf
              rw [if_pos ⟨hw2.1.symm, by simpa using hf, rows_view hT _ _ _ hw2.2⟩]
              refine Snd.putO ⟨trivial, ?_⟩
              simp only [dv, dn]; rw [hw2.1, List.nil_append]
            · rename_i w2
              simp only [dn]
              refine Snd.iffL fun hw2 => ?_
              rw [if_pos ⟨hw2.symm, by simp [LIM], rfl⟩]
              exact Snd.putO ⟨trivial, by simp only [dv, dn, List.nil_append]⟩
            · exact Snd.nno
          · exact absurd rfl (h2 w2)
        all_goals
          simp only [dn]
          refine Snd.bnd (hd _ (by simp only [DR, dn])) fun q q' hq => ?_
          rw [hq]
          unfold app2d
          split
          · rename_i b2 fg2 y
            simp only [dn]
            refine Snd.iffL fun hw2 => Snd.pur Pur.mustt fun _ hf => ?_
            have hf := fit_len hf
            rw [if_pos ⟨hw2.1.symm, by simpa using hf, rows_view hT _ _ _ hw2.2⟩]
            refine Snd.putO ⟨trivial, ?_⟩
            simp only [dv, dn]; rw [hw2.1, List.nil_append]
          · rename_i w2
            simp only [dn]
            refine Snd.iffL fun hw2 => ?_
            rw [if_pos ⟨hw2.symm, by simp [LIM], rfl⟩]
            exact Snd.putO ⟨trivial, by simp only [dv, dn, List.nil_append]⟩
          · exact Snd.nno
      · exact Snd.nno
  · exact Snd.nno
end
end Go.Proofs.Vai

namespace Go.Proofs.Vai
open Go
set_option linter.unusedVariables false

section
variable {T : Tab} {R : Type} {G : Gd (AP T)} {δ : Dl}
/-! ### Maps -/
theorem find_ok {k : IntKind} {v : PK} {x : Int} : ∀ (m : List (Int × v.ty)), findD (m.map fun p => (D.i k p.1, pkD v p.2)) (.i k x) = some ((m.lookup x).map (pkD v))
  | [] => rfl
  | (a, b) :: m => by
    simp only [List.map_cons, findD, eqD, if_true]
    by_cases h : x = a
    · subst h; simp [List.lookup]
    · have : (x == a) = false := by simp [h]
      simp only [this, List.lookup]
      exact find_ok m
theorem set_ok {k : IntKind} {v : PK} {x : Int} {y : v.ty} : ∀ (m : List (Int × v.ty)), setE (m.map fun p => (D.i k p.1, pkD v p.2)) (.i k x) (pkD v y) = some ((mset m x y).map fun p => (D.i k p.1, pkD v p.2))
  | [] => rfl
  | (a, b) :: m => by
    simp only [List.map_cons, setE, eqD, if_true, mset]
    by_cases h : x = a
    · subst h; simp
    · have : (x == a) = false := by simp [h]
      simp only [this, if_neg h, set_ok m, Option.map_some, List.map_cons]
theorem prim_ok {d : DD (AP T)} {v : PK} {l : T.Lf} (h : d.prim = some (v, l)) : ∃ x : v.ty, pkLf T v l = some x ∧ dn T δ d = pkD v x := by
  cases d with
  | i k x => simp only [DD.prim, Option.some.injEq, Prod.mk.injEq] at h; obtain ⟨rfl, rfl⟩ := h; exact ⟨x, rfl, by simp only [dn, pkD]⟩
  | b x => simp only [DD.prim, Option.some.injEq, Prod.mk.injEq] at h; obtain ⟨rfl, rfl⟩ := h; exact ⟨x, rfl, by simp only [dn, pkD]⟩
  | bk x => simp only [DD.prim, Option.some.injEq, Prod.mk.injEq] at h; obtain ⟨rfl, rfl⟩ := h; exact ⟨x, rfl, by simp only [dn, pkD]⟩
  | s x => simp only [DD.prim, Option.some.injEq, Prod.mk.injEq] at h; obtain ⟨rfl, rfl⟩ := h; exact ⟨x, rfl, by simp only [dn, pkD]⟩
  | _ => simp [DD.prim] at h
theorem prim_i {d : DD (AP T)} {k : IntKind} {l : T.Lf} (h : d.prim = some (.i k, l)) : ∃ x : Int, l = .i x ∧ dn T δ d = .i k x := by
  cases d with
  | i k' x =>
    simp only [DD.prim, Option.some.injEq, Prod.mk.injEq, PK.i.injEq] at h
    obtain ⟨rfl, rfl⟩ := h
    exact ⟨x, rfl, by simp only [dn]⟩
  | _ => simp [DD.prim] at h
theorem mp_dn {k : IntKind} {v : PK} (mm : List (Int × v.ty)) : dn T δ (.mp (.i k) v mm) = .mp (mm.map fun p => (D.i k p.1, pkD v p.2)) := by
  simp only [dn]; rfl
theorem ofPrim_ok {v : PK} {x : v.ty} {r : DD (AP T)} (h : DD.ofPrim v (lfPk T v x) = some r) : dn T δ r = pkD v x := by
  cases v with
  | i k => simp only [lfPk, DD.ofPrim, Option.some.injEq] at h; subst h; simp only [dn, pkD]
  | b => simp only [lfPk, DD.ofPrim, Option.some.injEq] at h; subst h; simp only [dn, pkD]
  | s => simp only [lfPk, DD.ofPrim, Option.some.injEq] at h; subst h; simp only [dn, pkD]
theorem Snd.look (hT : TabOK T) {z : D} {okk : Bool} {x k : X} {dst : Option Nat} {E : CallF} {E' : List (Ent (AP T))} {vs : List Nat} {b : Nat} : Snd (R := R) G δ (stepO' G E' dst vs b (.look z okk x k)) (stepO E dst vs (.look z okk x k)) (fun _ _ => True) := by
  simp only [stepO', stepO]
  refine Snd.bnd (Snd.content hT) fun m m' hm => Snd.bnd Snd.getD fun kd kd' hk => ?_
  refine Snd.ofOpt fun zd hz => ?_
  have hz' := cstD_ok (δ := δ) hz
  rw [hm, hk]
  split
  · rename_i kk v mm k2 kl hkp
    split
    · rename_i v2 zl hzp
      refine Snd.iffL fun he => ?_
      obtain ⟨rfl, rfl⟩ := he
      refine Snd.ofOpt fun r hr => ?_
      obtain ⟨xk, e1, e2⟩ := prim_i (δ := δ) hkp
      obtain ⟨xz, e3, e4⟩ := prim_ok (δ := δ) hzp
      subst e1
      have hg : mgetP T (.i k2) v mm (.i xk) zl = lfPk T v (mget (show List (Int × v.ty) from mm) xk xz) := by unfold mgetP; rw [e3]; rfl
      have hr' : DD.ofPrim v (mgetP T (.i k2) v mm (.i xk) zl) = some r := hr
      rw [hg] at hr'
      have hd := ofPrim_ok (δ := δ) hr'
      rw [e2, mp_dn]
      have hisI : isI (D.i k2 xk) = true := rfl
      simp only
      rw [if_pos hisI, find_ok (v := v) mm]
      have hdn : dn T δ r = (((show List (Int × v.ty) from mm).lookup xk).map (pkD v)).getD z := by
        rw [hd, ← hz', e4]
        unfold mget
        cases (show List (Int × v.ty) from mm).lookup xk <;> rfl
      have hhas : mhasP T (.i k2) v mm (.i xk) = (((show List (Int × v.ty) from mm).lookup xk).map (pkD v)).isSome := by
        show ((show List (Int × v.ty) from mm).lookup xk).isSome = _
        cases (show List (Int × v.ty) from mm).lookup xk <;> rfl
      simp only
      split
      · exact Snd.putO ⟨trivial, by simp only [dv]; rw [hdn]⟩
      · refine Snd.putR ⟨⟨trivial, by simp only [dv]; rw [hdn]⟩, ⟨trivial, ?_⟩, trivial⟩
        simp only [dv, dn]
        rw [hhas]
      · exact Snd.nno
    · exact Snd.nno
  · rename_i k2 kl hkp
    obtain ⟨xk, e1, e2⟩ := prim_i (δ := δ) hkp
    rw [e2]
    simp only [dn]
    have hisI : isI (D.i k2 xk) = true := rfl
    rw [if_pos hisI]
    simp only [findD]
    split
    · exact Snd.putO ⟨trivial, by simp only [dv]; rw [hz']; rfl⟩
    · exact Snd.putR ⟨⟨trivial, by simp only [dv]; rw [hz']; rfl⟩, ⟨trivial, by simp only [dv, dn]; rfl⟩, trivial⟩
    · exact Snd.nno
  · exact Snd.nno
theorem Snd.mup (hT : TabOK T) {x k v : X} {dst : Option Nat} {E : CallF} {E' : List (Ent (AP T))} {vs : List Nat} {b : Nat} : Snd (R := R) G δ (stepO' G E' dst vs b (.mup x k v)) (stepO E dst vs (.mup x k v)) (fun _ _ => True) := by
  simp only [stepO', stepO]
  refine Snd.bnd Snd.getD fun a a' ha => Snd.bnd Snd.getD fun kd kd' hk => Snd.bnd Snd.getD fun vd vd' hv => ?_
  rw [ha, hk, hv]
  split
  · rename_i s j n
    simp only [dn, stN, Option.map_none]
    refine Snd.bnd (Snd.lookAl hT (st := none)) fun m m' hm => ?_
    rw [hm.1]
    split
    · rename_i k2 kl v2 vl hkp hvp
      obtain ⟨xk, e1, e2⟩ := prim_i (δ := δ) hkp
      subst e1
      obtain ⟨xv, e3, e4⟩ := prim_ok (δ := δ) hvp
      have hisI : isI (dn T δ kd) = true := by rw [e2]; rfl
      have hprim : isPrim (dn T δ vd) = true := by rw [e4]; cases v2 <;> rfl
      have hp : (isI (dn T δ kd) && isPrim (dn T δ vd)) = true := by rw [hisI, hprim]; rfl
      have wr : ∀ (mm : List (Int × v2.ty)), Snd (R := R) G δ (Go.Proofs.Vai.bd (rdS G s) fun sl => if sl.c.isR then Go.Proofs.Vai.bd (wrS G s (sl.up0 (setC sl.c j (.mp (.i k2) v2 (msetP T (.i k2) v2 mm (.i xk) vl))))) fun _ => putO' G dst (.leaf .und) else no 142)
          (.rd s fun sl => .wr s (sl.up0 (plSet sl.c j none (.mp ((mset mm xk xv).map fun p => (D.i k2 p.1, pkD v2 p.2))))) (Go.Proofs.Vai.putO dst (.leaf .und))) (fun _ _ => True) := fun mm => by
        refine Snd.rd fun sl r hr => Snd.iffL fun hc => ?_
        have hre := isR_real hc
        refine Snd.wrV ((setC_real _ _).2 hre) (hr.up0 fun _ => ?_) (Snd.putO ⟨trivial, by simp only [dv, dn]⟩)
        rw [hr.2.2.2 hre, (setC_none hre _ _).2]
        rw [mp_dn]
        unfold msetP
        rw [e3]
        rfl
      split
      · rename_i kk vv mm
        refine Snd.iffL fun he => ?_
        obtain ⟨rfl, rfl⟩ := he
        rw [mp_dn]
        simp only
        rw [if_pos hp]
        have hs : setE (List.map (fun p => (D.i k2 p.1, pkD vv p.2)) mm) (dn T δ kd) (dn T δ vd) = some ((mset mm xk xv).map fun p => (D.i k2 p.1, pkD vv p.2)) := by rw [e2, e4]; exact set_ok mm
        rw [hs]
        exact wr mm
      · simp only [dn]
        rw [if_pos hp]
        have hs : setE [] (dn T δ kd) (dn T δ vd) = some ((mset ([] : List (Int × v2.ty)) xk xv).map fun p => (D.i k2 p.1, pkD v2 p.2)) := by rw [e2, e4]; rfl
        rw [hs]
        exact wr []
      · exact Snd.nno
    · exact Snd.nno
  · exact Snd.nno
/-! ### Calls -/
theorem Snd.callP0 (hT : TabOK T) {Er : CallF} {E : List (Ent (AP T))} (hE : ∀ e ∈ E, EntOK T Er e) {dst : Option Nat} {vs : List Nat} {f : Nat} {xs : List X} : Snd (R := R) G δ (callP' G E dst vs f none xs) (callP Er dst vs f none xs) (fun _ _ => True) := by
  unfold callP' callP
  simp only
  refine Snd.bnd (Snd.viewVs hT (fun h => by simp at h)) fun p p' hp => ?_
  obtain ⟨p1, p2⟩ := p'
  obtain ⟨h1, h2⟩ := hp
  simp only at h1 h2
  subst h2
  refine Snd.pur (Pur.callE hT hE h1) fun r ⟨rs', ios', e1, e2, e3⟩ => ?_
  simp only [e1]
  obtain ⟨rs, ios⟩ := r
  cases ios with
  | nil =>
    cases ios' with
    | nil =>
      simp only
      refine Snd.iff_ (fun h => ?_) fun _ => Snd.putR e2
      simp only [Bool.or_eq_true] at h ⊢
      exact h.imp_right fun h => VsR.owned hT e2 h
    | cons => exact e3.elim
  | cons => exact Snd.nno
theorem Snd.callv (hT : TabOK T) {Er : CallF} {E : List (Ent (AP T))} (hE : ∀ e ∈ E, EntOK T Er e) {dst : Option Nat} {vs : List Nat} {b : Nat} {x : X} {xs : List X} : Snd (R := R) G δ (stepO' G E dst vs b (.callv x xs)) (stepO Er dst vs (.callv x xs)) (fun _ _ => True) := by
  simp only [stepO', stepO]
  refine Snd.bnd Snd.getD fun d d' hd => ?_
  rw [hd]
  refine Snd.bnd (Snd.viewD hT) fun p p' hp => ?_
  rw [hp]
  obtain ⟨p1, p2⟩ := p
  simp only
  split
  · rename_i f caps
    simp only [dn, dns_map]
    refine Snd.bnd (Snd.viewVs hT (fun h => by simp at h)) fun q q' hq => ?_
    obtain ⟨q1, q2⟩ := q'
    obtain ⟨h1, h2⟩ := hq
    simp only at h1 h2
    subst h2
    have happ : ∀ {as : List (VV (AP T))} {as' : List V}, VsR δ as as' → VsR δ (as ++ caps.map VV.leaf) (as' ++ (caps.map (dn T δ)).map V.leaf) := fun {as as'} h => by
      obtain ⟨e1, e2⟩ := VsR_eq h
      rw [e1, List.map_map]
      have := VsR_map (δ := δ) (vs := as ++ caps.map VV.leaf) (fun v hv => (List.mem_append.1 hv).elim (e2 v) fun h => by
        obtain ⟨d, _, rfl⟩ := List.mem_map.1 h; trivial)
      rw [List.map_append, List.map_map] at this
      exact this
    refine Snd.pur (Pur.callE hT hE (happ h1)) fun r ⟨rs', ios', e1, e2, e3⟩ => ?_
    simp only [e1]
    obtain ⟨rs, ios⟩ := r
    cases ios with
    | nil =>
      cases ios' with
      | nil =>
        simp only
        refine Snd.iff_ (fun h => ?_) fun _ => Snd.putR e2
        simp only [Bool.or_eq_true] at h ⊢
        exact h.imp_right fun h => VsR.owned hT e2 h
      | cons => exact e3.elim
    | cons => exact Snd.nno
  · exact Snd.nno
/-! ### Every operation -/
theorem stepO_snd (hT : TabOK T) {Er : CallF} {E : List (Ent (AP T))} (hE : ∀ e ∈ E, EntOK T Er e) {dst : Option Nat} {vs : List Nat} {b : Nat} : ∀ (o : O), Snd (R := R) G δ (stepO' G E dst vs b o) (stepO Er dst vs o) (fun _ _ => True)
  | .bad => Snd.nno
  | .mv x => by simp only [stepO', stepO]; exact Snd.bnd Snd.getV fun a a' h => Snd.putO h
  | .mvt ks => by
    simp only [stepO', stepO]
    exact Snd.bnd (Snd.takeVs hT) fun a a' h => Snd.iff_ (fun hs => VsR.solid h hs) fun _ => Snd.putR h
  | .asg x => by simp only [stepO', stepO]; exact Snd.bnd Snd.moveV fun a a' h => Snd.putO h
  | .pick c x y => by
    simp only [stepO', stepO]
    exact Snd.branch rfl rfl (Snd.bnd Snd.getV fun a a' h => Snd.putO h) (Snd.bnd Snd.getV fun a a' h => Snd.putO h)
  | .alloc z => by
    simp only [stepO', stepO]
    exact Snd.ofOpt fun ds hd => Snd.putO ⟨trivial, by simp only [dv]; rw [cstDs_ok hd]⟩
  | .box x => Snd.box hT
  | .build z ps => by
    simp only [stepO', stepO]
    refine Snd.ofOpt fun zs hz => ?_
    rw [← cstDs_ok (δ := δ) hz]
    exact Snd.bnd (Snd.fills hT) fun ds ds' h => Snd.putO (VR.agg h)
  | .lit w zr n ps => Snd.lit hT
  | .load ag m x => by
    simp only [stepO', stepO]
    refine Snd.bnd Snd.getD fun d d' h => ?_
    rw [h]
    exact Snd.bnd (Snd.loadP hT) fun v v' h => Snd.putO h
  | .store m a x => by simp only [stepO']; exact Snd.store hT
  | .nilck x => by
    simp only [stepO', stepO]
    refine Snd.bnd Snd.getD fun d d' h => ?_
    rw [h]
    exact Snd.iff_ (fun h => by rw [isPtr_dn]; exact h) fun _ => Snd.bnd Snd.live fun _ _ _ => Snd.putL
  | .bin op x y => by
    simp only [stepO', stepO]
    refine Snd.bnd Snd.getD fun a a' ha => Snd.bnd Snd.getD fun c c' hc => ?_
    rw [ha, hc]
    exact Snd.pur (Pur.bin (δ := δ)) fun d hd => Snd.ofOptR hd Snd.putL
  | .eqc ne k x y => Snd.eqc
  | .eqs ne ks x y => Snd.eqs
  | .un op x => by
    simp only [stepO', stepO]
    refine Snd.bnd Snd.getD fun a a' ha => ?_
    rw [ha]
    exact Snd.pur (Pur.un (δ := δ)) fun d hd => Snd.ofOptR hd Snd.putL
  | .conv k x => by
    simp only [stepO', stepO]
    refine Snd.bnd Snd.getD fun a a' ha => ?_
    rw [ha]
    split
    · simp only [dn]
      exact Snd.pur Pur.letI fun z hz => Snd.putO ⟨trivial, by rw [hz]; simp only [dv, dn]⟩
    · exact Snd.nno
  | .mkfn f caps => by
    simp only [stepO', stepO]
    refine Snd.bnd Snd.getDs fun ds ds' h => ?_
    rw [h]
    refine Snd.iff_ (fun h => ?_) fun _ => Snd.putO ⟨trivial, by simp only [dv, dn, dns_map]⟩
    rw [List.all_map, List.all_eq_true]
    rw [List.all_eq_true] at h
    intro d hd
    have := h d hd
    cases d <;> simp [DD.isFn] at this <;> simp [dn]
  | .mkmap => by simp only [stepO', stepO]; exact Snd.putO ⟨trivial, by simp only [dv, dn]⟩
  | .mksl w zr n => by
    simp only [stepO', stepO]
    refine Snd.bnd Snd.getD fun d d' h => ?_
    rw [h]
    split
    · rename_i k i
      simp only [dn, D.int, Pg.bind]
      refine Snd.ofOpt fun zs hz => Snd.pur Pur.mustt fun _ h1 => Snd.pur Pur.mustt fun _ h2 => Snd.iffL fun hw => Snd.ofOpt fun r hr => ?_
      have h1 : (0 : Int) ≤ i := of_decide_eq_true h1
      have h2 : (i : Int) ≤ 4294967296 := of_decide_eq_true h2
      rw [if_pos ⟨h1, h2⟩]
      refine Snd.putO ⟨trivial, ?_⟩
      simp only [dv, dn]
      rw [hw, List.map_replicate, joinRow_enc hT (δ := δ) hr, cstDs_ok hz]
    · exact Snd.nno
  | .cut0 w x => by
    simp only [stepO', stepO]
    refine Snd.bnd Snd.getD fun d d' h => ?_
    rw [h]
    refine Snd.bnd (Snd.deref hT) fun c c' hc => ?_
    rw [hc]
    split
    · simp only [dn]; exact Snd.putO ⟨trivial, by simp only [dv, dn]⟩
    · simp only [dn]; exact Snd.putO ⟨trivial, by simp only [dv, dn]⟩
    · exact Snd.nno
  | .cut w x lo hi => by
    simp only [stepO', stepO]
    refine Snd.bnd Snd.getD fun d d' h => ?_
    rw [h]
    split
    · rename_i b' fg y
      simp only [dn]
      refine Snd.iff_ (fun h => h) fun hw => ?_
      refine Snd.bnd (Snd.bnd1 hT (by simp) (by simp)) fun h1 h1' e1 => ?_
      refine Snd.bnd (Snd.bnd1 hT e1 rfl) fun l l' e2 => Snd.putO ⟨trivial, ?_⟩
      simp only [dv, dn]
      rw [hw, e1, e2]
      simp only [Int.toNat_natCast, List.map_drop, List.map_take]
    · exact Snd.nno
  | .cutstr x lo hi => by
    simp only [stepO', stepO]
    refine Snd.bnd Snd.getD fun d d' h => ?_
    rw [h]
    split
    · rename_i t
      simp only [dn]
      refine Snd.bnd (Snd.bnd1 hT rfl rfl) fun h1 h1' e1 => ?_
      refine Snd.bnd (Snd.bnd1 hT e1 rfl) fun l l' e2 => Snd.putO ⟨trivial, ?_⟩
      simp only [dv, dn]
      rw [e1, e2]
      simp only [Int.toNat_natCast]
    · exact Snd.nno
  | .faddr off x => by
    simp only [stepO', stepO]
    refine Snd.bnd Snd.getD fun d d' h => ?_
    rw [h]
    exact Snd.bnd Snd.live fun _ _ _ => Snd.bnd Snd.faddr fun v v' h => Snd.putO h
  | .field ag off m x => by
    simp only [stepO', stepO]
    cases x with
    | c v => exact Snd.nno
    | t n =>
      simp only
      refine Snd.rd fun s r hr => ?_
      split
      · rename_i ds hc
        rw [hr.agg hc]
        simp only
        refine Snd.iff_ (fun h => by simpa using h) fun _ => ?_
        rw [← List.map_drop, ← List.map_take, dupL_dn hr]
        exact Snd.bnd Snd.pick fun v v' h => Snd.putO h
      · exact Snd.nno
  | .iaddr w x i => by
    simp only [stepO', stepO]
    refine Snd.bnd Snd.getD fun d d' h => ?_
    rw [h]
    split
    · simp only [dn, D.int, Pg.bind]
      exact Snd.bnd (Snd.iaddr hT) fun v v' h => Snd.putO h
    · exact Snd.nno
  | .index x i => by
    simp only [stepO', stepO]
    refine Snd.bnd Snd.getD fun d d' h => Snd.bnd Snd.getD fun e e' h2 => ?_
    rw [h, h2]
    split
    · rename_i t k i
      simp only [dn, D.int, Pg.bind]
      intro S W κ r hS hr
      obtain ⟨c, hc, hr⟩ := Option.bind_eq_some_iff.1 (show Option.bind (sat t i) _ = some r from hr)
      unfold sat at hc
      split at hc
      · rename_i h0
        rw [if_pos h0]
        split at hc
        · rename_i c' hc'
          obtain rfl := Option.some.inj hc
          rw [hc']
          exact (Snd.putO (R := R) (G := G) (δ := δ) (dst := dst) (v := .leaf (.i .u8 (c'.toNat : Int))) (v' := .leaf (.i .u8 c'.toNat)) ⟨trivial, by simp only [dv, dn]⟩) S W κ r hS hr
        · cases hc
      · cases hc
    · exact Snd.nno
  | .look z okk x k => Snd.look hT
  | .mup x k v => Snd.mup hT
  | .ext x => by
    simp only [stepO', stepO]
    refine Snd.bnd Snd.moveV fun v v' h => ?_
    obtain ⟨hre, rfl⟩ := h
    exact Snd.iff_ (fun h => (solid_dv v h).1) fun _ => Snd.putO ⟨hre, rfl⟩
  | .call f none xs => by simp only [stepO', stepO]; exact Snd.callP0 hT hE
  | .call f (some j) xs => by simp only [stepO', callP']; exact Snd.nno
  | .callv x xs => Snd.callv hT hE
  | .len k x => by
    simp only [stepO', stepO]
    refine Snd.bnd (Snd.content hT) fun c c' h => ?_
    rw [h]
    split
    · simp only [dn]; exact Snd.putO ⟨trivial, by simp only [dv, dn, List.length_map]⟩
    · simp only [dn]; exact Snd.putO ⟨trivial, by simp only [dv, dn, List.length_nil]; rfl⟩
    · simp only [dn]; exact Snd.putO ⟨trivial, by simp only [dv, dn]⟩
    · simp only [dn]; exact Snd.putO ⟨trivial, by simp only [dv, dn, List.length_map]⟩
    · simp only [dn]; exact Snd.putO ⟨trivial, by simp only [dv, dn, List.length_nil]; rfl⟩
    · exact Snd.nno
  | .app w s x => Snd.app hT
  | .cpy _ _ => Snd.nno
  | .mx xs => by
    simp only [stepO', stepO]
    refine Snd.bnd Snd.getDs fun ds ds' h => ?_
    rw [h]
    split
    · rename_i k n r
      simp only [List.map_cons, dn]
      refine Snd.ofOpt fun l hl => Snd.ofOptR (intsOf_ok hl) (Snd.pur Pur.letI fun z hz => Snd.putO ⟨trivial, ?_⟩)
      rw [hz, min_ok]; simp only [dv, dn]
    · exact Snd.nno
  | .mn xs => by
    simp only [stepO', stepO]
    refine Snd.bnd Snd.getDs fun ds ds' h => ?_
    rw [h]
    split
    · rename_i k n r
      simp only [List.map_cons, dn]
      refine Snd.ofOpt fun l hl => Snd.ofOptR (intsOf_ok hl) (Snd.pur Pur.letI fun z hz => Snd.putO ⟨trivial, ?_⟩)
      rw [hz, min_ok]; simp only [dv, dn]
    · exact Snd.nno
end
end Go.Proofs.Vai

namespace Go.Proofs.Vai
open Go
set_option linter.unusedVariables false

section
variable {T : Tab} {R : Type} {G : Gd (AP T)} {δ : Dl}
theorem rd_keep {α : Type} {g : Nat} {f : Sx (AP T) → MM (AP T) R α} {S : SS (AP T)} {W : St} {κ : α → SS (AP T) → Option R} {r : R} (hS : RS δ G.t S W) (h : bd (rdS G g) f S κ = some r) :
    ∃ (s : Sx (AP T)) (w : Sl), W[g]? = some w ∧ RSl δ g (s.look G.t) w ∧ f (s.look G.t) S κ = some r ∧ (∀ {β : Type} (p : Sl → Pg β), (Pg.rd g p).runG G.l W = (p w).runG G.l W) ∧
      ∀ (b v : Bool), (s.look G.t).c = .leaf (.b b) → b = v → ∀ {R' : Type} (κ' : Unit → SS (AP T) → Option R') (r' : R'), knowS (A := AP T) g v S κ' = some r' → ∃ S', RS δ G.t S' W ∧ κ' () S' = some r' := by
  unfold Go.Proofs.Vai.bd rdS at h
  split at h
  · rename_i hg
    split at h
    · rename_i s hs
      obtain ⟨w, hw⟩ : ∃ w, W[g]? = some w := ⟨W[g]'(by rw [← hS.1]; exact (List.getElem?_eq_some_iff.1 hs).1), List.getElem?_eq_getElem _⟩
      have hr := hS.2.1 g s w hs hw
      refine ⟨s, w, hw, hr, h, ?_, ?_⟩
      · intro β p
        unfold Pg.runG
        unfold Gd.r at hg
        split
        · simp only [Pg.run, hw]
        · rename_i q hl
          rw [hl] at hg
          simp only [Pg.runIn, hw]
          rw [if_pos hg]
      · intro b v hb hbv R' κ' r' hk
        subst hbv
        unfold knowS at hk
        rw [hs] at hk
        simp only at hk
        split at hk
        · rename_i x hx
          refine ⟨_, ?_, hk⟩
          have hvx : x = b := by
            simp only [Sx.look, hx, lookR, VV.leaf.injEq, DD.b.injEq] at hb
            exact hb
          have := hS.set (k := g) (s := ⟨.leaf (.bk b), s.e, s.h, s.x⟩) (w := w) ⟨hr.1, hr.2.1, hr.2.2.1, fun _ => by
            have h3 := hr.2.2.2 (by simp only [Sx.look, hx, lookR]; trivial)
            rw [h3]
            simp only [Sx.look, hx, lookR, dv, dn, hvx]⟩ (fun i hi => by cases hi)
          rw [show W.set g w = W from set_self? hw] at this
          exact this
        · exact ⟨_, hS, hk⟩
    · cases h
  · cases h
theorem stepG_snd (hT : TabOK T) {Er : CallF} {E : List (Ent (AP T))} (hE : ∀ e ∈ E, EntOK T Er e) (o : IOp) (b : Nat) : Snd (R := R) G δ (stepG' G E o b) (stepG Er o) (fun _ _ => True) := by
  unfold stepG' stepG
  have hskip : Snd (R := R) G δ (putO' G o.dst (.leaf .und)) (skipP o.dst) (fun _ _ => True) := Snd.putO ⟨trivial, by simp only [dv, dn]⟩
  have hstep : Snd (R := R) G δ (stepO' G E o.dst o.vs b o.o) (stepO Er o.dst o.vs o.o) (fun _ _ => True) := stepO_snd hT hE o.o
  split
  · rename_i hg; rw [hg]; exact hstep
  · rename_i g want hg
    rw [hg]
    simp only
    intro S W κ r hS hr
    obtain ⟨s, w, hw, hsl, h1, h2, h3⟩ := rd_keep hS hr
    rw [h2]
    cases hc : (s.look G.t).c with
    | leaf d =>
      rw [hc] at h1
      rw [hsl.leaf hc]
      cases d with
      | bk t =>
        simp only [dn]
        simp only at h1
        by_cases ht : t = want
        · rw [if_pos ht] at h1 ⊢; exact hstep S W κ r hS h1
        · rw [if_neg ht] at h1 ⊢; exact hskip S W κ r hS h1
      | b t =>
        simp only [dn]
        have h1' : (bif (show Bool from t) then (bd (knowS g true) fun _ => if want then stepO' G E o.dst o.vs b o.o else putO' G o.dst (.leaf .und)) S κ
          else (bd (knowS g false) fun _ => if want then putO' G o.dst (.leaf .und) else stepO' G E o.dst o.vs b o.o) S κ) = some r := h1
        cases t with
        | true =>
          simp only [cond_true] at h1'
          obtain ⟨S', q1, q2⟩ := h3 true true hc rfl _ _ (show knowS (A := AP T) g true S (fun _ S' => (if want = true then stepO' G E o.dst o.vs b o.o else putO' G o.dst (.leaf .und)) S' κ) = some r from h1')
          cases want with
          | true => exact hstep S' W κ r q1 q2
          | false => exact hskip S' W κ r q1 q2
        | false =>
          simp only [cond_false] at h1'
          obtain ⟨S', q1, q2⟩ := h3 false false hc rfl _ _ (show knowS (A := AP T) g false S (fun _ S' => (if want = true then putO' G o.dst (.leaf .und) else stepO' G E o.dst o.vs b o.o) S' κ) = some r from h1')
          cases want with
          | true => exact hskip S' W κ r q1 q2
          | false => exact hstep S' W κ r q1 q2
      | und =>
        simp only [dn]
        exact hskip S W κ r hS h1
      | _ => cases h1
    | _ => rw [hc] at h1; cases h1
theorem runOps_snd (hT : TabOK T) {Er : CallF} {E : List (Ent (AP T))} (hE : ∀ e ∈ E, EntOK T Er e) {Γ : List (VV (AP T))} : ∀ (ops : List (IOp × Nat)) {S : SS (AP T)} {W : St} {κ : SS (AP T) → Option R} {r : R}, RS δ Γ S W → runOps' E Γ ops S κ = some r →
    ∃ S' W', runOps Er (ops.map (·.1)) W = some W' ∧ RS δ Γ S' W' ∧ κ S' = some r
  | [], S, W, κ, r, hS, h => ⟨S, W, rfl, hS, h⟩
  | o :: ops, S, W, κ, r, hS, h => by
    simp only [runOps'] at h
    obtain ⟨_, _, S1, W1, e1, _, e3, e4⟩ := stepG_snd (G := ⟨none, Γ⟩) hT hE o.1 o.2 S W _ r hS h
    obtain ⟨S2, W2, q1, q2, q3⟩ := runOps_snd hT hE ops e3 e4
    refine ⟨S2, W2, ?_, q2, q3⟩
    simp only [List.map_cons, runOps]
    rw [show (stepG Er o.1).run W = some (_, W1) from e1]
    exact q1
theorem runOpsD_snd (hT : TabOK T) {Er : CallF} {E : List (Ent (AP T))} (hE : ∀ e ∈ E, EntOK T Er e) {Γ : List (VV (AP T))} : ∀ (ops : List (IOp × Nat)) {S : SS (AP T)} {W : St} {κ : SS (AP T) → Option R} {r : R}, RS δ Γ S W → runOpsD' E Γ ops S κ = some r →
    ∃ S' W', runOpsD Er (ops.map (·.1)) W = some W' ∧ RS δ Γ S' W' ∧ κ S' = some r
  | [], S, W, κ, r, hS, h => ⟨S, W, rfl, hS, h⟩
  | o :: ops, S, W, κ, r, hS, h => by
    simp only [runOpsD'] at h
    obtain ⟨_, _, S1, W1, e1, _, e3, e4⟩ := stepG_snd (G := ⟨some (o.1.rs, o.1.ws), Γ⟩) hT hE o.1 o.2 S W _ r hS h
    obtain ⟨S2, W2, q1, q2, q3⟩ := runOpsD_snd hT hE ops e3 e4
    refine ⟨S2, W2, ?_, q2, q3⟩
    simp only [List.map_cons, runOpsD]
    rw [show (stepG Er o.1).runIn o.1.rs o.1.ws W = some (_, W1) from e1]
    exact q1

/-! ### What is set aside -/
mutual
theorem plain_dn (δ δ' : Dl) : ∀ (d : DD (AP T)), d.plain = true → dn T δ d = dn T δ' d
  | .al _ _ _ _, h => by simp [DD.plain] at h
  | .bp _ _ _, h => by simp [DD.plain] at h
  | .el _ _ _ _ _ _, h => by simp [DD.plain] at h
  | .pt cs, h => by simp only [DD.plain] at h; simp only [dn]; rw [plains_dn δ δ' cs h]
  | .fn f cs, h => by simp only [DD.plain] at h; simp only [dn]; rw [plains_dn δ δ' cs h]
  | .i _ _, h => by simp only [dn]
  | .b _, h => by simp only [dn]
  | .bk _, h => by simp only [dn]
  | .s _, h => by simp only [dn]
  | .nilp, h => by simp only [dn]
  | .sl _ _ _ _, h => by simp only [dn]
  | .nl _ _, h => by simp only [dn]
  | .mp _ _ _, h => by simp only [dn]
  | .mn, h => by simp only [dn]
  | .und, h => by simp only [dn]
  | .dead, h => by simp only [dn]
theorem plains_dn (δ δ' : Dl) : ∀ (ds : List (DD (AP T))), DD.plains ds = true → dns T δ ds = dns T δ' ds
  | [], h => by simp only [dns]
  | d :: ds, h => by
    simp only [DD.plains, Bool.and_eq_true] at h
    simp only [dns]
    rw [plain_dn δ δ' d h.1, plains_dn δ δ' ds h.2]
end
theorem plains_map {δ δ' : Dl} {ds : List (DD (AP T))} (h : DD.plains ds = true) : ds.map (dn T δ) = ds.map (dn T δ') := by
  rw [← dns_map, ← dns_map]; exact plains_dn δ δ' ds h
theorem still_dv {v : VV (AP T)} (h : still v = true) (δ δ' : Dl) : v.real ∧ dv T δ v = dv T δ' v := by
  cases v with
  | leaf d => exact ⟨trivial, by simp only [dv]; rw [plain_dn δ δ' d h]⟩
  | agg ds => exact ⟨trivial, by simp only [dv]; rw [plains_map h]⟩
  | box ds => exact ⟨trivial, by simp only [dv]; rw [plains_map h]⟩
  | _ => simp [still] at h
/-! ### Normed -/
def Dl0 : Dl := ⟨fun _ => 0, fun _ => 0, fun _ => 0⟩
theorem normD_al {d : DD (AP T)} (h : d.isAl = false) (keep : Nat → Bool) (S : SS (AP T)) : normD' keep S d = d := by
  cases d <;> simp [DD.isAl] at h <;> rfl
/-- Heads: what is kept, the counters at nought. -/
theorem head_dn {keep : List Nat} {S : SS (AP T)} {Γ : List (VV (AP T))} {W : St} (hS : RS δ Γ S W) {d : DD (AP T)} (h : (d.isAl || d.plain) = true) :
    normD keep W (dn T δ d) = dn T Dl0 (normD' (fun k => keep.contains k) S d) := by
  have hp : ∀ k : Nat, (S[k]? = none ∧ W[k]? = none) ∨ ∃ s w, S[k]? = some s ∧ W[k]? = some w ∧ RSl δ k (s.look Γ) w := fun k => by
    rcases Nat.lt_or_ge k S.length with hk | hk
    · exact .inr ⟨S[k], W[k]'(by rw [← hS.1]; exact hk), List.getElem?_eq_getElem hk, List.getElem?_eq_getElem _, hS.2.1 k _ _ (List.getElem?_eq_getElem hk) (List.getElem?_eq_getElem _)⟩
    · exact .inl ⟨List.getElem?_eq_none hk, List.getElem?_eq_none (by rw [← hS.1]; exact hk)⟩
  cases d with
  | al k j st n =>
    simp only [dn, normD, normD']
    rcases hp k with ⟨e1, e2⟩ | ⟨s, w, e1, e2, hr⟩
    · rw [e1, e2]; simp only [dn]
    · rw [e1, e2]
      simp only
      have := hr.ver st n
      have hv : (n + δ.ver k st.isSome == w.ver (stN st)) = (n == s.ver st.isSome) := by
        have : n = s.ver st.isSome ↔ n + δ.ver k st.isSome = w.ver (stN st) := this
        by_cases h1 : n = s.ver st.isSome
        · rw [beq_iff_eq.2 (this.1 h1), beq_iff_eq.2 h1]
        · rw [show (n == s.ver st.isSome) = false from by simpa using h1]; simpa using fun h2 => h1 (this.2 h2)
      rw [hv]
      split
      · simp only [dn, Dl0, Dl.ver]; cases st <;> rfl
      · simp only [dn]
  | bp k off n =>
    simp only [dn, normD, normD']
    rcases hp k with ⟨e1, e2⟩ | ⟨s, w, e1, e2, hr⟩
    · rw [e1, e2]; simp only [dn]
    · rw [e1, e2]
      simp only
      have hx : w.x = s.x + δ.x k := hr.2.2.1
      have hv : (n + δ.x k == w.x) = (n == s.x) := by
        rw [hx]
        by_cases h1 : n = s.x
        · subst h1; simp
        · rw [show (n == s.x) = false from by simpa using h1]; simpa using h1
      rw [hv]
      split
      · simp only [dn, Dl0]
      · simp only [dn]
  | el k j st i off n =>
    simp only [dn, normD, normD']
    rcases hp k with ⟨e1, e2⟩ | ⟨s, w, e1, e2, hr⟩
    · rw [e1, e2]; simp only [dn]
    · rw [e1, e2]
      simp only
      have hx : w.e = s.e + δ.e k := hr.1
      have hv : (n + δ.e k == w.e) = (n == s.e) := by
        rw [hx]
        by_cases h1 : n = s.e
        · subst h1; simp
        · rw [show (n == s.e) = false from by simpa using h1]; simpa using h1
      rw [hv]
      split
      · simp only [dn, Dl0]
      · simp only [dn]
  | _ =>
    have hpl := h
    simp only [DD.isAl, Bool.false_or] at hpl
    rw [normD_al rfl, plain_dn δ Dl0 _ hpl]
    simp only [dn, normD]
theorem headC_dn {keep : List Nat} {S : SS (AP T)} {Γ : List (VV (AP T))} {W : St} (hS : RS δ Γ S W) {d : DD (AP T)} (h : okN d = true) :
    normC keep W (dn T δ d) = dn T Dl0 (normC' (fun k => keep.contains k) S d) := by
  cases d with
  | fn f cs =>
    simp only [okN, List.all_eq_true] at h
    simp only [dn, normC, normC', dns_map, List.map_map, D.fn.injEq, true_and]
    apply List.map_congr_left
    intro d hd
    exact head_dn hS (h d hd)
  | al k j st n => have := head_dn (keep := keep) hS (d := .al k j st n) h; simp only [dn, normC, normC'] at this ⊢; exact this
  | bp k off n => have := head_dn (keep := keep) hS (d := .bp k off n) h; simp only [dn, normC, normC'] at this ⊢; exact this
  | el k j st i off n => have := head_dn (keep := keep) hS (d := .el k j st i off n) h; simp only [dn, normC, normC'] at this ⊢; exact this
  | _ => simp only [okN] at h; have := head_dn (keep := keep) hS h; simp only [dn, normC, normC'] at this ⊢; exact this
theorem headV_dn {keep : List Nat} {S : SS (AP T)} {Γ : List (VV (AP T))} {W : St} (hS : RS δ Γ S W) {v : VV (AP T)} (h : okNV v = true) :
    normV keep W (dv T δ v) = dv T Dl0 (normV' (fun k => keep.contains k) S v) := by
  cases v with
  | leaf d => simp only [dv, normV, normV']; rw [headC_dn hS h]
  | agg ds =>
    simp only [okNV, List.all_eq_true] at h
    simp only [dv, normV, normV', List.map_map, V.agg.injEq]
    apply List.map_congr_left
    intro d hd
    exact headC_dn hS (h d hd)
  | box ds => simp only [dv, normV, normV']; rw [plains_map h]
  | _ => simp [okNV] at h
/-- The counters as they stand. -/
def cntD (W : St) : Dl := ⟨fun k => (W[k]?.map Sl.e).getD 0, fun k => (W[k]?.map Sl.h).getD 0, fun k => (W[k]?.map Sl.x).getD 0⟩
theorem fresh_dn {S : SS (AP T)} {Γ : List (VV (AP T))} {W : St} (hS : RS δ Γ S W) {d : DD (AP T)} (h : freshD S d = true) :
    dn T δ d = dn T (cntD W) (normC' (fun _ => true) S d) := by
  have hp : ∀ (k : Nat) (s : Sx (AP T)), S[k]? = some s → ∃ w, W[k]? = some w ∧ RSl δ k (s.look Γ) w := fun k s hs => by
    have hk : k < W.length := by rw [← hS.1]; exact (List.getElem?_eq_some_iff.1 hs).1
    exact ⟨W[k], List.getElem?_eq_getElem hk, hS.2.1 k _ _ hs (List.getElem?_eq_getElem hk)⟩
  cases d with
  | al k j st n =>
    simp only [freshD] at h
    simp only [normC', normD']
    split at h
    · rename_i s hs
      obtain ⟨w, hw, hr⟩ := hp k s hs
      simp only [Bool.true_and, h, if_true, dn, D.al.injEq, true_and, Nat.zero_add]
      have h1 : n = s.ver st.isSome := by simpa using h
      have := (hr.ver st n).1 h1
      rw [this]
      cases st with
      | none => simp [stN, Sl.ver, Dl.ver, cntD, hw]
      | some p => simp [stN, Sl.ver, Dl.ver, cntD, hw]
    · cases h
  | bp k off n =>
    simp only [freshD] at h
    simp only [normC', normD']
    split at h
    · rename_i s hs
      obtain ⟨w, hw, hr⟩ := hp k s hs
      simp only [Bool.true_and, h, if_true, dn, D.bp.injEq, true_and, Nat.zero_add]
      have h1 : n = s.x := by simpa using h
      have hx : w.x = s.x + δ.x k := hr.2.2.1
      rw [h1, ← hx]
      simp [cntD, hw]
    · cases h
  | el k j st i off n =>
    simp only [freshD] at h
    simp only [normC', normD']
    split at h
    · rename_i s hs
      obtain ⟨w, hw, hr⟩ := hp k s hs
      simp only [Bool.true_and, h, if_true, dn, D.el.injEq, true_and, Nat.zero_add]
      have h1 : n = s.e := by simpa using h
      have hx : w.e = s.e + δ.e k := hr.1
      rw [h1, ← hx]
      simp [cntD, hw]
    · cases h
  | fn f cs =>
    have hpl : DD.plains cs = true := h
    have hid : cs.map (normD' (fun _ => true) S) = cs := by
      have key : ∀ cs : List (DD (AP T)), DD.plains cs = true → cs.map (normD' (fun _ => true) S) = cs := fun cs => by
        induction cs with
        | nil => intro _; rfl
        | cons d cs ih =>
          intro h
          simp only [DD.plains, Bool.and_eq_true] at h
          rw [List.map_cons, ih h.2]
          congr 1
          cases d <;> simp [DD.plain] at h <;> rfl
      exact key cs hpl
    simp only [normC']
    rw [hid]
    exact plain_dn δ _ _ h
  | _ => exact plain_dn δ _ _ h
theorem freshV_dn {S : SS (AP T)} {Γ : List (VV (AP T))} {W : St} (hS : RS δ Γ S W) {v : VV (AP T)} (h : freshV S v = true) :
    v.real ∧ dv T δ v = dv T (cntD W) (normV' (fun _ => true) S v) := by
  cases v with
  | leaf d => exact ⟨trivial, by simp only [dv, normV']; rw [fresh_dn hS h]⟩
  | agg ds =>
    refine ⟨trivial, ?_⟩
    simp only [freshV, List.all_eq_true] at h
    simp only [dv, normV', List.map_map, V.agg.injEq]
    apply List.map_congr_left
    intro d hd
    exact fresh_dn hS (h d hd)
  | box ds => exact ⟨trivial, by simp only [dv, normV']; rw [plains_map h]⟩
  | _ => simp [freshV] at h
end
end Go.Proofs.Vai

namespace Go.Proofs.Vai
open Go
set_option linter.unusedVariables false

section
variable {T : Tab} {δ : Dl}
theorem normV_real {keep : Nat → Bool} {S : SS (AP T)} {v : VV (AP T)} (h : (normV' keep S v).real) : v.real := by
  cases v <;> first | trivial | exact h
theorem plains_normD {keep : Nat → Bool} {S : SS (AP T)} : ∀ (ds : List (DD (AP T))), DD.plains ds = true → ds.map (normD' keep S) = ds
  | [], _ => rfl
  | d :: ds, h => by
    simp only [DD.plains, Bool.and_eq_true] at h
    have hd : normD' keep S d = d := by cases d <;> simp [DD.plain] at h <;> rfl
    rw [List.map_cons, plains_normD ds h.2, hd]
theorem plains_norm {keep : Nat → Bool} {S : SS (AP T)} : ∀ (ds : List (DD (AP T))), DD.plains ds = true → ds.map (normC' keep S) = ds
  | [], _ => rfl
  | d :: ds, h => by
    simp only [DD.plains, Bool.and_eq_true] at h
    rw [List.map_cons, plains_norm ds h.2]
    congr 1
    cases d with
    | fn f cs =>
      have : DD.plains cs = true := h.1
      simp only [normC']
      rw [plains_normD cs this]
    | _ => first | rfl | (simp [DD.plain] at h)
theorem still_norm {keep : Nat → Bool} {S : SS (AP T)} {v : VV (AP T)} (h : still v = true) : normV' keep S v = v := by
  cases v with
  | leaf d =>
    have := (plains_norm (keep := keep) (S := S) [d] (by simp only [DD.plains, Bool.and_true]; exact h))
    simp only [List.map_cons, List.map_nil, List.cons.injEq, and_true] at this
    simp only [normV', this]
  | agg ds => simp only [normV']; rw [plains_norm ds h]
  | box ds => rfl
  | _ => rfl
theorem goneS_get {n k : Nat} {s : Sx (AP T)} (h : (goneS (AP T) n)[k]? = some s) : s = ⟨.gone, 0, 0, 0⟩ := by
  unfold goneS at h
  rw [List.getElem?_replicate] at h
  split at h
  · exact (Option.some.inj h).symm
  · cases h
theorem gone_RS {Γ : List (VV (AP T))} {W : St} {n : Nat} (hn : n = W.length) (hc : ∀ k w, W[k]? = some w → w.e = δ.e k ∧ w.h = δ.h k ∧ w.x = δ.x k) : RS δ Γ (goneS (AP T) n) W := by
  refine ⟨by simp [goneS, hn], fun k s w hs hw => ?_, fun k s i hs hi => ?_⟩
  · rw [goneS_get hs]
    obtain ⟨h1, h2, h3⟩ := hc k w hw
    exact ⟨by simp [Sx.look, h1], by simp [Sx.look, h2], by simp [Sx.look, h3], fun h => by simp [Sx.look, lookR, VV.real] at h⟩
  · rw [goneS_get hs] at hi; cases hi
theorem unpS_cons {iv : List (Nat × VV (AP T))} {k : Nat} {c : VC} {ps : PS} {ls : List T.Lf} {S : SS (AP T)} (hc : c ≠ .inv) : unpS (A := AP T) iv ((k, c) :: ps) ls S = (unpV (A := AP T) c ls).bind fun p => unpS (A := AP T) iv ps p.2 (S.set k ⟨p.1, 0, 0, 0⟩) := by
  cases c with
  | inv => exact absurd rfl hc
  | _ =>
    rw [unpS]
    · split
      · rename_i h; rw [h]; rfl
      · rename_i h; rw [h]; rfl
    · intro h; cases h
theorem pack_unpS (hT : TabOK T) {Γ : List (VV (AP T))} {nm : VV (AP T) → VV (AP T)} {iv : List (Nat × Nat)} {ivR : List (Nat × VV (AP T))} {S : SS (AP T)} {W : St} (hnm : ∀ v, still v = true → nm v = v) (hre : ∀ v, (nm v).real → v.real)
    (hiv : ∀ k i, iv.lookup k = some i → ivR.lookup k = some (.ref i) ∧ i < Γ.length ∧ still (lookR Γ (.ref i)) = true) (hc : ∀ k w, W[k]? = some w → w.e = δ.e k ∧ w.h = δ.h k ∧ w.x = δ.x k) (hlen : S.length = W.length) :
    ∀ (ps : PS) (ls : List T.Lf) (S0 : SS (AP T)), packS (A := AP T) Γ nm iv S ps = some ls → (∀ k s w, k ∈ ps.map (·.1) → S[k]? = some s → W[k]? = some w → (lookR Γ s.c).real → w.c = dv T δ (nm (lookR Γ s.c))) → RS δ Γ S0 W →
      ∃ S1, unpS (A := AP T) ivR ps ls S0 = some S1 ∧ RS δ Γ S1 W
  | [], ls, S0, h, hw, h0 => by
    simp only [packS] at h
    obtain rfl := Option.some.inj h
    exact ⟨S0, rfl, h0⟩
  | (k, c) :: ps, ls, S0, h, hw, h0 => by
    simp only [packS] at h
    split at h
    · rename_i s hs
      obtain ⟨w, hww⟩ : ∃ w, W[k]? = some w := ⟨W[k]'(by rw [← hlen]; exact (List.getElem?_eq_some_iff.1 hs).1), List.getElem?_eq_getElem _⟩
      obtain ⟨c1, c2, c3⟩ := hc k w hww
      have hW : W.set k w = W := set_self? hww
      have htl := fun (S0 : SS (AP T)) (b : List T.Lf) (hb : packS (A := AP T) Γ nm iv S ps = some b) (h0 : RS δ Γ S0 W) => pack_unpS hT hnm hre hiv hc hlen ps b S0 hb (fun k' s' w' hk => hw k' s' w' (List.mem_cons_of_mem _ hk)) h0
      have hwk := hw k s w List.mem_cons_self hs hww
      have gen : ∀ (a b : List T.Lf), packV (A := AP T) c (nm (lookR Γ s.c)) = some a → packS (A := AP T) Γ nm iv S ps = some b → ls = a ++ b → c ≠ .inv → ∃ S1, unpS (A := AP T) ivR ((k, c) :: ps) ls S0 = some S1 ∧ RS δ Γ S1 W := fun a b ha hb hl hun => by
        subst hl
        obtain ⟨hr1, v', e1, e2, e3⟩ := packV_unp hT b ha
        have hcont := hwk (hre _ hr1)
        have hset : RS δ Γ (S0.set k ⟨v', 0, 0, 0⟩) W := by
          have := h0.set (k := k) (s := ⟨v', 0, 0, 0⟩) (w := w) ⟨by simp [Sx.look, c1], by simp [Sx.look, c2], by simp [Sx.look, c3], fun _ => by
            simp only [Sx.look]; rw [lookR_real e2, e3, hcont]⟩ (fun i hi => by simp only at hi; rw [hi] at e2; exact absurd e2 (by simp [VV.real]))
          rw [hW] at this
          exact this
        obtain ⟨S1, q1, q2⟩ := htl _ b hb hset
        refine ⟨S1, ?_, q2⟩
        rw [unpS_cons hun, e1]; exact q1
      split at h
      · rename_i a b ha hb
        have hls := (Option.some.inj h).symm
        by_cases hci : c = .inv
        · subst hci
          cases hsi : s.c with
          | ref i =>
            rw [hsi] at ha
            simp only at ha
            split at ha
            · rename_i hl
              obtain rfl := Option.some.inj ha
              obtain ⟨g1, g2, g3⟩ := hiv k i hl
              have hcont := hwk (by rw [hsi]; exact (still_dv g3 δ δ).1)
              have hset : RS δ Γ (S0.set k ⟨.ref i, 0, 0, 0⟩) W := by
                have := h0.set (k := k) (s := ⟨.ref i, 0, 0, 0⟩) (w := w) ⟨by simp [Sx.look, c1], by simp [Sx.look, c2], by simp [Sx.look, c3], fun _ => by
                  simp only [Sx.look]; rw [hcont, hsi, hnm _ g3]⟩ (fun j hj => by simp only [VV.ref.injEq] at hj; omega)
                rw [hW] at this
                exact this
              obtain ⟨S1, q1, q2⟩ := htl _ b hb hset
              refine ⟨S1, ?_, q2⟩
              rw [hls]
              simp only [unpS, g1, List.nil_append]
              exact q1
            · cases ha
          | _ => rw [hsi] at ha; cases ha
        · have ha' : packV (A := AP T) c (nm (lookR Γ s.c)) = some a := by
            cases c <;> first | exact absurd rfl hci | (cases ha; done) | exact ha
          exact gen a b ha' hb hls hci
      · cases h
    · cases h
/-! ### Set aside -/
theorem lookR_app {Γ ext : List (VV (AP T))} {v : VV (AP T)} (h : ∀ i, v = .ref i → i < Γ.length) : lookR (Γ ++ ext) v = lookR Γ v := by
  cases v with
  | ref i =>
    have := h i rfl
    simp only [lookR, List.getD_eq_getElem?_getD]
    rw [List.getElem?_append_left this]
  | _ => rfl
/-- What was set aside. -/
def AsOK (Γ : List (VV (AP T))) (S : SS (AP T)) (l : List (Nat × Nat × VV (AP T))) (Γ' : List (VV (AP T))) : Prop :=
  (∃ ext, Γ' = Γ ++ ext) ∧ (∀ v ∈ Γ', still v = true) ∧ ∀ k i v, (k, i, v) ∈ l → i < Γ'.length ∧ lookR Γ' (.ref i) = lookR Γ v ∧ (∀ j, v = .ref j → j < Γ.length) ∧ ∃ s, S[k]? = some s ∧ s.c = v
theorem aside_ok {S : SS (AP T)} {Γ0 : List (VV (AP T))} (hr : ∀ (k : Nat) (s : Sx (AP T)) (i : Nat), S[k]? = some s → s.c = .ref i → i < Γ0.length) : ∀ (ps : PS) (t : List (VV (AP T))) (l : List (Nat × Nat × VV (AP T))) (Γ' : List (VV (AP T))), aside (A := AP T) S ps t = some (l, Γ') → (∃ e0, t = Γ0 ++ e0) → (∀ v ∈ t, still v = true) →
    (∃ ext, Γ' = t ++ ext) ∧ (∀ v ∈ Γ', still v = true) ∧ ∀ k i v, (k, i, v) ∈ l → i < Γ'.length ∧ lookR Γ' (.ref i) = lookR Γ0 v ∧ (∀ j, v = .ref j → j < Γ0.length) ∧ ∃ s, S[k]? = some s ∧ s.c = v
  | [], t, l, Γ', h, he, hs => by
    simp only [aside, Option.some.injEq, Prod.mk.injEq] at h
    obtain ⟨rfl, rfl⟩ := h
    exact ⟨⟨[], by simp⟩, hs, fun k i v hm => by simp at hm⟩
  | (k, c) :: ps, t, l, Γ', h, he, hs => by
    have skip : ∀ c, c ≠ VC.inv → aside (A := AP T) S ((k, c) :: ps) t = aside (A := AP T) S ps t := fun c hc => by cases c <;> first | rfl | exact absurd rfl hc
    by_cases hc : c = .inv
    · subst hc
      simp only [aside] at h
      split at h
      · rename_i s hsk
        split at h
        · rename_i i hi
          simp only [Option.map_eq_some_iff] at h
          obtain ⟨⟨l0, Γ0'⟩, h1, h2⟩ := h
          simp only [Prod.mk.injEq] at h2
          obtain ⟨rfl, rfl⟩ := h2
          obtain ⟨g1, g2, g3⟩ := aside_ok hr ps t l0 Γ0' h1 he hs
          refine ⟨g1, g2, fun k' i' v' hm => ?_⟩
          rcases List.mem_cons.1 hm with e | hm
          · simp only [Prod.mk.injEq] at e
            obtain ⟨rfl, rfl, rfl⟩ := e
            have hlt := hr _ _ _ hsk hi
            obtain ⟨e0, rfl⟩ := he
            obtain ⟨ext, rfl⟩ := g1
            refine ⟨by simp; omega, ?_, fun j hj => by simp only [VV.ref.injEq] at hj; omega, s, hsk, hi⟩
            rw [List.append_assoc]
            exact lookR_app fun j hj => by simp only [VV.ref.injEq] at hj; omega
          · exact g3 k' i' v' hm
        · rename_i hne
          split at h
          · rename_i hst
            simp only [Option.map_eq_some_iff] at h
            obtain ⟨⟨l0, Γ0'⟩, h1, h2⟩ := h
            simp only [Prod.mk.injEq] at h2
            obtain ⟨rfl, rfl⟩ := h2
            obtain ⟨e0, rfl⟩ := he
            obtain ⟨g1, g2, g3⟩ := aside_ok hr ps _ l0 Γ0' h1 ⟨e0 ++ [s.c], by rw [List.append_assoc]⟩ (fun v hv => (List.mem_append.1 hv).elim (hs v) fun h => by simp at h; rw [h]; exact hst)
            obtain ⟨ext, rfl⟩ := g1
            refine ⟨⟨[s.c] ++ ext, by simp [List.append_assoc]⟩, g2, fun k' i' v' hm => ?_⟩
            rcases List.mem_cons.1 hm with e | hm
            · simp only [Prod.mk.injEq] at e
              obtain ⟨rfl, rfl, rfl⟩ := e
              refine ⟨by simp, ?_, fun j hj => absurd hj (hne j), s, hsk, rfl⟩
              rw [lookR_real (still_dv hst Dl0 Dl0).1]
              simp only [lookR, List.getD_eq_getElem?_getD]
              rw [List.append_assoc, List.getElem?_append_right (Nat.le_refl _)]
              simp
            · exact g3 k' i' v' hm
          · cases h
      · cases h
    · rw [skip c hc] at h
      exact aside_ok hr ps t l Γ' h he hs
theorem iv_look {l : List (Nat × Nat × VV (AP T))} {k i : Nat} (h : (ivN l).lookup k = some i) : ∃ v, (k, i, v) ∈ l ∧ (ivR l).lookup k = some (.ref i) ∧ (ivV l).lookup k = some v := by
  induction l with
  | nil => simp [ivN] at h
  | cons p l ih =>
    obtain ⟨k', i', v'⟩ := p
    simp only [ivN, ivR, ivV, List.map_cons, List.lookup] at h ⊢
    by_cases hk : k = k'
    · subst hk
      simp only [beq_self_eq_true, Option.some.injEq] at h
      subst h
      exact ⟨v', List.mem_cons_self, by simp, by simp⟩
    · have hb : (k == k') = false := by simpa using hk
      rw [hb] at h
      simp only [hb]
      obtain ⟨v, h1, h2, h3⟩ := ih h
      exact ⟨v, List.mem_cons_of_mem _ h1, h2, h3⟩
theorem ivR_look {l : List (Nat × Nat × VV (AP T))} {k : Nat} {v : VV (AP T)} (h : (ivR l).lookup k = some v) : ∃ i v', (k, i, v') ∈ l ∧ v = .ref i ∧ (ivV l).lookup k = some v' := by
  induction l with
  | nil => simp [ivR] at h
  | cons p l ih =>
    obtain ⟨k', i', v'⟩ := p
    simp only [ivR, ivV, List.map_cons, List.lookup] at h ⊢
    by_cases hk : k = k'
    · subst hk
      simp only [beq_self_eq_true, Option.some.injEq] at h
      exact ⟨i', v', List.mem_cons_self, h.symm, by simp⟩
    · have hb : (k == k') = false := by simpa using hk
      rw [hb] at h
      simp only [hb]
      obtain ⟨i, v2, h1, h2, h3⟩ := ih h
      exact ⟨i, v2, List.mem_cons_of_mem _ h1, h2, h3⟩
theorem setRefs_RS {Γ' : List (VV (AP T))} {S : SS (AP T)} {W : St} : ∀ (l : List (Nat × Nat × VV (AP T))) (C : SS (AP T)), (∀ (k i : Nat) (v : VV (AP T)), (k, i, v) ∈ l → i < Γ'.length ∧ ∃ s : Sx (AP T), S[k]? = some s ∧ lookR Γ' (.ref i) = lookR Γ' s.c) → RS δ Γ' S W → RS δ Γ' C W → (∀ (k : Nat) (s s' : Sx (AP T)), C[k]? = some s → S[k]? = some s' → s.e = s'.e ∧ s.h = s'.h ∧ s.x = s'.x) → RS δ Γ' (setRefs l C) W ∧ (setRefs l C).length = C.length
  | [], C, hl, hS, hC, hcs => ⟨hC, rfl⟩
  | (k, i, v) :: l, C, hl, hS, hC, hcs => by
    simp only [setRefs]
    obtain ⟨h1, s, h2, h3⟩ := hl k i v List.mem_cons_self
    cases hk : C[k]? with
    | none => exact setRefs_RS l C (fun k i v hm => hl k i v (List.mem_cons_of_mem _ hm)) hS hC hcs
    | some c =>
      simp only
      obtain ⟨w, hw⟩ : ∃ w, W[k]? = some w := ⟨W[k]'(by rw [← hC.1]; exact (List.getElem?_eq_some_iff.1 hk).1), List.getElem?_eq_getElem _⟩
      obtain ⟨q1, q2, q3⟩ := hcs k c s hk h2
      have hsl := hS.2.1 k s w h2 hw
      have hset : RS δ Γ' (C.set k ⟨.ref i, c.e, c.h, c.x⟩) W := by
        have := hC.set (k := k) (s := ⟨.ref i, c.e, c.h, c.x⟩) (w := w) ⟨by simp only [Sx.look, q1]; exact hsl.1, by simp only [Sx.look, q2]; exact hsl.2.1, by simp only [Sx.look, q3]; exact hsl.2.2.1, fun hre => by
          have := hsl.2.2.2
          simp only [Sx.look] at this hre ⊢
          rw [h3] at hre ⊢
          exact this hre⟩ (fun j hj => by simp only [VV.ref.injEq] at hj; omega)
        rw [set_self? hw] at this
        exact this
      obtain ⟨e1, e2⟩ := setRefs_RS l _ (fun k i v hm => hl k i v (List.mem_cons_of_mem _ hm)) hS hset (fun k' s1 s' hk' hs' => by
        by_cases e : k = k'
        · subst e
          rw [List.getElem?_set] at hk'
          simp only [if_true] at hk'
          split at hk'
          · obtain rfl := Option.some.inj hk'
            exact hcs k c s' hk hs'
          · cases hk'
        · rw [List.getElem?_set_ne e] at hk'
          exact hcs k' s1 s' hk' hs')
      exact ⟨e1, by rw [e2, List.length_set]⟩
/-- The same but for what was set aside. -/
def Alike (Γ' Γ : List (VV (AP T))) (A B : SS (AP T)) : Prop := A.length = B.length ∧ ∀ (k : Nat) (a b : Sx (AP T)), A[k]? = some a → B[k]? = some b → a.e = b.e ∧ a.h = b.h ∧ a.x = b.x ∧ lookR Γ' a.c = lookR Γ b.c ∧ ∀ i, b.c = .ref i → i < Γ.length
theorem Alike.set {Γ' Γ : List (VV (AP T))} {A B : SS (AP T)} (h : Alike Γ' Γ A B) {k : Nat} {v v' : VV (AP T)} (hv : lookR Γ' v = lookR Γ v') (hr : ∀ i, v' = .ref i → i < Γ.length) : Alike Γ' Γ (A.set k ⟨v, 0, 0, 0⟩) (B.set k ⟨v', 0, 0, 0⟩) := by
  refine ⟨by simp [h.1], fun j a b ha hb => ?_⟩
  by_cases e : k = j
  · subst e
    rw [List.getElem?_set] at ha hb
    simp only [if_true] at ha hb
    split at ha
    · split at hb
      · obtain rfl := Option.some.inj ha
        obtain rfl := Option.some.inj hb
        exact ⟨rfl, rfl, rfl, hv, hr⟩
      · cases hb
    · cases ha
  · rw [List.getElem?_set_ne e] at ha hb
    exact h.2 j a b ha hb
theorem unpV_real {c : VC} {ls : List T.Lf} {p : VV (AP T) × List T.Lf} (h : unpV (A := AP T) c ls = some p) : p.1.real := by
  unfold unpV at h
  split at h
  · split at h
    · obtain rfl := Option.some.inj h; trivial
    · cases h
  · split at h
    · obtain rfl := Option.some.inj h; trivial
    · cases h
  · split at h
    · obtain rfl := Option.some.inj h; trivial
    · cases h
  · split at h
    · simp only [Option.map_eq_some_iff] at h; obtain ⟨_, _, rfl⟩ := h; trivial
    · cases h
  · split at h
    · simp only [Option.map_eq_some_iff] at h; obtain ⟨_, _, rfl⟩ := h; trivial
    · cases h
  · split at h
    · simp only [Option.map_eq_some_iff] at h; obtain ⟨_, _, rfl⟩ := h; trivial
    · cases h
  · cases h
theorem unpS_alike {Γ' Γ : List (VV (AP T))} {l : List (Nat × Nat × VV (AP T))} (hl : ∀ k i v, (k, i, v) ∈ l → lookR Γ' (.ref i) = lookR Γ v ∧ ∀ j, v = .ref j → j < Γ.length) : ∀ (ps : PS) (ls : List T.Lf) (A B A' B' : SS (AP T)), unpS (A := AP T) (ivR l) ps ls A = some A' → unpS (A := AP T) (ivV l) ps ls B = some B' → Alike Γ' Γ A B → Alike Γ' Γ A' B'
  | [], [], A, B, A', B', ha, hb, h => by
    simp only [unpS, Option.some.injEq] at ha hb
    subst ha hb
    exact h
  | [], _ :: _, A, B, A', B', ha, hb, h => by simp [unpS] at ha
  | (k, c) :: ps, ls, A, B, A', B', ha, hb, h => by
    by_cases hc : c = .inv
    · subst hc
      simp only [unpS] at ha hb
      split at ha
      · rename_i v hv
        obtain ⟨i, v', h1, rfl, h3⟩ := ivR_look hv
        rw [h3] at hb
        simp only at hb
        obtain ⟨g1, g2⟩ := hl k i v' h1
        exact unpS_alike hl ps ls _ _ _ _ ha hb (h.set g1 g2)
      · cases ha
    · rw [unpS_cons hc] at ha hb
      cases hp : unpV (A := AP T) c ls with
      | none => rw [hp] at ha; cases ha
      | some p =>
        rw [hp] at ha hb
        simp only [Option.bind_some] at ha hb
        have hr := unpV_real hp
        refine unpS_alike hl ps p.2 _ _ _ _ ha hb (h.set (by rw [lookR_real hr, lookR_real hr]) fun i hi => ?_)
        rw [hi] at hr
        exact absurd hr (by simp [VV.real])
theorem Alike.RS {Γ' Γ : List (VV (AP T))} {A B : SS (AP T)} {W : St} (h : Alike Γ' Γ A B) (hA : Go.Proofs.Vai.RS δ Γ' A W) : Go.Proofs.Vai.RS δ Γ B W := by
  have hp : ∀ k b, B[k]? = some b → ∃ a, A[k]? = some a := fun k b hb => ⟨A[k]'(by rw [h.1]; exact (List.getElem?_eq_some_iff.1 hb).1), List.getElem?_eq_getElem _⟩
  refine ⟨by rw [← h.1]; exact hA.1, fun k b w hb hw => ?_, fun k b i hb hi => ?_⟩
  · obtain ⟨a, ha⟩ := hp k b hb
    obtain ⟨q1, q2, q3, q4, _⟩ := h.2 k a b ha hb
    have := hA.2.1 k a w ha hw
    simp only [RSl, Sx.look, q1, q2, q3, q4] at this ⊢
    exact this
  · obtain ⟨a, ha⟩ := hp k b hb
    exact (h.2 k a b ha hb).2.2.2.2 i hi
end
end Go.Proofs.Vai

namespace Go.Proofs.Vai
open Go
set_option linter.unusedVariables false

section
variable {T : Tab} {δ : Dl}
theorem orFail_some {R R' : Type} {n : Nat} {f : R' → Option R} {o : Option R'} {r : R} (h : orFail (A := AP T) n f o = some r) : ∃ x, o = some x ∧ f x = some r := by
  cases o with
  | none => cases h
  | some x => exact ⟨x, rfl, h⟩
theorem sameEx_eq {a b : Ex} (h : sameEx a b = true) : a = b := by
  cases a <;> cases b <;> simp [sameEx] at h
  · rfl
  · rw [h]
  · rfl
theorem packExs_some {n : Nat} {Γ : List (VV (AP T))} {iv : List (Nat × Nat)} {xs : List (List K)} {ex : Ex} {S : SS (AP T)} {x : XX T.W xs} : ∀ (exits : List (Ex × PS)) (e0 : Nat), packExs (A := AP T) n Γ iv xs ex S e0 exits = some x →
    ∃ (q : Nat) (ps : PS) (ls : List T.Lf) (t : TT T.W (xs.getD q [])), e0 ≤ q ∧ exits[q - e0]? = some (ex, ps) ∧ packEx (A := AP T) n Γ iv ps S = some ls ∧ packT T.W _ ls = some t ∧ injX T.W xs q t = some x
  | [], e0, h => by simp [packExs] at h
  | (ex', ps) :: exits, e0, h => by
    have rest : packExs (A := AP T) n Γ iv xs ex S (e0 + 1) exits = some x → ∃ (q : Nat) (ps' : PS) (ls : List T.Lf) (t : TT T.W (xs.getD q [])), e0 ≤ q ∧ ((ex', ps) :: exits)[q - e0]? = some (ex, ps') ∧ packEx (A := AP T) n Γ iv ps' S = some ls ∧ packT T.W _ ls = some t ∧ injX T.W xs q t = some x := fun h => by
      obtain ⟨q, ps', ls, t, h0, h1, h2, h3, h4⟩ := packExs_some exits (e0 + 1) h
      refine ⟨q, ps', ls, t, by omega, ?_, h2, h3, h4⟩
      rw [show q - e0 = (q - (e0 + 1)) + 1 by omega]
      simpa using h1
    simp only [packExs] at h
    split at h
    · rename_i hs
      obtain rfl := sameEx_eq hs
      split at h
      · rename_i y hy
        simp only [Option.bind_eq_some_iff] at hy
        obtain ⟨ls, h1, h2⟩ := hy
        exact ⟨e0, ps, ls, y, Nat.le_refl _, by simp, h1, h2, h⟩
      · exact rest h
    · exact rest h
/-- Behind a loop, a join. -/
theorem exit_ok (hT : TabOK T) {R : Type} {Γ Γ' : List (VV (AP T))} {l : List (Nat × Nat × VV (AP T))} {S S' : SS (AP T)} {W' : St} {ex : Ex} {exits : List (Ex × PS)} {x : XX T.W (xsOf exits)} {κ : Ex → SS (AP T) → Option R} {r : R} {n : Nat}
    (hA : AsOK Γ S l Γ') (hS : RS δ Γ' S' W') (hx : packExs (A := AP T) n Γ' (ivN l) (xsOf exits) ex S' 0 exits = some x) (hk : xcase T.W (xsOf exits) x (opn (A := AP T) (ivV l) n exits κ) = some r) :
    ∃ S3, RS (cntD W') Γ S3 W' ∧ κ ex S3 = some r := by
  obtain ⟨q, ps, ls, t, _, h1, h2, h3, h4⟩ := packExs_some exits 0 hx
  rw [Nat.sub_zero] at h1
  rw [(xcase_inj h4).2] at hk
  unfold opn at hk
  rw [h1] at hk
  simp only at hk
  have hu : unpT T.W ((xsOf exits).getD q []) t = ls := packT_unpT h3
  rw [hu] at hk
  split at hk
  · rename_i S3 hS3
    unfold packEx at h2
    split at h2
    · rename_i hc
      obtain ⟨hn, hall⟩ := hc
      have hcnt : ∀ k w, W'[k]? = some w → w.e = (cntD W').e k ∧ w.h = (cntD W').h k ∧ w.x = (cntD W').x k := fun k w hw => by simp [cntD, hw]
      have hcont : ∀ k s w, k ∈ ps.map (·.1) → S'[k]? = some s → W'[k]? = some w → (lookR Γ' s.c).real → w.c = dv T (cntD W') (normV' (fun _ => true) S' (lookR Γ' s.c)) := fun k s w hk hs hw hre => by
        obtain ⟨p, hp, rfl⟩ := List.mem_map.1 hk
        have := List.all_eq_true.1 hall p hp
        simp only [hs] at this
        have hsl := hS.2.1 p.1 s w hs hw
        obtain ⟨_, h⟩ := freshV_dn hS this
        rw [← h]
        exact hsl.2.2.2 hre
      obtain ⟨hext, hst, hl⟩ := hA
      have hiv : ∀ k i, (ivN l).lookup k = some i → (ivR l).lookup k = some (.ref i) ∧ i < Γ'.length ∧ still (lookR Γ' (.ref i)) = true := fun k i hki => by
        obtain ⟨v, g1, g2, g3⟩ := iv_look hki
        obtain ⟨g4, _, _, _⟩ := hl k i v g1
        refine ⟨g2, g4, ?_⟩
        simp only [lookR, List.getD_eq_getElem?_getD, List.getElem?_eq_getElem g4, Option.getD_some]
        exact hst _ (List.getElem_mem g4)
      have hlen : n = W'.length := by rw [← hn]; exact hS.1
      obtain ⟨S2, g1, g2⟩ := pack_unpS (δ := cntD W') hT (fun v hv => still_norm hv) (fun v hv => normV_real hv) hiv hcnt hS.1 ps ls (goneS (AP T) n) h2 hcont (gone_RS hlen hcnt)
      have hal : Alike Γ' Γ (goneS (AP T) n) (goneS (AP T) n) := ⟨rfl, fun k a b ha hb => by
        rw [goneS_get ha, goneS_get hb]; exact ⟨rfl, rfl, rfl, rfl, fun i hi => by cases hi⟩⟩
      have := unpS_alike (fun k i v hm => ⟨(hl k i v hm).2.1, (hl k i v hm).2.2.1⟩) ps ls _ _ _ _ g1 hS3 hal
      exact ⟨S3, this.RS g2, hk⟩
    · cases h2
  · cases hk
/-- What a loop's head is. -/
def Hd (T : Tab) (keep : List Nat) (head : PS) (Γ' : List (VV (AP T))) (l : List (Nat × Nat × VV (AP T))) (n : Nat) (t : TT T.W (PS.ks head)) (W : St) : Prop :=
  ∃ S1, unpS (A := AP T) (ivR l) head (unpT T.W _ t) (goneS (AP T) n) = some S1 ∧ RS Dl0 Γ' S1 (headS keep W)
theorem headGo_getX {keep : List Nat} {W0 : St} : ∀ (W : St) (j k : Nat), (headGo keep W0 j W)[k]? = (W[k]?).map fun s => (⟨if keep.contains (j + k) then normV keep W0 s.c else .leaf .dead, 0, 0, 0⟩ : Sl)
  | [], j, k => by simp [headGo]
  | s :: W, j, 0 => by simp [headGo]
  | s :: W, j, k + 1 => by
    simp only [headGo, List.getElem?_cons_succ]
    rw [headGo_getX W (j + 1) k, show j + 1 + k = j + (k + 1) by omega]
theorem headS_getX (keep : List Nat) (W : St) (k : Nat) : (headS keep W)[k]? = (W[k]?).map fun s => (⟨if keep.contains k then normV keep W s.c else .leaf .dead, 0, 0, 0⟩ : Sl) := by
  unfold headS
  rw [headGo_getX W 0 k, Nat.zero_add]
theorem headGo_lenX {keep : List Nat} {W0 : St} : ∀ (W : St) (j : Nat), (headGo keep W0 j W).length = W.length
  | [], j => rfl
  | s :: W, j => by simp [headGo, headGo_lenX W (j + 1)]
theorem head_ok (hT : TabOK T) {keep : List Nat} {head : PS} {Γ Γ' : List (VV (AP T))} {l : List (Nat × Nat × VV (AP T))} {S0 S : SS (AP T)} {W : St} {n : Nat} {t : TT T.W (PS.ks head)} (hA : AsOK Γ S0 l Γ') (hS : RS δ Γ' S W)
    (h : (packHead (A := AP T) n Γ' keep (ivN l) head S).bind (packT T.W (PS.ks head)) = some t) : Hd T keep head Γ' l n t W := by
  simp only [Option.bind_eq_some_iff] at h
  obtain ⟨ls, h1, h2⟩ := h
  unfold packHead at h1
  split at h1
  · rename_i hc
    obtain ⟨hn, hall⟩ := hc
    have hcnt : ∀ k w, (headS keep W)[k]? = some w → w.e = Dl0.e k ∧ w.h = Dl0.h k ∧ w.x = Dl0.x k := fun k w hw => by
      rw [headS_getX] at hw
      simp only [Option.map_eq_some_iff] at hw
      obtain ⟨s, _, rfl⟩ := hw
      exact ⟨rfl, rfl, rfl⟩
    have hlen : S.length = (headS keep W).length := by unfold headS; rw [headGo_lenX]; exact hS.1
    have hcont : ∀ k s w, k ∈ head.map (·.1) → S[k]? = some s → (headS keep W)[k]? = some w → (lookR Γ' s.c).real → w.c = dv T Dl0 (normV' (fun k => keep.contains k) S (lookR Γ' s.c)) := fun k s w hk hs hw hre => by
      obtain ⟨p, hp, rfl⟩ := List.mem_map.1 hk
      have := List.all_eq_true.1 hall p hp
      simp only [hs, Bool.and_eq_true] at this
      rw [headS_getX] at hw
      simp only [Option.map_eq_some_iff] at hw
      obtain ⟨w0, hw0, rfl⟩ := hw
      simp only [this.1, if_true]
      have hsl := (hS.2.1 p.1 s w0 hs hw0).2.2.2 hre
      rw [hsl]
      exact headV_dn hS this.2
    obtain ⟨hext, hst, hl⟩ := hA
    have hiv : ∀ k i, (ivN l).lookup k = some i → (ivR l).lookup k = some (.ref i) ∧ i < Γ'.length ∧ still (lookR Γ' (.ref i)) = true := fun k i hki => by
      obtain ⟨v, g1, g2, g3⟩ := iv_look hki
      obtain ⟨g4, _, _, _⟩ := hl k i v g1
      refine ⟨g2, g4, ?_⟩
      simp only [lookR, List.getD_eq_getElem?_getD, List.getElem?_eq_getElem g4, Option.getD_some]
      exact hst _ (List.getElem_mem g4)
    obtain ⟨S2, g1, g2⟩ := pack_unpS (δ := Dl0) hT (fun v hv => still_norm hv) (fun v hv => normV_real hv) hiv hcnt hlen head ls (goneS (AP T) n) h1 hcont (gone_RS (by rw [← hlen, hn]) hcnt)
    exact ⟨S2, by rw [packT_unpT h2]; exact g1, g2⟩
  · cases h1
theorem setAside (hΓ0 : True) {Γ Γ' : List (VV (AP T))} {l : List (Nat × Nat × VV (AP T))} {S : SS (AP T)} {W : St} {ps : PS} (hΓ : ∀ v ∈ Γ, still v = true) (hS : RS δ Γ S W) (h : aside (A := AP T) S ps Γ = some (l, Γ')) : AsOK Γ S l Γ' ∧ RS δ Γ' (setRefs l S) W ∧ (setRefs l S).length = S.length := by
  obtain ⟨⟨ext, rfl⟩, h2, h3⟩ := aside_ok (Γ0 := Γ) hS.2.2 ps Γ l Γ' h ⟨[], by simp⟩ hΓ
  have hS' : RS δ (Γ ++ ext) S W := ⟨hS.1, fun k s w hs hw => by
    have := hS.2.1 k s w hs hw
    simp only [Sx.look] at this ⊢
    rw [lookR_app (hS.2.2 k s · hs)]
    exact this, fun k s i hs hi => by have := hS.2.2 k s i hs hi; simp; omega⟩
  obtain ⟨g1, g2⟩ := setRefs_RS l S (fun k i v hm => by
    obtain ⟨q1, q2, q3, s, q4, q5⟩ := h3 k i v hm
    refine ⟨q1, s, q4, ?_⟩
    rw [q2, q5]
    exact (lookR_app q3).symm) hS' hS' (fun k s s' h1 h2 => by rw [h1] at h2; obtain rfl := Option.some.inj h2; exact ⟨rfl, rfl, rfl⟩)
  exact ⟨⟨⟨ext, rfl⟩, h2, h3⟩, g1, g2⟩
theorem know_ok {c : X} {Γ : List (VV (AP T))} {W : St} {S : SS (AP T)} {v : Bool} {R' : Type} {κ' : Unit → SS (AP T) → Option R'} {r' : R'} {d : DD (AP T)} (hS : RS δ Γ S W) (hd : d = .b v)
    (h3 : ∀ (v : Bool) (n : Nat), c = .t n → d = .b v → ∀ {R' : Type} (κ' : Unit → SS (AP T) → Option R') (r' : R'), knowS (A := AP T) n v S κ' = some r' → ∃ S', RS δ Γ S' W ∧ κ' () S' = some r') (h : knowX (A := AP T) c v S κ' = some r') : ∃ S', RS δ Γ S' W ∧ κ' () S' = some r' := by
  cases c with
  | c x => exact ⟨S, hS, h⟩
  | t n => exact h3 v n rfl hd κ' r' h
/-- The code is run as the symbolic run says. -/
theorem sx_ok (hT : TabOK T) {Er : CallF} {E : List (Ent (AP T))} (hE : ∀ e ∈ E, EntOK T Er e) : ∀ (c : HC) {R : Type} (Γ : List (VV (AP T))) (hΓ : ∀ v ∈ Γ, still v = true) (S : SS (AP T)) (W : St) (δ : Dl) (κ : Ex → SS (AP T) → Option R) (r : R), RS δ Γ S W → sx (A := AP T) E Γ c S κ = some r →
    ∃ ex W' S' δ', ev Er c.c W = some (ex, W') ∧ RS δ' Γ S' W' ∧ κ ex S' = some r := by
  intro c
  induction c with
  | bad => intro R Γ hΓ S W δ κ r hS h; cases h
  | skip => intro R Γ hΓ S W δ κ r hS h; exact ⟨.normal, W, S, δ, rfl, hS, h⟩
  | rg ops =>
    intro R Γ hΓ S W δ κ r hS h
    obtain ⟨S', W', h1, h2, h3⟩ := runOps_snd hT hE ops hS h
    exact ⟨.normal, W', S', δ, by simp only [HC.c, ev, h1, Option.map_some], h2, h3⟩
  | rgd ops =>
    intro R Γ hΓ S W δ κ r hS h
    obtain ⟨S', W', h1, h2, h3⟩ := runOpsD_snd hT hE ops hS h
    exact ⟨.normal, W', S', δ, by simp only [HC.c, ev, h1, Option.map_some], h2, h3⟩
  | seq a b iha ihb =>
    intro R Γ hΓ S W δ κ r hS h
    obtain ⟨ex, W1, S1, δ1, h1, h2, h3⟩ := iha Γ hΓ S W δ _ r hS h
    cases ex with
    | normal =>
      obtain ⟨ex2, W2, S2, δ2, q1, q2, q3⟩ := ihb Γ hΓ S1 W1 δ1 κ r h2 h3
      exact ⟨ex2, W2, S2, δ2, by simp only [HC.c, ev, h1]; exact q1, q2, q3⟩
    | exit id => exact ⟨.exit id, W1, S1, δ1, by simp only [HC.c, ev, h1], h2, h3⟩
    | ret => exact ⟨.ret, W1, S1, δ1, by simp only [HC.c, ev, h1], h2, h3⟩
  | cond x a b iha ihb =>
    intro R Γ hΓ S W δ κ r hS h
    obtain ⟨d, h1, h2, h3⟩ := getD_keep (G := ⟨none, Γ⟩) hS h
    have h1' : (Go.Proofs.Vai.getD x).run W = some (dn T δ d, W) := h1
    cases d with
    | bk t =>
      cases t with
      | true =>
        obtain ⟨ex, W', S', δ', q1, q2, q3⟩ := iha Γ hΓ S W δ κ r hS h2
        exact ⟨ex, W', S', δ', by simp only [HC.c, ev, h1', dn]; exact q1, q2, q3⟩
      | false =>
        obtain ⟨ex, W', S', δ', q1, q2, q3⟩ := ihb Γ hΓ S W δ κ r hS h2
        exact ⟨ex, W', S', δ', by simp only [HC.c, ev, h1', dn]; exact q1, q2, q3⟩
    | b t =>
      have h2' : (bif (show Bool from t) then knowX (A := AP T) x true S fun _ S' => sx (A := AP T) E Γ a S' κ else knowX (A := AP T) x false S fun _ S' => sx (A := AP T) E Γ b S' κ) = some r := h2
      cases t with
      | true =>
        simp only [cond_true] at h2'
        obtain ⟨S1, g1, g2⟩ := know_ok hS rfl h3 h2'
        obtain ⟨ex, W', S', δ', q1, q2, q3⟩ := iha Γ hΓ S1 W δ κ r g1 g2
        exact ⟨ex, W', S', δ', by simp only [HC.c, ev, h1', dn]; exact q1, q2, q3⟩
      | false =>
        simp only [cond_false] at h2'
        obtain ⟨S1, g1, g2⟩ := know_ok hS rfl h3 h2'
        obtain ⟨ex, W', S', δ', q1, q2, q3⟩ := ihb Γ hΓ S1 W δ κ r g1 g2
        exact ⟨ex, W', S', δ', by simp only [HC.c, ev, h1', dn]; exact q1, q2, q3⟩
    | _ => cases h2
  | block id a ih =>
    intro R Γ hΓ S W δ κ r hS h
    obtain ⟨ex, W1, S1, δ1, h1, h2, h3⟩ := ih Γ hΓ S W δ _ r hS h
    cases ex with
    | normal => exact ⟨.normal, W1, S1, δ1, by simp only [HC.c, ev, h1], h2, h3⟩
    | exit id' =>
      simp only at h3
      by_cases hid : id' = id
      · rw [if_pos hid] at h3
        exact ⟨.normal, W1, S1, δ1, by simp only [HC.c, ev, h1]; rw [if_pos hid], h2, h3⟩
      · rw [if_neg hid] at h3
        exact ⟨.exit id', W1, S1, δ1, by simp only [HC.c, ev, h1]; rw [if_neg hid], h2, h3⟩
    | ret => exact ⟨.ret, W1, S1, δ1, by simp only [HC.c, ev, h1], h2, h3⟩
  | loop keep head exits a ih =>
    intro R Γ hΓ S W δ κ r hS h
    obtain ⟨⟨l, Γ'⟩, hq, h⟩ := orFail_some h
    obtain ⟨t0, ht0, h⟩ := orFail_some h
    obtain ⟨hA, hS1, hl1⟩ := setAside trivial hΓ hS hq
    have hst := hA.2.1
    have hd0 := head_ok (keep := keep) (head := head) (n := S.length) hT hA hS1 ht0
    obtain ⟨x, hx, hk⟩ := Option.bind_eq_some_iff.1 (show Option.bind (iter _ LF t0) (fun x => xcase T.W (xsOf exits) x (opn (A := AP T) (ivV l) S.length exits κ)) = some r from h)
    have key : ∀ (f : TT T.W (PS.ks head) → Option (TT T.W (PS.ks head) ⊕ XX T.W (xsOf exits))), (∀ t, f t = orFail (A := AP T) (R := TT T.W (PS.ks head) ⊕ XX T.W (xsOf exits)) 195 (fun S1 => sx (A := AP T) E Γ' a S1 fun ex S' => match ex with
          | .normal => orFail (A := AP T) 196 (fun t' => some (.inl t')) ((packHead (A := AP T) S.length Γ' keep (ivN l) head S').bind (packT T.W (PS.ks head)))
          | ex => orFail (A := AP T) 197 (fun x => some (.inr x)) (packExs (A := AP T) S.length Γ' (ivN l) (xsOf exits) ex S' 0 exits)) (unpS (A := AP T) (ivR l) head (unpT T.W (PS.ks head) t) (goneS (AP T) S.length))) →
        ∀ (n : Nat) (t : TT T.W (PS.ks head)) (W : St), Hd T keep head Γ' l S.length t W → iter f n t = some x →
        ∃ ex W' S' δ', evLoop (ev Er a.c) keep n W = some (ex, W') ∧ RS δ' Γ' S' W' ∧ packExs (A := AP T) S.length Γ' (ivN l) (xsOf exits) ex S' 0 exits = some x := by
      intro f hf n
      induction n with
      | zero => intro t W _ h; cases h
      | succ n ihn =>
        intro t W hd hi
        obtain ⟨S1, g1, g2⟩ := hd
        have hft := hf t
        rw [g1] at hft
        simp only [iter] at hi
        cases hy : f t with
        | none => rw [hy] at hi; cases hi
        | some y =>
          rw [hy] at hi hft
          obtain ⟨ex, W', S', δ', e1, e2, e3⟩ := ih Γ' hst S1 (headS keep W) Dl0 _ y g2 hft.symm
          cases ex with
          | normal =>
            simp only at e3
            obtain ⟨t', ht', hyt⟩ := orFail_some e3
            obtain rfl : Sum.inl t' = y := Option.some.inj hyt
            obtain ⟨ex2, W2, S2, δ2, r1, r2, r3⟩ := ihn t' W' (head_ok hT hA e2 ht') hi
            exact ⟨ex2, W2, S2, δ2, by simp only [evLoop, e1]; exact r1, r2, r3⟩
          | exit id =>
            simp only at e3
            obtain ⟨x', hx', hyx⟩ := orFail_some e3
            obtain rfl : Sum.inr x' = y := Option.some.inj hyx
            obtain rfl : x' = x := Option.some.inj hi
            exact ⟨.exit id, W', S', δ', by simp only [evLoop, e1], e2, hx'⟩
          | ret =>
            simp only at e3
            obtain ⟨x', hx', hyx⟩ := orFail_some e3
            obtain rfl : Sum.inr x' = y := Option.some.inj hyx
            obtain rfl : x' = x := Option.some.inj hi
            exact ⟨.ret, W', S', δ', by simp only [evLoop, e1], e2, hx'⟩
    obtain ⟨ex, W', S', δ', q1, q2, q3⟩ := key _ (fun t => rfl) LF t0 W hd0 hx
    obtain ⟨S3, q4, q5⟩ := exit_ok hT hA q2 q3 hk
    exact ⟨ex, W', S3, _, q1, q4, q5⟩
  | exit id => intro R Γ hΓ S W δ κ r hS h; exact ⟨.exit id, W, S, δ, rfl, hS, h⟩
  | ret => intro R Γ hΓ S W δ κ r hS h; exact ⟨.ret, W, S, δ, rfl, hS, h⟩
  | jn inv exits a ih =>
    intro R Γ hΓ S W δ κ r hS h
    obtain ⟨⟨l, Γ'⟩, hq, h⟩ := orFail_some h
    obtain ⟨hA, hS1, hl1⟩ := setAside trivial hΓ hS hq
    obtain ⟨x, hx, hk⟩ := Option.bind_eq_some_iff.1 (show Option.bind (sx (A := AP T) E Γ' a (setRefs l S) _) (fun x => xcase T.W (xsOf exits) x (opn (A := AP T) (ivV l) S.length exits κ)) = some r from h)
    obtain ⟨ex, W', S', δ', q1, q2, q3⟩ := ih Γ' hA.2.1 _ W δ _ x hS1 hx
    obtain ⟨y, hy, hxy⟩ := orFail_some q3
    obtain rfl : y = x := Option.some.inj hxy
    obtain ⟨S3, q4, q5⟩ := exit_ok hT hA q2 hy hk
    exact ⟨ex, W', S3, _, q1, q4, q5⟩
end
end Go.Proofs.Vai

namespace Go.Proofs.Vai
open Go
set_option linter.unusedVariables false

section
variable {T : Tab} {δ : Dl}
/-! ### Results -/
theorem Snd.resP {R : Type} (hT : TabOK T) {x : Option (Bool × Nat) × Nat} : Snd (R := R) ⟨none, []⟩ δ (resP' (A := AP T) x) (Go.Proofs.Vai.resP x) (VR δ) := by
  obtain ⟨o, k⟩ := x
  cases o with
  | none =>
    simp only [resP', Go.Proofs.Vai.resP]
    refine Snd.rd fun s r hr => ?_
    split
    · rename_i k' n hc
      rw [hr.leaf hc]
      simp only [dn]
      refine Snd.rd fun s' r' hr' => Snd.iff_ (fun h => by rw [hr'.2.2.1, h]) fun _ => ?_
      split
      · rename_i ds hc'
        rw [hr'.box hc']
        exact Snd.wrV trivial (hr'.up2 fun _ => by simp only [dv, dn]) (Snd.okk (VR.box rfl))
      · exact Snd.nno
    · rename_i hne
      refine Snd.iffL fun hR => ?_
      have hre := isR_real hR
      have := hr.2.2.2 hre
      rw [this]
      have htk := Snd.takeV (R := R) (G := ⟨none, []⟩) (δ := δ) hT (x := .t k)
      cases hsc : s.c with
      | leaf d =>
        cases d with
        | bp k' off n =>
          cases off with
          | zero => exact (hne k' n hsc).elim
          | succ off => simp only [dv, dn]; exact htk
        | _ => simp only [dv, dn]; exact htk
      | agg ds => simp only [dv]; exact htk
      | box ds => simp only [dv]; exact htk
      | gone => rw [hsc] at hre; exact hre.elim
      | ref i => rw [hsc] at hre; exact hre.elim
  | some q =>
    obtain ⟨ag, m⟩ := q
    simp only [resP', Go.Proofs.Vai.resP]
    refine Snd.rd fun s r hr => ?_
    split
    · rename_i ds hc
      rw [hr.box hc]
      simp only
      refine Snd.iff_ (fun h => by simpa using h) fun _ => ?_
      exact Snd.wrV trivial (hr.up2 fun _ => by simp only [dv, dn]) Snd.pick
    · exact Snd.nno
theorem Snd.resPs {R : Type} (hT : TabOK T) : ∀ {xs : List (Option (Bool × Nat) × Nat)}, Snd (R := R) ⟨none, []⟩ δ (resPs' (A := AP T) xs) (Go.Proofs.Vai.resPs xs) (VsR δ)
  | [] => Snd.okk trivial
  | x :: xs => by
    simp only [resPs', Go.Proofs.Vai.resPs]
    exact Snd.bnd (Snd.resP hT) fun a a' h => Snd.bnd (Snd.resPs hT) fun b b' h2 => Snd.okk ⟨h, h2⟩
theorem Snd.finP {R : Type} (hT : TabOK T) {F : HFn} : Snd (R := R) ⟨none, []⟩ δ (finP' (A := AP T) F) (Go.Proofs.Vai.finP F.f) (fun p q => VsR δ p.1 q.1 ∧ VsR δ p.2 q.2) := by
  unfold finP' Go.Proofs.Vai.finP
  refine Snd.bnd (Snd.resPs hT) fun a a' h => Snd.bnd (r1 := VsR δ) ?_ fun b b' h2 => Snd.okk ⟨h, h2⟩
  simp only [HFn.f]
  cases F.io with
  | none => exact Snd.okk trivial
  | some k =>
    simp only [ioP', ioP]
    exact Snd.bnd (Snd.resP hT) fun a a' h => Snd.okk ⟨h, trivial⟩
/-! ### What is plain -/
mutual
theorem unpD_plain : ∀ (c : DC) (ls : List T.Lf) (p : DD (AP T) × List T.Lf), unpD (A := AP T) c ls = some p → c.plain = true → p.1.plain = true
  | .pt cs, ls, p, h, hc => by
    simp only [unpD] at h
    split at h
    · rename_i q hq
      obtain rfl := Option.some.inj h
      exact unpDs_plain cs ls q hq hc
    · cases h
  | .fn f cs, ls, p, h, hc => by
    simp only [unpD] at h
    split at h
    · rename_i q hq
      obtain rfl := Option.some.inj h
      exact unpDs_plain cs ls q hq hc
    · cases h
  | .i k, ls, p, h, hc => by
    cases ls with
    | nil => simp [unpD] at h
    | cons l r => cases l <;> simp [unpD] at h <;> (subst h; simp [DD.plain])
  | .b, ls, p, h, hc => by
    cases ls with
    | nil => simp [unpD] at h
    | cons l r => cases l <;> simp [unpD] at h <;> (subst h; simp [DD.plain])
  | .bk t, ls, p, h, hc => by simp [unpD] at h; subst h; simp [DD.plain]
  | .s, ls, p, h, hc => by
    cases ls with
    | nil => simp [unpD] at h
    | cons l r => cases l <;> simp [unpD] at h <;> (subst h; simp [DD.plain])
  | .nilp, ls, p, h, hc => by simp [unpD] at h; subst h; simp [DD.plain]
  | .sl ow b fg, ls, p, h, hc => by
    cases ls with
    | nil => simp [unpD] at h
    | cons l r => cases l <;> simp [unpD] at h <;> (obtain ⟨_, h⟩ := h; subst h; simp [DD.plain])
  | .nl ow w, ls, p, h, hc => by simp [unpD] at h; subst h; simp [DD.plain]
  | .mp k v, ls, p, h, hc => by
    cases ls with
    | nil => simp [unpD] at h
    | cons l r => cases l <;> simp [unpD] at h <;> (obtain ⟨_, h⟩ := h; subst h; simp [DD.plain])
  | .mn, ls, p, h, hc => by simp [unpD] at h; subst h; simp [DD.plain]
  | .al _ _ _ _, ls, p, h, hc => by simp [DC.plain] at hc
  | .bp _ _ _, ls, p, h, hc => by simp [DC.plain] at hc
  | .el _ _ _ _ _, ls, p, h, hc => by simp [DC.plain] at hc
  | .und, ls, p, h, hc => by simp [unpD] at h; subst h; simp [DD.plain]
  | .dead, ls, p, h, hc => by simp [unpD] at h; subst h; simp [DD.plain]
theorem unpDs_plain : ∀ (cs : List DC) (ls : List T.Lf) (p : List (DD (AP T)) × List T.Lf), unpDs (A := AP T) cs ls = some p → DC.plains cs = true → DD.plains p.1 = true
  | [], ls, p, h, hc => by simp only [unpDs, Option.some.injEq] at h; subst h; rfl
  | c :: cs, ls, p, h, hc => by
    simp only [unpDs] at h
    simp only [DC.plains, Bool.and_eq_true] at hc
    split at h
    · rename_i q hq
      split at h
      · rename_i q2 hq2
        obtain rfl := Option.some.inj h
        simp only [DD.plains, Bool.and_eq_true]
        exact ⟨unpD_plain c ls q hq hc.1, unpDs_plain cs q.2 q2 hq2 hc.2⟩
      · cases h
    · cases h
end
theorem cellsOf_plain {fg : Fg} : ∀ {j : Nat} {cs : List CK} {ls : List T.Lf} {ds : List (DD (AP T))}, cellsOf (A := AP T) fg j cs ls = some ds → DD.plains ds = true
  | j, [], [], ds, h => by simp only [cellsOf] at h; obtain rfl := Option.some.inj h; rfl
  | j, [], _ :: _, ds, h => by simp [cellsOf] at h
  | j, _ :: _, [], ds, h => by simp [cellsOf] at h
  | j, c :: cs, l :: ls, ds, h => by
    simp only [cellsOf] at h
    split at h
    · rename_i d ds' h1 h2
      obtain rfl := Option.some.inj h
      simp only [DD.plains, Bool.and_eq_true]
      refine ⟨?_, cellsOf_plain h2⟩
      unfold cellK at h1
      split at h1
      · obtain rfl := Option.some.inj h1; simp [DD.plain]
      · obtain rfl := Option.some.inj h1; simp [DD.plain]
      · obtain rfl := Option.some.inj h1; simp [DD.plain]
      · split at h1
        · obtain rfl := Option.some.inj h1; simp [DD.plain]
        · cases h1
      · cases h1
    · cases h
theorem unpV_still {c : VC} {ls : List T.Lf} {p : VV (AP T) × List T.Lf} (h : unpV (A := AP T) c ls = some p) (hc : c.plain = true) : still p.1 = true := by
  unfold unpV at h
  split at h
  · split at h
    · rename_i q hq; obtain rfl := Option.some.inj h; exact unpD_plain _ _ q hq hc
    · cases h
  · split at h
    · rename_i q hq; obtain rfl := Option.some.inj h; exact unpDs_plain _ _ q hq hc
    · cases h
  · split at h
    · rename_i q hq; obtain rfl := Option.some.inj h; exact unpDs_plain _ _ q hq hc
    · cases h
  · split at h
    · simp only [Option.map_eq_some_iff] at h; obtain ⟨ds, hd, rfl⟩ := h; exact cellsOf_plain hd
    · cases h
  · split at h
    · simp only [Option.map_eq_some_iff] at h; obtain ⟨ds, hd, rfl⟩ := h
      have := cellsOf_plain hd
      simp only [still, DD.plain]; exact this
    · cases h
  · split at h
    · simp only [Option.map_eq_some_iff] at h; obtain ⟨ds, hd, rfl⟩ := h; exact cellsOf_plain hd
    · cases h
  · cases h
theorem unpVs_still : ∀ {cs : List VC} {ls : List T.Lf} {vs : List (VV (AP T))} {l : List T.Lf}, unpVs (A := AP T) cs ls = some (vs, l) → cs.all VC.plain = true → ∀ v ∈ vs, still v = true
  | [], ls, vs, l, h, hc => by simp only [unpVs, Option.some.injEq, Prod.mk.injEq] at h; obtain ⟨rfl, rfl⟩ := h; intro v hv; simp at hv
  | c :: cs, ls, vs, l, h, hc => by
    simp only [List.all_cons, Bool.and_eq_true] at hc
    simp only [unpVs] at h
    split at h
    · rename_i q hq
      split at h
      · rename_i q2 hq2
        simp only [Option.some.injEq, Prod.mk.injEq] at h
        obtain ⟨rfl, rfl⟩ := h
        intro v hv
        rcases List.mem_cons.1 hv with rfl | hv
        · exact unpV_still hq hc.1
        · exact unpVs_still hq2 hc.2 v hv
      · cases h
    · cases h
theorem still_map {vs : List (VV (AP T))} (h : ∀ v ∈ vs, still v = true) (δ δ' : Dl) : vs.map (dv T δ) = vs.map (dv T δ') := List.map_congr_left fun v hv => (still_dv (h v hv) δ δ').2
/-! ### A function -/
theorem packVs_app : ∀ {a b : List VC} {rs ios : List (VV (AP T))} {ls : List T.Lf}, packVs (A := AP T) (a ++ b) (rs ++ ios) = some ls → a.length = rs.length → ∃ l1 l2, packVs (A := AP T) a rs = some l1 ∧ packVs (A := AP T) b ios = some l2 ∧ ls = l1 ++ l2
  | [], b, [], ios, ls, h, _ => ⟨[], ls, rfl, h, rfl⟩
  | [], b, _ :: _, ios, ls, h, hl => by simp at hl
  | _ :: _, b, [], ios, ls, h, hl => by simp at hl
  | c :: a, b, r :: rs, ios, ls, h, hl => by
    simp only [List.cons_append, packVs] at h
    split at h
    · rename_i x y h1 h2
      obtain rfl := Option.some.inj h
      obtain ⟨l1, l2, e1, e2, rfl⟩ := packVs_app h2 (by simpa using hl)
      exact ⟨x ++ l1, l2, by simp only [packVs, h1, e1], e2, by rw [List.append_assoc]⟩
    · cases h
theorem packRes_some {xs : List (List K)} {rs ios : List (VV (AP T))} {x : XX T.W xs} : ∀ (res : List (List VC × List VC)) (e0 : Nat), packRes (A := AP T) xs rs ios e0 res = some x →
    ∃ (q : Nat) (p : List VC × List VC) (ls : List T.Lf) (t : TT T.W (xs.getD q [])), e0 ≤ q ∧ res[q - e0]? = some p ∧ (p.1 ++ p.2).all VC.plain = true ∧ p.1.length = rs.length ∧ packVs (A := AP T) (p.1 ++ p.2) (rs ++ ios) = some ls ∧ packT T.W _ ls = some t ∧ injX T.W xs q t = some x
  | [], e0, h => by simp [packRes] at h
  | p :: res, e0, h => by
    simp only [packRes] at h
    split at h
    · rename_i t ht
      simp only [Option.bind_eq_some_iff] at ht
      obtain ⟨ls, h1, h2⟩ := ht
      split at h1
      · rename_i hc
        simp only [Bool.and_eq_true, beq_iff_eq] at hc
        exact ⟨e0, p, ls, t, Nat.le_refl _, by simp, hc.1, hc.2, h1, h2, h⟩
      · cases h1
    · obtain ⟨q, p', ls, t, h0, h1, h2, h3, h4, h5, h6⟩ := packRes_some res (e0 + 1) h
      refine ⟨q, p', ls, t, by omega, ?_, h2, h3, h4, h5, h6⟩
      rw [show q - e0 = (q - (e0 + 1)) + 1 by omega]
      simpa using h1
theorem unpVs_real : ∀ {cs : List VC} {ls : List T.Lf} {vs : List (VV (AP T))} {l : List T.Lf}, unpVs (A := AP T) cs ls = some (vs, l) → allReal vs ∧ vs.length = cs.length
  | [], ls, vs, l, h => by simp only [unpVs, Option.some.injEq, Prod.mk.injEq] at h; obtain ⟨rfl, rfl⟩ := h; exact ⟨fun v hv => by simp at hv, rfl⟩
  | c :: cs, ls, vs, l, h => by
    simp only [unpVs] at h
    split at h
    · rename_i q hq
      split at h
      · rename_i q2 hq2
        simp only [Option.some.injEq, Prod.mk.injEq] at h
        obtain ⟨rfl, rfl⟩ := h
        obtain ⟨h1, h2⟩ := unpVs_real hq2
        exact ⟨fun v hv => (List.mem_cons.1 hv).elim (fun e => e ▸ unpV_real hq) (h1 v), by simp [h2]⟩
      · cases h
    · cases h
theorem start_RS {F : HFn} {vs : List (VV (AP T))} (hr : allReal vs) : RS Dl0 [] (start' (A := AP T) F vs) (startS F.f (vs.map (dv T Dl0))) := by
  have hget : ∀ k s, (start' (A := AP T) F vs)[k]? = some s → (∃ v, vs[k]? = some v ∧ s = ⟨v, 0, 0, 0⟩) ∨ (vs.length ≤ k ∧ s = ⟨.leaf .und, 0, 0, 0⟩) := fun k s hs => by
    unfold start' at hs
    rcases Nat.lt_or_ge k vs.length with hk | hk
    · rw [List.getElem?_append_left (by simpa using hk), List.getElem?_map] at hs
      simp only [Option.map_eq_some_iff] at hs
      obtain ⟨v, hv, rfl⟩ := hs
      exact .inl ⟨v, hv, rfl⟩
    · rw [List.getElem?_append_right (by simpa using hk), List.getElem?_replicate] at hs
      split at hs
      · exact .inr ⟨hk, (Option.some.inj hs).symm⟩
      · cases hs
  refine ⟨by simp [start', startS, HFn.f], fun k s w hs hw => ?_, fun k s i hs hi => ?_⟩
  · rcases hget k s hs with ⟨v, hv, rfl⟩ | ⟨hk, rfl⟩
    · unfold startS at hw
      have hk : k < vs.length := (List.getElem?_eq_some_iff.1 hv).1
      rw [List.getElem?_append_left (by simpa using hk), List.getElem?_map, List.getElem?_map, hv] at hw
      simp only [Option.map_some, Option.some.injEq] at hw
      subst hw
      have hv' := hr v (List.mem_of_getElem? hv)
      refine ⟨rfl, rfl, rfl, fun _ => ?_⟩
      simp only [Sx.look]
      rw [lookR_real hv']
    · unfold startS at hw
      rw [List.getElem?_append_right (by simpa using hk), List.getElem?_replicate] at hw
      split at hw
      · obtain rfl := Option.some.inj hw
        exact ⟨rfl, rfl, rfl, fun _ => by simp only [Sx.look, lookR, dv, dn, Sl.nil]⟩
      · cases hw
  · rcases hget k s hs with ⟨v, hv, rfl⟩ | ⟨_, rfl⟩
    · simp only at hi
      have := hr v (List.mem_of_getElem? hv)
      rw [hi] at this
      exact this.elim
    · cases hi
/-- An entry holds of what calls answer, when the entries of what it calls do. -/
theorem ent_ok (hT : TabOK T) {Tb : Nat → Option Go.Proofs.Vai.Tb} {n : Nat} {E : List (Ent (AP T))} (hE : ∀ e ∈ E, EntOK T (callN Tb n) e) {e : Ent (AP T)} {F : HFn} (hF : Tb e.f = some (.fn F.f)) (h : ∀ t, sxFn (A := AP T) E F e.args e.res t = e.fn t) : EntOK T (callN Tb (n + 1)) e := by
  intro δ t x vs hx hvs q tt hq
  have h1 := h t
  rw [hx] at h1
  unfold sxFn at h1
  rw [hvs] at h1
  simp only at h1
  split at h1
  · rename_i hc
    obtain ⟨hlen, hpl⟩ := hc
    obtain ⟨hr, hvl⟩ := unpVs_real hvs
    have hst := unpVs_still hvs hpl
    obtain ⟨ex, W', S', δ', e1, e2, e3⟩ := sx_ok hT hE F.code [] (fun v hv => by simp at hv) _ _ Dl0 _ x (start_RS (F := F) hr) h1
    have hfin : ∃ rs ios S2, (Go.Proofs.Vai.finP F.f).run W' = some ((rs.map (dv T δ'), ios.map (dv T δ')), S2) ∧ (ex = .normal ∨ ex = .ret) ∧ allReal rs ∧ allReal ios ∧ packRes (A := AP T) (resXs e.res) rs ios 0 e.res = some x := by
      have key : ∀ {r : XX T.W (resXs e.res)}, finP' (A := AP T) F S' (fun p _ => orFail (A := AP T) 204 (fun x => some x) (packRes (A := AP T) (resXs e.res) p.1 p.2 0 e.res)) = some r → ∃ rs ios S2, (Go.Proofs.Vai.finP F.f).run W' = some ((rs.map (dv T δ'), ios.map (dv T δ')), S2) ∧ allReal rs ∧ allReal ios ∧ packRes (A := AP T) (resXs e.res) rs ios 0 e.res = some r := fun {r} hk => by
        obtain ⟨p, p', S2, W2, q1, q2, q3, q4⟩ := Snd.finP hT S' W' _ r e2 hk
        obtain ⟨y, hy, hyx⟩ := orFail_some q4
        obtain rfl : y = r := Option.some.inj hyx
        obtain ⟨g1, g2⟩ := VsR_eq q2.1
        obtain ⟨g3, g4⟩ := VsR_eq q2.2
        refine ⟨p.1, p.2, W2, ?_, g2, g4, hy⟩
        rw [← g1, ← g3]
        exact q1
      cases ex with
      | normal => obtain ⟨rs, ios, S2, a, b, c, d⟩ := key e3; exact ⟨rs, ios, S2, a, .inl rfl, b, c, d⟩
      | ret => obtain ⟨rs, ios, S2, a, b, c, d⟩ := key e3; exact ⟨rs, ios, S2, a, .inr rfl, b, c, d⟩
      | exit id => cases e3
    obtain ⟨rs, ios, S2, f1, f2, f3, f4, f5⟩ := hfin
    obtain ⟨q', p, ls, t', _, g1, g2, g3, g4, g5, g6⟩ := packRes_some e.res 0 f5
    rw [Nat.sub_zero] at g1
    -- the way out is the one told
    have hqq : ∃ (p : List VC × List VC) (ls : List T.Lf), e.res[q]? = some p ∧ (p.1 ++ p.2).all VC.plain = true ∧ p.1.length = rs.length ∧ packVs (A := AP T) (p.1 ++ p.2) (rs ++ ios) = some ls ∧ unpT T.W _ tt = ls := by
      have := (xcase_inj g6).2 (R := Nat × List T.Lf) (fun q t => (q, unpT T.W _ t))
      have h2 := (xcase_inj hq).2 (R := Nat × List T.Lf) (fun q t => (q, unpT T.W _ t))
      rw [show xcase T.W (resXs e.res) x (fun q t => (q, unpT T.W ((resXs e.res).getD q []) t)) = xcase T.W e.xs x (fun q t => (q, unpT T.W (e.xs.getD q []) t)) from rfl, h2] at this
      simp only [Prod.mk.injEq] at this
      obtain ⟨rfl, h3⟩ := this
      exact ⟨p, ls, g1, g2, g3, g4, by rw [h3]; exact packT_unpT g5⟩
    obtain ⟨p, ls, k1, k2, k3, k4, k5⟩ := hqq
    obtain ⟨l1, l2, m1, m2, rfl⟩ := packVs_app k4 k3
    obtain ⟨_, rs', n1, n2, n3⟩ := packVs_unp hT l2 m1
    obtain ⟨_, ios', o1, o2, o3⟩ := packVs_unp hT [] m2
    rw [List.append_nil] at o1
    rw [List.all_append, Bool.and_eq_true] at k2
    refine ⟨p, rs', l2, ios', k1, by rw [k5]; exact n1, o1, n2, o2, ?_⟩
    have hrs := still_map (unpVs_still n1 k2.1)
    have hios := still_map (unpVs_still o1 k2.2)
    rw [still_map hst δ Dl0, hrs δ δ', hios δ δ', n3, o3]
    simp only [callN, hF]
    rw [if_pos (by unfold okArgs; simp only [List.length_map, beq_iff_eq]; rw [hvl]; exact hlen)]
    have e1' : ev (callN Tb n) F.f.code (startS F.f (vs.map (dv T Dl0))) = some (ex, W') := e1
    rw [e1']
    rcases f2 with rfl | rfl
    · simp only [f1, Option.map_some]
    · simp only [f1, Option.map_some]
  · cases h1
end
end Go.Proofs.Vai

namespace Go.Proofs.Vai
open Go
set_option linter.unusedVariables false

/-! ### What comes in, as plain data -/
section
variable (T : Tab)
/-- Numbers in their kind's range, sizes within bounds. -/
def wfCell (f : (b : Nat) → T.W b → Prop) (c : CK) (l : T.Lf) : Prop := match c, l with
  | .i k, .i n => (Lit.int k n).wf = true
  | .s, .s x => x.size ≤ maxLen
  | .sl _, .l b xs => xs.length ≤ maxLen ∧ ∀ y ∈ xs, f b y
  | _, _ => True
def wfCells (f : (b : Nat) → T.W b → Prop) : List CK → List T.Lf → Prop
  | c :: cs, l :: ls => wfCell T f c l ∧ wfCells f cs ls
  | _, _ => True
def wfF : Nat → (b : Nat) → T.W b → Prop
  | 0, _, _ => True
  | n + 1, b, x => wfCells T (wfF n) (T.kinds b) (splitP T b x)
def wfW (b : Nat) (x : T.W b) : Prop := wfF T (b + 1) b x
variable (P : Program) (tb : TypeId → Nat)
def tyCK : Nat → TypeId → Option (List CK)
  | 0, _ => none
  | n + 1, t => match P.underlying t with
    | some .bool => some [.b]
    | some (.int k) => some [.i k]
    | some .string => some [.s]
    | some (.slice e) => if tyCK n e = some (T.kinds (tb e)) ∧ P.cellsOf e = (T.kinds (tb e)).length ∧ T.kinds (tb e) ≠ [] then some [.sl (tb e)] else none
    | some (.struct fs) => (fs.toList.mapM fun f => tyCK n f.type).map List.flatten
    | _ => none
def patT (n : Nat) (t : TypeId) : Option VC := match P.underlying t with
  | some (.struct _) => if tyCK T P tb n t = some (T.kinds (tb t)) ∧ T.kinds (tb t) ≠ [] then some (.row (tb t) .v) else none
  | some (.int k) => some (.leaf (.i k))
  | some .bool => some (.leaf .b)
  | some .string => some (.leaf .s)
  | some (.slice e) => if tyCK T P tb n t = some [.sl (tb e)] then some (.leaf (.sl false (tb e) .v)) else none
  | _ => none
def wfArgs : List VC → List T.Lf → Prop
  | .row _ _ :: ps, .w b x :: ls => wfW T b x ∧ wfArgs ps ls
  | .leaf (.sl _ _ _) :: ps, .l b xs :: ls => (xs.length ≤ maxLen ∧ ∀ y ∈ xs, wfW T b y) ∧ wfArgs ps ls
  | .leaf (.i k) :: ps, .i n :: ls => (Lit.int k n).wf = true ∧ wfArgs ps ls
  | .leaf .s :: ps, .s x :: ls => x.size ≤ maxLen ∧ wfArgs ps ls
  | _ :: ps, _ :: ls => wfArgs ps ls
  | _, _ => True
end
section
variable {T : Tab} {P : Program} {tb : TypeId → Nat} {δ : Dl}
theorem wfCells_congr {f g : (b : Nat) → T.W b → Prop} {N : Nat} (h : ∀ b, b < N → f b = g b) : ∀ (cs : List CK) (ls : List T.Lf), Fits T cs ls → (∀ b, CK.sl b ∈ cs → b < N) → wfCells T f cs ls = wfCells T g cs ls
  | [], ls, _, _ => by simp [wfCells]
  | c :: cs, [], _, _ => by simp [wfCells]
  | c :: cs, l :: ls, hf, hb => by
    simp only [wfCells]
    rw [wfCells_congr h cs ls hf.2 fun b hb' => hb b (List.mem_cons_of_mem _ hb')]
    congr 1
    have h1 := hf.1
    unfold wfCell
    unfold fit1 at h1
    split
    all_goals try rfl
    rename_i b b' xs
    simp only at h1
    subst h1
    rw [h _ (hb _ List.mem_cons_self)]
theorem wfF_stable (hT : TabOK T) : ∀ (b n m : Nat), b < n → b < m → wfF T n b = wfF T m b := by
  intro b
  induction b using Nat.strongRecOn with
  | _ b ih =>
    intro n m hn hm
    obtain ⟨n, rfl⟩ : ∃ k, n = k + 1 := ⟨n - 1, by omega⟩
    obtain ⟨m, rfl⟩ : ∃ k, m = k + 1 := ⟨m - 1, by omega⟩
    funext x
    simp only [wfF]
    by_cases he : splitP T b x = []
    · rw [he]; cases T.kinds b <;> simp [wfCells]
    · exact wfCells_congr (N := b) (fun b' hb' => ih b' hb' n m (by omega) (by omega)) _ _ (split_fits he) fun b' hb' => hT.lt _ _ hb'
theorem wfW_eq (hT : TabOK T) (b : Nat) (x : T.W b) : wfW T b x = wfCells T (wfW T) (T.kinds b) (splitP T b x) := by
  show wfF T (b + 1) b x = _
  rw [wfF]
  by_cases he : splitP T b x = []
  · rw [he]; cases T.kinds b <;> simp [wfCells]
  · exact wfCells_congr (N := b) (fun b' hb' => by funext y; rw [wfF_stable hT b' b (b' + 1) hb' (by omega)]; rfl) _ _ (split_fits he) fun b' hb' => hT.lt _ _ hb'
theorem fit_one {c : CK} {l : T.Lf} (h : fit1 T c l) : ∃ x, ofLf T.W (ckK c) l = some x := by
  unfold fit1 at h
  split at h
  · exact ⟨_, rfl⟩
  · exact ⟨_, rfl⟩
  · exact ⟨_, rfl⟩
  · subst h; exact ⟨_, by simp only [ckK, ofLf, dite_true]; rfl⟩
  · exact h.elim
theorem packT_cons {k : K} {ks : List K} {l : T.Lf} {ls : List T.Lf} {x : kty T.W k} {t : TT T.W ks} (h1 : ofLf T.W k l = some x) (h2 : packT T.W ks ls = some t) : ∃ t', packT T.W (k :: ks) (l :: ls) = some t' := by
  cases ks with
  | nil =>
    cases ls with
    | nil => exact ⟨x, h1⟩
    | cons => simp [packT] at h2
  | cons k' ks => exact ⟨(x, t), by simp only [packT, h1, h2]⟩
theorem fit_go : ∀ (cs : List CK) (ls : List T.Lf), Fits T cs ls → ∃ t, packT T.W (cs.map ckK) ls = some t
  | [], [], _ => ⟨(), rfl⟩
  | [], _ :: _, h => h.elim
  | _ :: _, [], h => h.elim
  | c :: cs, l :: ls, h => by
    obtain ⟨x, hx⟩ := fit_one h.1
    obtain ⟨y, hy⟩ := fit_go cs ls h.2
    exact packT_cons hx hy
theorem fit_pack (cs : List CK) (ls : List T.Lf) (h : Fits T cs ls) : ∃ t, packT T.W (cs.map ckK) ls = some t ∧ unpT T.W (cs.map ckK) t = ls := by
  obtain ⟨t, ht⟩ := fit_go cs ls h
  exact ⟨t, ht, packT_unpT ht⟩
/-- A row out of leaves that fit. -/
theorem row_ex (hT : TabOK T) {b : Nat} {ls : List T.Lf} (hk : T.kinds b ≠ []) (h : Fits T (T.kinds b) ls) : ∃ x : T.W b, splitP T b x = ls := by
  obtain ⟨t, h1, h2⟩ := fit_pack _ _ h
  obtain ⟨x, hx⟩ := hT.mkt b t hk
  exact ⟨x, by rw [split_eq, hT.un b t x hx]; exact h2⟩
theorem encCells_v (f : (b : Nat) → Fg → T.W b → List D) : ∀ (j j' : Nat) (cs : List CK) (ls : List T.Lf), encCells T f .v j cs ls = encCells T f .v j' cs ls
  | j, j', [], ls => by simp [encCells]
  | j, j', c :: cs, [] => by simp [encCells]
  | j, j', c :: cs, l :: ls => by
    simp only [encCells]
    rw [fgAt_v, fgAt_v, encCells_v f (j + 1) (j' + 1) cs ls]
theorem encCells_app (f : (b : Nat) → Fg → T.W b → List D) : ∀ (cs cs' : List CK) (ls ls' : List T.Lf), Fits T cs ls → encCells T f .v 0 (cs ++ cs') (ls ++ ls') = encCells T f .v 0 cs ls ++ encCells T f .v 0 cs' ls'
  | [], cs', [], ls', _ => by simp [encCells]
  | [], cs', _ :: _, ls', h => h.elim
  | _ :: _, cs', [], ls', h => h.elim
  | c :: cs, cs', l :: ls, ls', h => by
    simp only [List.cons_append, encCells]
    rw [encCells_v f (0 + 1) 0, encCells_app f cs cs' ls ls' h.2, encCells_v f (0 + 1) 0 cs ls]
theorem fits_app : ∀ {cs cs' : List CK} {ls ls' : List T.Lf}, Fits T cs ls → Fits T cs' ls' → Fits T (cs ++ cs') (ls ++ ls')
  | [], cs', [], ls', _, h => h
  | [], _, _ :: _, _, h, _ => h.elim
  | _ :: _, _, [], _, h, _ => h.elim
  | c :: cs, cs', l :: ls, ls', h, h' => ⟨h.1, fits_app h.2 h'⟩
theorem wfCells_app (f : (b : Nat) → T.W b → Prop) : ∀ {cs cs' : List CK} {ls ls' : List T.Lf}, Fits T cs ls → wfCells T f cs ls → wfCells T f cs' ls' → wfCells T f (cs ++ cs') (ls ++ ls')
  | [], cs', [], ls', _, _, h => h
  | [], _, _ :: _, _, h, _, _ => h.elim
  | _ :: _, _, [], _, h, _, _ => h.elim
  | c :: cs, cs', l :: ls, ls', h, h1, h2 => ⟨h1.1, wfCells_app f h.2 h1.2 h2⟩
/-- Data of a type are the cells of leaves. -/
theorem sh_enc (hT : TabOK T) : ∀ (n : Nat) (t : TypeId) (ds : List D) (ks : List CK), Sh P n t ds → tyCK T P tb n t = some ks → ∃ ls : List T.Lf, Fits T ks ls ∧ encCells T (encW T) .v 0 ks ls = ds ∧ wfCells T (wfW T) ks ls
  | 0, t, ds, ks, h, hk => by simp [tyCK] at hk
  | n + 1, t, ds, ks, h, hk => by
    unfold tyCK at hk
    unfold Sh at h
    split at hk
    · rename_i hu
      rw [hu] at h
      obtain ⟨b, rfl⟩ := h
      obtain rfl := Option.some.inj hk
      exact ⟨[.b b], ⟨trivial, trivial⟩, by simp [encCells, encCell], ⟨trivial, trivial⟩⟩
    · rename_i k hu
      rw [hu] at h
      obtain ⟨m, rfl, hm⟩ := h
      obtain rfl := Option.some.inj hk
      exact ⟨[.i m], ⟨trivial, trivial⟩, by simp [encCells, encCell], ⟨hm, trivial⟩⟩
    · rename_i hu
      rw [hu] at h
      obtain ⟨s, rfl, hs⟩ := h
      obtain rfl := Option.some.inj hk
      exact ⟨[.s s], ⟨trivial, trivial⟩, by simp [encCells, encCell], ⟨hs, trivial⟩⟩
    · rename_i e hu
      rw [hu] at h
      obtain ⟨rows, rfl, hl, hr⟩ := h
      split at hk
      · rename_i hc
        obtain ⟨h1, h2, h3⟩ := hc
        obtain rfl := Option.some.inj hk
        have key : ∀ rows : List (List D), (∀ r ∈ rows, Sh P n e r) → ∃ xs : List (T.W (tb e)), xs.map (encW T (tb e) .v) = rows ∧ ∀ y ∈ xs, wfW T (tb e) y := fun rows => by
          induction rows with
          | nil => intro _; exact ⟨[], rfl, fun y hy => by simp at hy⟩
          | cons r rows ih =>
            intro hr
            obtain ⟨xs, e1, e2⟩ := ih fun r' hr' => hr r' (List.mem_cons_of_mem _ hr')
            obtain ⟨ls, g1, g2, g3⟩ := sh_enc hT n e r _ (hr r List.mem_cons_self) h1
            obtain ⟨x, hx⟩ := row_ex hT h3 g1
            refine ⟨x :: xs, ?_, fun y hy => ?_⟩
            · rw [List.map_cons, e1, encW_eq hT, hx, g2]
            · rcases List.mem_cons.1 hy with rfl | hy
              · rw [wfW_eq hT, hx]; exact g3
              · exact e2 y hy
        obtain ⟨xs, e1, e2⟩ := key rows hr
        refine ⟨[.l (tb e) xs], ⟨rfl, trivial⟩, ?_, ⟨⟨by rw [← List.length_map (f := encW T (tb e) .v), e1]; exact hl, e2⟩, trivial⟩⟩
        simp only [encCells, encCell]
        rw [fgAt_v]
        simp only [e1, h2]
      · cases hk
    · rename_i fs hu
      rw [hu] at h
      simp only [Option.map_eq_some_iff] at hk
      obtain ⟨kss, hk, rfl⟩ := hk
      simp only at h
      have key : ∀ (l : List Field) (kss : List (List CK)) (ds : List D), (l.mapM fun f => tyCK T P tb n f.type) = some kss → ShFs (Sh P n) l ds → ∃ ls : List T.Lf, Fits T kss.flatten ls ∧ encCells T (encW T) .v 0 kss.flatten ls = ds ∧ wfCells T (wfW T) kss.flatten ls := fun l => by
        induction l with
        | nil =>
          intro kss ds h1 h2
          simp at h1
          subst h1
          exact ⟨[], trivial, by simp [encCells]; exact h2, trivial⟩
        | cons f l ih =>
          intro kss ds h1 h2
          rw [List.mapM_cons] at h1
          simp only [Option.bind_eq_bind, Option.bind_eq_some_iff, Option.pure_def, Option.some.injEq] at h1
          obtain ⟨k1, hk1, k2, hk2, rfl⟩ := h1
          obtain ⟨a, b, rfl, ha, hb⟩ := h2
          obtain ⟨l1, q1, q2, q3⟩ := sh_enc hT n f.type a k1 ha hk1
          obtain ⟨l2, r1, r2, r3⟩ := ih k2 b hk2 hb
          refine ⟨l1 ++ l2, ?_, ?_, ?_⟩
          · rw [List.flatten_cons]; exact fits_app q1 r1
          · rw [List.flatten_cons, encCells_app _ _ _ _ _ q1, q2, r2]
          · rw [List.flatten_cons]; exact wfCells_app _ q1 q3 r3
      exact key fs.toList kss ds hk h
    · cases hk
/-- An argument. -/
theorem arg_unp (hT : TabOK T) {n : Nat} {t : TypeId} {c : VC} {V : V} (hp : patT T P tb n t = some c) (h : ∃ ds, Sh P n t ds ∧ V = argV P t ds) :
    ∃ (k : K) (l : T.Lf) (x : kty T.W k) (ls : List T.Lf), ls = [l] ∧ c.ks = [k] ∧ ofLf T.W k l = some x ∧ (∀ ps rest, wfArgs T ps rest → wfArgs T (c :: ps) (ls ++ rest)) ∧ ∀ rest, ∃ v, unpV (A := AP T) c (ls ++ rest) = some (v, rest) ∧ dv T δ v = V ∧ v.real := by
  obtain ⟨ds, hs, rfl⟩ := h
  unfold patT at hp
  unfold argV
  cases n with
  | zero => simp [Sh] at hs
  | succ n =>
    split at hp
    · rename_i fs hu
      rw [hu]
      split at hp
      · rename_i hc
        obtain rfl := Option.some.inj hp
        obtain ⟨ls, h1, h2, h3⟩ := sh_enc hT (n + 1) t ds _ hs hc.1
        obtain ⟨x, hx⟩ := row_ex hT hc.2 h1
        obtain ⟨cs, hcs⟩ := cellsOf_fits (T := T) (fg := .v) (j := 0) h1
        have hrow : rowCells (A := AP T) (tb t) .v x = some cs := by
          unfold rowCells
          show cellsOf .v 0 (T.kinds (tb t)) (splitP T (tb t) x) = some cs
          rw [hx]; exact hcs
        refine ⟨.w (tb t), .w (tb t) x, x, [.w (tb t) x], rfl, rfl, toLf_ofLf (.w (tb t)) x, fun ps rest hr => ⟨by rw [wfW_eq hT, hx]; exact h3, hr⟩, fun rest => ⟨.agg cs, ?_, ?_, trivial⟩⟩
        · simp only [List.singleton_append, unpV, if_true, hrow, Option.map_some]
        · simp only [dv]
          rw [← cellsOf_enc hcs, h2]
      · cases hp
    · rename_i k hu
      rw [hu]
      obtain rfl := Option.some.inj hp
      unfold Sh at hs
      rw [hu] at hs
      obtain ⟨m, rfl, hm⟩ := hs
      exact ⟨.i, .i m, m, [.i m], rfl, rfl, rfl, fun ps rest hr => ⟨hm, hr⟩, fun rest => ⟨.leaf (.i k m), rfl, by simp only [dv, dn]; rfl, trivial⟩⟩
    · rename_i hu
      rw [hu]
      obtain rfl := Option.some.inj hp
      unfold Sh at hs
      rw [hu] at hs
      obtain ⟨m, rfl⟩ := hs
      exact ⟨.b, .b m, m, [.b m], rfl, rfl, rfl, fun ps rest hr => hr, fun rest => ⟨.leaf (.b m), rfl, by simp only [dv, dn]; rfl, trivial⟩⟩
    · rename_i hu
      rw [hu]
      obtain rfl := Option.some.inj hp
      unfold Sh at hs
      rw [hu] at hs
      obtain ⟨m, rfl, hm⟩ := hs
      exact ⟨.s, .s m, m, [.s m], rfl, rfl, rfl, fun ps rest hr => ⟨hm, hr⟩, fun rest => ⟨.leaf (.s m), rfl, by simp only [dv, dn]; rfl, trivial⟩⟩
    · rename_i e hu
      rw [hu]
      split at hp
      · rename_i hc
        obtain rfl := Option.some.inj hp
        obtain ⟨ls, h1, h2, h3⟩ := sh_enc hT (n + 1) t ds _ hs hc
        cases ls with
        | nil => exact h1.elim
        | cons l ls =>
          cases ls with
          | cons => exact h1.2.elim
          | nil =>
            cases l with
            | l b xs =>
              obtain rfl : b = tb e := h1.1
              simp only [encCells, encCell] at h2
              rw [fgAt_v] at h2
              subst h2
              refine ⟨.l _, .l _ xs, xs, [.l _ xs], rfl, rfl, toLf_ofLf (.l _) xs, fun ps rest hr => ⟨h3.1, hr⟩, fun rest => ⟨.leaf (.sl false _ .v xs), ?_, ?_, trivial⟩⟩
              · simp only [List.singleton_append, unpV, unpD, if_true]
              · simp only [dv, dn]; rfl
            | _ => exact h1.1.elim
      · cases hp
    · cases hp
theorem args_unp (hT : TabOK T) {n : Nat} : ∀ {ts : List TypeId} {Vs : List V} {ps : List VC}, ArgsSh P n ts Vs → ts.mapM (patT T P tb n) = some ps →
    ∃ (ls : List T.Lf) (vs : List (VV (AP T))), unpVs (A := AP T) ps ls = some (vs, []) ∧ vs.map (dv T δ) = Vs ∧ wfArgs T ps ls ∧ ∃ t, packT T.W (VC.kss ps) ls = some t
  | [], [], ps, _, hp => by simp at hp; subst hp; exact ⟨[], [], rfl, rfl, trivial, (), rfl⟩
  | [], _ :: _, ps, h, _ => h.elim
  | _ :: _, [], ps, h, _ => h.elim
  | t :: ts, V :: Vs, ps, h, hp => by
    rw [List.mapM_cons] at hp
    simp only [Option.bind_eq_bind, Option.bind_eq_some_iff, Option.pure_def, Option.some.injEq] at hp
    obtain ⟨c, hc, ps', hps, rfl⟩ := hp
    obtain ⟨k, l, x, l1, rfl, hks, hx, a1, a2⟩ := arg_unp (δ := δ) hT hc h.1
    obtain ⟨ls, vs, b1, b2, b3, tt, b4⟩ := args_unp hT h.2 hps
    obtain ⟨v, c1, c2, _⟩ := a2 ls
    refine ⟨[l] ++ ls, v :: vs, by simp only [unpVs, c1, b1], by rw [List.map_cons, c2, b2], a1 _ _ b3, ?_⟩
    have : VC.kss (c :: ps') = k :: VC.kss ps' := by simp only [VC.kss, List.flatMap_cons, hks, List.singleton_append]
    rw [this]
    exact packT_cons hx b4
/-- A law's plain form gives its statement over the evaluator. -/
theorem pure_law (hT : TabOK T) {Tb : Nat → Option Go.Proofs.Vai.Tb} {n : Nat} {ts : List TypeId} {e : Ent (AP T)} {k : Nat} (hE : EntOK T (callN Tb k) e) (hp : ts.mapM (patT T P tb n) = some e.args) (hr : e.res = [([.leaf .b], [])])
    (h : ∀ t : TT T.W (VC.kss e.args), wfArgs T e.args (unpT T.W _ t) → ∃ x, e.fn t = some x ∧ ∃ q tt, injX T.W e.xs q tt = some x ∧ unpT T.W _ tt = [.b true]) : PureLaw P Tb n e.f ts := by
  intro Vs hVs
  obtain ⟨ls, vs, h1, h2, h3, t, h4⟩ := args_unp (δ := Dl0) hT hVs hp
  have hu := packT_unpT h4
  obtain ⟨x, hx, q, tt, hq, htt⟩ := h t (by rw [hu]; exact h3)
  obtain ⟨p, rs, l, ios, g1, g2, g3, _, _, g6⟩ := hE Dl0 t x vs hx (by rw [hu]; exact h1) q tt hq
  refine ⟨k, ?_⟩
  rw [hr] at g1
  have hq0 : q = 0 := by
    cases q with
    | zero => rfl
    | succ q => simp at g1
  subst hq0
  simp only [List.getElem?_cons_zero, Option.some.injEq] at g1
  subst g1
  rw [htt] at g2
  simp only [unpVs, unpV, unpD, Option.some.injEq, Prod.mk.injEq] at g2
  obtain ⟨rfl, rfl⟩ := g2
  simp only [unpVs, Option.some.injEq, Prod.mk.injEq] at g3
  obtain ⟨rfl, _⟩ := g3
  rw [h2] at g6
  rw [g6]
  simp only [List.map_cons, List.map_nil, dv, dn]
end
end Go.Proofs.Vai

namespace Go.Proofs.Vai
open Go

/-! ### Short words for literals -/
abbrev QO := IOp × Nat
def qo (d : Nat) (o : O) : QO := (⟨some d, [], o, none, [], []⟩, 0)
def qn (o : O) : QO := (⟨none, [], o, none, [], []⟩, 0)
def qf (d off x : Nat) : QO := qo d (.faddr off (.t x))
def ql (d x : Nat) : QO := qo d (.load false 1 (.t x))
def qL (d m x : Nat) : QO := qo d (.load true m (.t x))
def qm (d x : Nat) : QO := qo d (.mv (.t x))
def qa (d x : Nat) : QO := qo d (.asg (.t x))
def qk (d : Nat) (v : D) : QO := qo d (.asg (.c (.leaf v)))
def qs (m a x : Nat) : QO := qn (.store m (.t a) (.t x))
def qb (d : Nat) (op : BinOp) (x y : Nat) : QO := qo d (.bin op (.t x) (.t y))
def qB (d : Nat) (op : BinOp) (x : Nat) (k : IntKind) (n : Int) : QO := qo d (.bin op (.t x) (.c (.leaf (.i k n))))
def qi (d w x y : Nat) : QO := qo d (.iaddr w (.t x) (.t y))
def qe (d x : Nat) : QO := qo d (.ext (.t x))
def qc (d f : Nat) (xs : List Nat) : QO := qo d (.call f none (xs.map X.t))
def qx (d x : Nat) : QO := qo d (.box (.t x))
def qz (d : Nat) (z : List D) : QO := qo d (.alloc z)
def qq (d : Nat) (b : Bool) (x y : Nat) : QO := qo d (.eqc b 0 (.t x) (.t y))
def ql' (d k x : Nat) : QO := qo d (.len k (.t x))
def z64 : D := .i .i64 0
def zs : D := .s ⟨#[]⟩
def zl (w : Nat) : D := .sl true w []
def q3 (a b : HC) : HC := .seq a b
def qr (l : List QO) : HC := .rg l
def qR (d : Nat) (v : D) : HC := .seq (.rg [qk d v]) .ret
/-- The operations of a region that draws its order: what each reads, writes. -/
def qd (q : QO) (rs ws : List Nat) : QO := (⟨q.1.dst, q.1.vs, q.1.o, q.1.g, rs, ws⟩, q.2)
def li : VC := .leaf (.i .i64)
def lv (b : Nat) : VC := .leaf (.sl false b .v)
end Go.Proofs.Vai

namespace Go.Proofs.Vai
open Go

/-! ### Plain laws of loops -/
theorem wrap64 (n : Int) (h1 : -9223372036854775808 ≤ n) (h2 : n < 9223372036854775808) : IntKind.wrap .i64 n = n := by
  simp only [IntKind.wrap, IntKind.bits, IntKind.signed, Bool.true_and]
  split <;> simp at * <;> omega
theorem wrap_succ (i : Nat) (h : i < 9223372036854775807) : IntKind.wrap .i64 ((i : Int) + 1) = ((i + 1 : Nat) : Int) := by
  rw [wrap64 _ (by omega) (by omega)]; rfl
theorem ix_nat {α : Type} (l : List α) (i : Nat) : ix l (i : Int) = l[i]? := by
  unfold ix
  simp
theorem iter_go {σ X : Type} {f : σ → Option (σ ⊕ X)} {N : Nat} {st : Nat → σ} {x : X} (hs : ∀ i, i < N → f (st i) = some (.inl (st (i + 1)))) (he : f (st N) = some (.inr x)) : ∀ (k i m : Nat), i + k = N → k < m → iter f m (st i) = some x
  | 0, i, m, h, hm => by
    obtain ⟨m, rfl⟩ : ∃ j, m = j + 1 := ⟨m - 1, by omega⟩
    simp only [iter]
    rw [show i = N by omega, he]
  | k + 1, i, m, h, hm => by
    obtain ⟨m, rfl⟩ : ∃ j, m = j + 1 := ⟨m - 1, by omega⟩
    simp only [iter]
    rw [hs i (by omega)]
    exact iter_go hs he k (i + 1) m (by omega) (by omega)
/-- A loop that runs through. -/
theorem iter_for {σ X : Type} {f : σ → Option (σ ⊕ X)} (N : Nat) (st : Nat → σ) {x : X} (hN : N ≤ 1048576) (hs : ∀ i, i < N → f (st i) = some (.inl (st (i + 1)))) (he : f (st N) = some (.inr x)) : iter f LF (st 0) = some x :=
  iter_go hs he N 0 LF (by omega) (by unfold LF; omega)
theorem iter_go2 {σ X : Type} {f : σ → Option (σ ⊕ X)} {N : Nat} {st : Nat → σ} {P : Nat → Bool} {xt xf : X} (hs : ∀ i, i < N → f (st i) = some (bif P i then .inl (st (i + 1)) else .inr xf)) (he : f (st N) = some (.inr xt)) : ∀ (k i m : Nat), i + k = N → k < m → iter f m (st i) = some (bif (List.range' i k).all P then xt else xf)
  | 0, i, m, h, hm => by
    obtain ⟨m, rfl⟩ : ∃ j, m = j + 1 := ⟨m - 1, by omega⟩
    simp only [iter]
    rw [show i = N by omega, he]
    rfl
  | k + 1, i, m, h, hm => by
    obtain ⟨m, rfl⟩ : ∃ j, m = j + 1 := ⟨m - 1, by omega⟩
    simp only [iter]
    rw [hs i (by omega), List.range'_succ, List.all_cons]
    cases P i with
    | true => simp only [cond_true, Bool.true_and]; exact iter_go2 hs he k (i + 1) m (by omega) (by omega)
    | false => rfl
/-- A loop that ends early where P fails. -/
theorem iter_all {σ X : Type} {f : σ → Option (σ ⊕ X)} (N : Nat) (st : Nat → σ) (P : Nat → Bool) {xt xf : X} (hN : N ≤ 1048576) (hs : ∀ i, i < N → f (st i) = some (bif P i then .inl (st (i + 1)) else .inr xf)) (he : f (st N) = some (.inr xt)) : iter f LF (st 0) = some (bif (List.range' 0 N).all P then xt else xf) :=
  iter_go2 hs he N 0 LF (by omega) (by unfold LF; omega)
/-- Two lists of one length, compared place by place. -/
theorem all_eq {α : Type} [DecidableEq α] (a b : List α) (h : a.length = b.length) : ((List.range' 0 a.length).all fun i => decide (a[i]? = b[i]?)) = decide (a = b) := by
  rw [Bool.eq_iff_iff, List.all_eq_true]
  simp only [decide_eq_true_eq, List.mem_range'_1]
  constructor
  · intro hh
    apply List.ext_getElem? 
    intro i
    by_cases hi : i < a.length
    · exact hh i ⟨Nat.zero_le _, by omega⟩
    · rw [List.getElem?_eq_none (by omega), List.getElem?_eq_none (by omega)]
  · rintro rfl i _
    rfl
/-- Sizes told. -/
theorem sz_bind (c rest : Nat) {K : Int → Option Int} {left : Int} (h0 : 0 ≤ left) (h1 : left ≤ 1048576) (hK : ∀ v : Int, 0 ≤ v → v ≤ 1048576 → K v = some (if v < (rest : Int) then -1 else v - rest)) :
    ((some (if left < (c : Int) then -1 else left - c)).bind fun v => bif decide (v < 0) then some (-1) else K v) = some (if left < ((c + rest : Nat) : Int) then -1 else left - ((c + rest : Nat) : Int)) := by
  simp only [Option.bind_some]
  by_cases h : left < c
  · rw [if_pos h, if_pos (by omega)]; rfl
  · rw [if_neg h]
    rw [show decide (left - (c : Int) < 0) = false from decide_eq_false (by omega), cond_false, hK _ (by omega) (by omega)]
    by_cases h2 : left - (c : Int) < rest
    · rw [if_pos h2, if_pos (by omega)]
    · rw [if_neg h2, if_neg (by omega)]; congr 1; omega
theorem sz_let (s rest : Nat) (hs : s ≤ 9223372036854775807) {K : Int → Option Int} {left : Int} (h0 : 0 ≤ left) (h1 : left ≤ 1048576) (hK : ∀ v : Int, 0 ≤ v → v ≤ 1048576 → K v = some (if v < (rest : Int) then -1 else v - rest)) :
    (let x : Int := IntKind.wrap .i64 (left - (s : Int)); bif decide (x < 0) then some (-1) else K x) = some (if left < ((s + rest : Nat) : Int) then -1 else left - ((s + rest : Nat) : Int)) := by
  simp only
  rw [wrap64 _ (by omega) (by omega)]
  by_cases h : left < s
  · rw [show decide (left - (s : Int) < 0) = true from decide_eq_true (by omega), cond_true, if_pos (by omega)]
  · rw [show decide (left - (s : Int) < 0) = false from decide_eq_false (by omega), cond_false, hK _ (by omega) (by omega)]
    by_cases h2 : left - (s : Int) < rest
    · rw [if_pos h2, if_pos (by omega)]
    · rw [if_neg h2, if_neg (by omega)]; congr 1; omega
theorem sz_ret (v : Int) (h0 : 0 ≤ v) : some v = some (if v < ((0 : Nat) : Int) then -1 else v - ((0 : Nat) : Int)) := by
  rw [if_neg (by omega)]; congr 1; omega
theorem sz_end (c : Nat) (left : Int) : ((some (if left < (c : Int) then -1 else left - c)).bind fun v => bif decide (v < 0) then some (-1) else some v) = some (if left < (c : Int) then -1 else left - (c : Int)) := by
  simp only [Option.bind_some]
  by_cases h : left < c
  · rw [if_pos h]; rfl
  · rw [if_neg h, show decide (left - (c : Int) < 0) = false from decide_eq_false (by omega)]; rfl
theorem iter_sz {α X : Type} {f : (Int × Int) → Option ((Int × Int) ⊕ X)} (l : List α) (cnt : α → Nat) {xt : Int → X} {xf : X} (hs : ∀ (i : Nat) (h : i < l.length) (v : Int), 0 ≤ v → v ≤ 1048576 → f (v, (i : Int)) = some (if v < (cnt l[i] : Int) then .inr xf else .inl (v - cnt l[i], ((i + 1 : Nat) : Int)))) (he : ∀ v, f (v, (l.length : Int)) = some (.inr (xt v))) :
    ∀ (k i m : Nat) (v : Int), i + k = l.length → k < m → 0 ≤ v → v ≤ 1048576 → iter f m (v, (i : Int)) = some (if v < (((l.drop i).map cnt).sum : Int) then xf else xt (v - ((l.drop i).map cnt).sum))
  | 0, i, m, v, h, hm, h0, h1 => by
    obtain ⟨m, rfl⟩ : ∃ j, m = j + 1 := ⟨m - 1, by omega⟩
    simp only [iter]
    rw [show (i : Int) = (l.length : Int) by omega, he, List.drop_eq_nil_of_le (by omega)]
    simp only [List.map_nil, List.sum_nil]
    rw [if_neg (by omega)]
    simp
  | k + 1, i, m, v, h, hm, h0, h1 => by
    obtain ⟨m, rfl⟩ : ∃ j, m = j + 1 := ⟨m - 1, by omega⟩
    simp only [iter]
    have hi : i < l.length := by omega
    rw [hs i hi v h0 h1, List.drop_eq_getElem_cons hi, List.map_cons, List.sum_cons]
    by_cases hv : v < (cnt l[i] : Int)
    · rw [if_pos hv, if_pos (by omega)]
    · rw [if_neg hv]
      simp only
      rw [iter_sz l cnt hs he k (i + 1) m (v - cnt l[i]) (by omega) (by omega) (by omega) (by omega)]
      by_cases h2 : v - (cnt l[i] : Int) < (((l.drop (i + 1)).map cnt).sum : Int)
      · rw [if_pos h2, if_pos (by omega)]
      · rw [if_neg h2, if_neg (by omega)]
        congr 2; omega
/-- The size of a list: its length and what its elements hold. -/
def cntL {α : Type} (cnt : α → Nat) (l : List α) : Nat := l.length + (l.map cnt).sum
theorem cnt_mem {α : Type} {cnt : α → Nat} {l : List α} {i : Nat} (h : i < l.length) : cnt l[i] ≤ (l.map cnt).sum := by
  induction l generalizing i with
  | nil => simp at h
  | cons a l ih =>
    cases i with
    | zero => simp
    | succ i => simp only [List.getElem_cons_succ, List.map_cons, List.sum_cons]; have := ih (i := i) (by simpa using h); omega
theorem szL {α X : Type} {f : (Int × Int) → Option ((Int × Int) ⊕ X)} (l : List α) (cnt : α → Nat) {xt : Int → X} {xf : X} {J : X → Option Int} {left : Int} (h0 : 0 ≤ left) (h1 : left ≤ 1048576) (hl : l.length ≤ 9223372036854775807)
    (hs : ∀ (i : Nat) (h : i < l.length) (v : Int), 0 ≤ v → v ≤ 1048576 → f (v, (i : Int)) = some (if v < (cnt l[i] : Int) then .inr xf else .inl (v - cnt l[i], ((i + 1 : Nat) : Int)))) (he : ∀ v, f (v, (l.length : Int)) = some (.inr (xt v))) (hJt : ∀ v, J (xt v) = some v) (hJf : J xf = some (-1)) :
    (let x : Int := IntKind.wrap .i64 (left - (l.length : Int)); bif decide (x < 0) then some (-1) else (iter f LF (x, 0)).bind J) = some (if left < (cntL cnt l : Int) then -1 else left - (cntL cnt l : Int)) := by
  have := sz_let l.length (l.map cnt).sum hl h0 h1 (K := fun x => (iter f LF (x, 0)).bind J) (fun v v0 v1 => by
    have h2 := iter_sz l cnt hs he l.length 0 LF v (by omega) (by unfold LF; omega) v0 v1
    rw [List.drop_zero] at h2
    rw [show ((v, (0 : Int)) : Int × Int) = (v, ((0 : Nat) : Int)) from rfl, h2, Option.bind_some]
    by_cases h3 : v < ((l.map cnt).sum : Int)
    · rw [if_pos h3, if_pos h3, hJf]
    · rw [if_neg h3, if_neg h3, hJt])
  exact this
/-- A list built place by place. -/
theorem iter_build {α X : Type} {f : (List α × Int) → Option ((List α × Int) ⊕ X)} (l : List α) (z : α) {x : X} (hl : l.length ≤ 1048576) (hs : ∀ (i : Nat) (h : i < l.length) (acc : List α), acc.length = l.length → f (acc, (i : Int)) = some (.inl (acc.set i l[i], ((i + 1 : Nat) : Int)))) (he : f (l, (l.length : Int)) = some (.inr x)) :
    iter f LF (List.replicate l.length z, 0) = some x := by
  have hst : ∀ i, i < l.length → ((l.take i ++ List.replicate (l.length - i) z).set i (l[i]?.getD z)) = l.take (i + 1) ++ List.replicate (l.length - (i + 1)) z := fun i hi => by
    rw [List.set_append_right _ _ (by simp; omega)]
    have h1 : i - (l.take i).length = 0 := by simp; omega
    rw [h1, show l.length - i = (l.length - (i + 1)) + 1 by omega, List.replicate_succ, List.set_cons_zero]
    rw [List.take_succ_eq_append_getElem hi, List.append_assoc, List.getElem?_eq_getElem hi]
    rfl
  have := iter_for (f := f) (x := x) l.length (fun i => (l.take i ++ List.replicate (l.length - i) z, (i : Int))) hl (fun i hi => by
    rw [hs i hi _ (by simp; omega), ← hst i hi, List.getElem?_eq_getElem hi]
    rfl) (by simp only [List.take_length, Nat.sub_self, List.replicate_zero, List.append_nil]; exact he)
  simpa using this
end Go.Proofs.Vai
