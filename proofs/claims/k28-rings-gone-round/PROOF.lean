import PyProof.Rows.All
import Wide.All
import OpenK.AllK
import Wide.FinOn
import HandS.ForMost
import HandS.ForExc
import HandS.HotCalls
import HandS.ExcIs
import HandS.Deep
import HandS.IsInst
import HandS.Conv
import HandS.Flow
import HandS.Style
import KE.DataFind
import HandS.TryOnly
import PyProof.ExcBaseAll.ValueError
import HandS.RaiseMore
import HandS.DictTup
import HandS.SortRule
import HandS.SortInts
import HandS.More
import PySem.Challenge.RW_leafcall_k28_rings_gone_round
set_option Elab.async false
set_option linter.all false
set_option maxRecDepth 100000
set_option maxHeartbeats 4000000
/-! VT1: value trees, the relation between the abstract heap and trees, footprints, paths. -/
namespace VT
open PySem L2

inductive Kd where
  | tup | lst | fz
  | dK (ks : List Key) | dT (ks : List (List Key))
  | obj (c : Nat) (ns : List Str)

inductive T where
  | non | bl (b : Bool) | int (i : Int) | str (x : Str)
  | nd (k : Kd) (ts : List T)

abbrev FP := Addr → Prop
abbrev FE : FP := fun _ => False
abbrev FU (F G : FP) : FP := fun a => F a ∨ G a

def Kd.mu : Kd → Bool
  | .tup => false
  | .fz => false
  | _ => true

structure Gx where
  K : PySem.W.Frag
  cl : Nat → Addr
  ct : Nat → List Str
  ok : ∀ c f, f ∈ ct c → Cls K (cl c) ∧ NoAttr K (cl c) f

def RoL (K : PySem.W.Frag) (H : Hp) (a : Addr) (vs : List V) : Prop := (∃ o, H a = some (.frz o (.lst vs))) ∨ ∀ H' : Hp, SqL K H' a vs

def At (Γ : Gx) (H : Hp) (k : Kd) (a : Addr) (vs : List V) : Prop := match k with
  | .tup => H a = some (.tup vs)
  | .lst => H a = some (.lst vs)
  | .fz => RoL Γ.K H a vs
  | .dK ks => ks.length = vs.length ∧ H a = some (.dK (ks.zip vs))
  | .dT ks => ks.length = vs.length ∧ H a = some (.dT (ks.zip vs))
  | .obj c ns => ns.length = vs.length ∧ ∃ dx, H a = some (.ins (Γ.cl c) dx (ns.zip vs))

/-- what never changes -/
def Im : HO → Prop
  | .lst _ => False
  | .dK _ => False
  | .dT _ => False
  | .set _ _ => False
  | .ins _ _ _ => False
  | _ => True

/-- outside F all is as it was -/
structure Ke (H H' : Hp) (F : FP) : Prop where
  keep : ∀ b o, H b = some o → ¬ F b → H' b = some o
  imm : ∀ b o, Im o → H b = some o → H' b = some o
/-- F became F' -/
structure Upd (H H' : Hp) (F F' : FP) : Prop extends Ke H H' F where
  new : ∀ a, F' a → F a ∨ H a = none

theorem Ke.refl (H : Hp) (F : FP) : Ke H H F := ⟨fun _ _ e _ => e, fun _ _ _ e => e⟩
theorem Upd.refl (H : Hp) (F : FP) : Upd H H F F := ⟨Ke.refl H F, fun _ h => .inl h⟩
theorem Ke.of_same {H H' : Hp} (F : FP) (s : Same H H') : Ke H H' F := ⟨fun b o e _ => s b o e, fun b o _ e => s b o e⟩
theorem Upd.of_same {H H' : Hp} {F : FP} (s : Same H H') : Upd H H' F F := ⟨Ke.of_same F s, fun _ h => .inl h⟩
theorem Ke.free {H H' : Hp} {F : FP} (k : Ke H H' F) {a : Addr} (h : H' a = none) (hf : ¬ F a) : H a = none := by
  cases e : H a with
  | none => rfl
  | some o => rw [k.keep a o e hf] at h; cases h
theorem Upd.trans {H H1 H2 : Hp} {F F1 F2 : FP} (a : Upd H H1 F F1) (b : Upd H1 H2 F1 F2) : Upd H H2 F F2 := by
  refine ⟨⟨fun x o e nf => ?_, fun x o i e => b.imm x o i (a.imm x o i e)⟩, fun x hx => ?_⟩
  · refine b.keep x o (a.keep x o e nf) fun h1 => ?_
    rcases a.new x h1 with h | h
    · exact nf h
    · rw [e] at h; cases h
  · rcases b.new x hx with h | h
    · exact a.new x h
    · by_cases hf : F x
      · exact .inl hf
      · exact .inr (a.toKe.free h hf)
/-- more that is not touched -/
theorem Upd.more {H H' : Hp} {F F' G : FP} (u : Upd H H' F F') : Upd H H' (FU F G) (FU F' G) :=
  ⟨⟨fun b o e n => u.keep b o e fun h => n (.inl h), u.imm⟩, fun a h => h.elim (fun h => (u.new a h).elim (fun z => .inl (.inl z)) .inr) fun h => .inl (.inr h)⟩
theorem Upd.sub {H H' : Hp} {F F' G : FP} (u : Upd H H' F F') (h : ∀ a, G a → F' a) : Upd H H' F G := ⟨u.toKe, fun a g => u.new a (h a g)⟩
theorem Upd.sup {H H' : Hp} {F F' G : FP} (u : Upd H H' F F') (h : ∀ a, F a → G a) : Upd H H' G F' := ⟨⟨fun b o e n => u.keep b o e fun z => n (h b z), u.imm⟩, fun a g => (u.new a g).elim (fun z => .inl (h a z)) .inr⟩

theorem RoL.keep {K : PySem.W.Frag} {H H' : Hp} {a : Addr} {vs : List V} (im : ∀ b o, Im o → H b = some o → H' b = some o) (h : RoL K H a vs) : RoL K H' a vs := by
  rcases h with ⟨o, h⟩ | h
  · exact .inl ⟨o, im _ _ (by trivial) h⟩
  · exact .inr h
theorem RoL.sq {K : PySem.W.Frag} {H : Hp} {a : Addr} {vs : List V} (h : RoL K H a vs) : SqL K H a vs := by
  rcases h with ⟨o, h⟩ | h
  · exact .inl (.inr ⟨o, h⟩)
  · exact h H
theorem At.keep {Γ : Gx} {H H' : Hp} {k : Kd} {a : Addr} {vs : List V} (h : At Γ H k a vs) (hk : k.mu = true → ∀ o, H a = some o → H' a = some o) (im : ∀ b o, Im o → H b = some o → H' b = some o) : At Γ H' k a vs := by
  cases k with
  | tup => exact im _ _ trivial h
  | lst => exact hk rfl _ h
  | fz => exact RoL.keep im h
  | dK ks => exact ⟨h.1, hk rfl _ h.2⟩
  | dT ks => exact ⟨h.1, hk rfl _ h.2⟩
  | obj c ns =>
    obtain ⟨l, dx, e⟩ := h
    exact ⟨l, dx, hk rfl _ e⟩

inductive Rep (Γ : Gx) (H : Hp) : V → T → FP → Prop
  | non {F : FP} : Rep Γ H .non .non F
  | bl {F : FP} (b : Bool) : Rep Γ H (.bl b) (.bl b) F
  | int {F : FP} (i : Int) : Rep Γ H (.int i) (.int i) F
  | str {F : FP} (x : Str) : Rep Γ H (.str x) (.str x) F
  | nd {F : FP} {k : Kd} {a : Addr} {vs : List V} {ts : List T} {Fs : Nat → FP} (hat : At Γ H k a vs) (hl : vs.length = ts.length) (hm : k.mu = true → F a ∧ ∀ i, ¬ Fs i a)
      (hk : ∀ i v t, vs[i]? = some v → ts[i]? = some t → Rep Γ H v t (Fs i)) (hd : ∀ i j a, i ≠ j → Fs i a → Fs j a → False) (hs : ∀ i a, Fs i a → F a) : Rep Γ H (.ref a) (.nd k ts) F

variable {Γ : Gx}
theorem Rep.frame {H H' : Hp} {v : V} {t : T} {F : FP} (h : Rep Γ H v t F) (k : ∀ a o, F a → H a = some o → H' a = some o) (im : ∀ b o, Im o → H b = some o → H' b = some o) : Rep Γ H' v t F := by
  induction h with
  | non => exact .non
  | bl b => exact .bl b
  | int i => exact .int i
  | str x => exact .str x
  | nd hat hl hm hk hd hs ih =>
    exact .nd (hat.keep (fun m o e => k _ _ (hm m).1 e) im) hl hm (fun i v t e1 e2 => ih i v t e1 e2 fun a o fa e => k a o (hs i a fa) e) hd hs
theorem Rep.same {H H' : Hp} {v : V} {t : T} {F : FP} (h : Rep Γ H v t F) (s : Same H H') : Rep Γ H' v t F := h.frame (fun a o _ e => s a o e) fun b o _ e => s b o e
theorem Rep.mono {H : Hp} {v : V} {t : T} {F G : FP} (h : Rep Γ H v t F) (s : ∀ a, F a → G a) : Rep Γ H v t G := by
  cases h with
  | non => exact .non
  | bl b => exact .bl b
  | int i => exact .int i
  | str x => exact .str x
  | nd hat hl hm hk hd hs => exact .nd hat hl (fun m => ⟨s _ (hm m).1, (hm m).2⟩) hk hd fun i a q => s a (hs i a q)
/-- what lies outside of what changes -/
theorem Rep.ke {H H' : Hp} {v : V} {t : T} {F G : FP} (h : Rep Γ H v t F) (k : Ke H H' G) (d : ∀ a, F a → G a → False) : Rep Γ H' v t F :=
  h.frame (fun a o fa e => k.keep a o e fun g => d a fa g) k.imm

mutual
def T.im : T → Bool
  | .nd .tup ts => T.imAll ts
  | .nd .fz ts => T.imAll ts
  | .nd _ _ => false
  | _ => true
def T.imAll : List T → Bool
  | [] => true
  | t :: ts => t.im && T.imAll ts
end
theorem imAll_iff : ∀ {ts : List T}, T.imAll ts = true ↔ ∀ (i : Nat) (t : T), ts[i]? = some t → t.im = true
  | [] => by simp [T.imAll]
  | t :: ts => by
    rw [T.imAll, Bool.and_eq_true, imAll_iff (ts := ts)]
    constructor
    · rintro ⟨h1, h2⟩ i u e
      cases i with
      | zero => simp at e; subst e; exact h1
      | succ i => exact h2 i u (by simpa using e)
    · intro h
      exact ⟨h 0 t rfl, fun i u e => h (i + 1) u (by simpa using e)⟩
theorem imAll_mem {ts : List T} : T.imAll ts = true ↔ ∀ t ∈ ts, t.im = true := by
  rw [imAll_iff]
  constructor
  · intro h t ht
    obtain ⟨i, e⟩ := List.getElem?_of_mem ht
    exact h i t e
  · intro h i t e
    exact h t (List.mem_of_getElem? e)
theorem Rep.im {H : Hp} {v : V} {t : T} {F : FP} (h : Rep Γ H v t F) (hi : t.im = true) (G : FP) : Rep Γ H v t G := by
  induction h generalizing G with
  | non => exact .non
  | bl b => exact .bl b
  | int i => exact .int i
  | str x => exact .str x
  | @nd F k a vs ts Fs hat hl hm hk hd hs ih =>
    have q : k.mu = false ∧ T.imAll ts = true := by
      cases k <;> simp_all [T.im, Kd.mu]
    refine .nd (Fs := fun _ => FE) hat hl (fun m => by rw [q.1] at m; cases m) (fun i v t e1 e2 => ih i v t e1 e2 (imAll_iff.mp q.2 i t e2) FE) (fun _ _ _ _ z _ => z) fun _ _ z => z.elim

/-! ### paths -/
def kids : HO → List V
  | .lst xs => xs
  | .dK kvs => kvs.map (·.2)
  | .dT kvs => kvs.map (·.2)
  | .ins _ _ fs => fs.map (·.2)
  | _ => []
theorem zip_snd {α β : Type} : ∀ {xs : List α} {ys : List β}, xs.length = ys.length → (xs.zip ys).map (·.2) = ys
  | [], [], _ => rfl
  | x :: xs, y :: ys, h => by
    show y :: (xs.zip ys).map (·.2) = y :: ys
    rw [zip_snd (by simpa using h)]
  | [], _ :: _, h => by simp at h
  | _ :: _, [], h => by simp at h
theorem At.kids {H : Hp} {k : Kd} {a : Addr} {vs : List V} (h : At Γ H k a vs) (hm : k.mu = true) : ∃ o, H a = some o ∧ VT.kids o = vs := by
  cases k with
  | tup => cases hm
  | fz => cases hm
  | lst => exact ⟨_, h, rfl⟩
  | dK ks => exact ⟨_, h.2, zip_snd h.1⟩
  | dT ks => exact ⟨_, h.2, zip_snd h.1⟩
  | obj c ns =>
    obtain ⟨l, dx, e⟩ := h
    exact ⟨_, e, zip_snd l⟩
def vAt (H : Hp) : List Nat → V → Option V
  | [], v => some v
  | i :: p, .ref a => (H a).bind fun o => (VT.kids o)[i]?.bind fun v => vAt H p v
  | _ :: _, _ => none
def tAt : List Nat → T → Option T
  | [], t => some t
  | i :: p, .nd k ts => if k.mu = true then ts[i]?.bind fun t => tAt p t else none
  | _ :: _, _ => none
def tPut : List Nat → T → T → T
  | [], _, s => s
  | i :: p, .nd k ts, s => .nd k (ts.set i (tPut p (ts.getD i .non) s))
  | _ :: _, t, _ => t
theorem vAt_same {H H' : Hp} (s : Same H H') : ∀ {p : List Nat} {v w : V}, vAt H p v = some w → vAt H' p v = some w
  | [], v, w, h => h
  | i :: p, .ref a, w, h => by
    simp only [vAt] at h ⊢
    cases e : H a with
    | none => rw [e] at h; cases h
    | some o =>
      rw [e] at h
      rw [s a o e]
      simp only [Option.bind_some] at h ⊢
      cases q : (VT.kids o)[i]? with
      | none => rw [q] at h; cases h
      | some u =>
        rw [q] at h
        exact vAt_same s h
  | _ :: _, .non, _, h => by cases h
  | _ :: _, .bl _, _, h => by cases h
  | _ :: _, .int _, _, h => by cases h
  | _ :: _, .str _, _, h => by cases h
  | _ :: _, .byt _, _, h => by cases h
  | _ :: _, .flt _, _, h => by cases h
  | _ :: _, .ty _, _, h => by cases h

/-- what is in F but not in G is as it was -/
structure KeIn (H H' : Hp) (F G : FP) : Prop where
  keep : ∀ b o, F b → ¬ G b → H b = some o → H' b = some o
  imm : ∀ b o, Im o → H b = some o → H' b = some o
theorem Ke.kin {H H' : Hp} {F G : FP} (k : Ke H H' G) : KeIn H H' F G := ⟨fun b o _ n e => k.keep b o e n, k.imm⟩
theorem focus {H : Hp} : ∀ (p : List Nat) {v : V} {t t1 : T} {F : FP}, Rep Γ H v t F → tAt p t = some t1 →
    ∃ v1 G, vAt H p v = some v1 ∧ Rep Γ H v1 t1 G ∧ (∀ a, G a → F a) ∧
      ∀ H' t2 G', KeIn H H' F G → (∀ a, G' a → G a ∨ ¬ F a) → Rep Γ H' v1 t2 G' → Rep Γ H' v (tPut p t t2) (fun a => (F a ∧ ¬ G a) ∨ G' a)
  | [], v, t, t1, F, h, e => by
    have e' : t = t1 := Option.some.inj e
    subst e'
    exact ⟨v, F, rfl, h, fun _ z => z, fun H' t2 G' _ _ r => r.mono fun a g => .inr g⟩
  | i :: p, v, t, t1, F, h, e => by
    cases h with
    | non => cases e
    | bl b => cases e
    | int j => cases e
    | str x => cases e
    | @nd _ k a vs ts Fs hat hl hm hk hd hs =>
      simp only [tAt] at e
      by_cases mu : k.mu = true
      · rw [if_pos mu] at e
        cases eu : ts[i]? with
        | none => rw [eu] at e; cases e
        | some u =>
          rw [eu] at e
          have e1 : tAt p u = some t1 := e
          have hi : i < ts.length := (List.getElem?_eq_some_iff.mp eu).1
          obtain ⟨vi, ev⟩ : ∃ vi, vs[i]? = some vi := ⟨vs[i]'(by omega), List.getElem?_eq_getElem (by omega)⟩
          obtain ⟨v1, G, hv, hr, hg, back⟩ := focus p (hk i vi u ev eu) e1
          obtain ⟨o, ho, hko⟩ := hat.kids mu
          have nGa : ¬ G a := fun z => (hm mu).2 i (hg a z)
          refine ⟨v1, G, ?_, hr, fun b z => hs i b (hg b z), fun H' t2 G' ke nw r => ?_⟩
          · show (H a).bind _ = _
            rw [ho]
            show (VT.kids o)[i]?.bind _ = _
            rw [hko, ev]
            exact hv
          · have nG'a : ¬ G' a := fun z => (nw a z).elim nGa fun q => q (hm mu).1
            have eg : ts.getD i .non = u := by rw [List.getD_eq_getElem?_getD, eu]; rfl
            show Rep Γ H' (.ref a) (.nd k (ts.set i (tPut p (ts.getD i .non) t2))) _
            rw [eg]
            refine .nd (Fs := fun j => if j = i then (fun b => (Fs i b ∧ ¬ G b) ∨ G' b) else Fs j) (hat.keep (fun _ o' e' => ke.keep a o' (hm mu).1 nGa e') ke.imm) (by rw [List.length_set]; exact hl) (fun _ => ⟨.inl ⟨(hm mu).1, nGa⟩, fun j => ?_⟩) (fun j w s e1 e2 => ?_) (fun j j' b ne z z' => ?_) fun j b z => ?_
            · by_cases hj : j = i
              · rw [if_pos hj]
                rintro (z | z)
                · exact (hm mu).2 i z.1
                · exact nG'a z
              · rw [if_neg hj]
                exact (hm mu).2 j
            · by_cases hj : j = i
              · subst hj
                rw [if_pos rfl]
                rw [List.getElem?_set_self hi] at e2
                have ew : w = vi := Option.some.inj (e1.symm.trans ev)
                subst ew
                have es : tPut p u t2 = s := Option.some.inj e2
                rw [← es]
                exact back H' t2 G' ⟨fun b o f n q => ke.keep b o (hs j b f) n q, ke.imm⟩ (fun b z => (nw b z).elim .inl fun q => .inr fun f => q (hs j b f)) r
              · rw [if_neg hj]
                rw [List.getElem?_set_ne (Ne.symm hj)] at e2
                exact (hk j w s e1 e2).frame (fun b o f q => ke.keep b o (hs j b f) (fun g => hd j i b hj f (hg b g)) q) ke.imm
            · have aux : ∀ m, m ≠ i → ((Fs i b ∧ ¬ G b) ∨ G' b) → Fs m b → False := fun m hmi y y' => by
                rcases y with y | y
                · exact hd i m b (Ne.symm hmi) y.1 y'
                · rcases nw b y with g | g
                  · exact hd i m b (Ne.symm hmi) (hg b g) y'
                  · exact g (hs m b y')
              by_cases hj : j = i
              · by_cases hj' : j' = i
                · exact ne (hj.trans hj'.symm)
                · rw [if_pos hj] at z
                  rw [if_neg hj'] at z'
                  exact aux j' hj' z z'
              · rw [if_neg hj] at z
                by_cases hj' : j' = i
                · rw [if_pos hj'] at z'
                  exact aux j hj z' z
                · rw [if_neg hj'] at z'
                  exact hd j j' b ne z z'
            · by_cases hj : j = i
              · rw [if_pos hj] at z
                rcases z with z | z
                · exact .inl ⟨hs i b z.1, z.2⟩
                · exact .inr z
              · rw [if_neg hj] at z
                exact .inl ⟨hs j b z, fun g => hd j i b hj z (hg b g)⟩
      · rw [if_neg mu] at e
        cases e

/-! ### the slots of a def -/
abbrev TSt := List (Option T)
/-- slots that hold what they hold -/
abbrev Fx := Nat → Option V
structure RepS (Γ : Gx) (ar : Fx) (H : Hp) (σ : St) (S : TSt) (F : FP) : Prop where
  len : S.length = σ.length
  arg : ∀ (i : Nat) (v : V), ar i = some v → σ[i]? = some (some v)
  fam : ∃ Fs : Nat → FP, (∀ (i : Nat) (t : T), S[i]? = some (some t) → ∃ v, σ[i]? = some (some v) ∧ Rep Γ H v t (Fs i)) ∧ (∀ i j a, i ≠ j → Fs i a → Fs j a → False) ∧ ∀ i a, Fs i a → F a
  al : ∀ a, F a → H a ≠ none

theorem Ke.al {H H' : Hp} {F : FP} (k : Ke H H' F) {a : Addr} (h : H a ≠ none) (n : ¬ F a) : H' a ≠ none := by
  cases e : H a with
  | none => exact absurd e h
  | some o => rw [k.keep a o e n]; exact fun z => nomatch z
theorem same_al {H H' : Hp} (s : Same H H') {a : Addr} (h : H a ≠ none) : H' a ≠ none := by
  cases e : H a with
  | none => exact absurd e h
  | some o => rw [s a o e]; exact fun z => nomatch z

theorem RepS.same {ar : Fx} {H H' : Hp} {σ : St} {S : TSt} {F : FP} (h : RepS Γ ar H σ S F) (s : Same H H') : RepS Γ ar H' σ S F := by
  obtain ⟨len, arg, ⟨Fs, h1, h2, h3⟩, al⟩ := h
  refine ⟨len, arg, ⟨Fs, fun i t e => ?_, h2, h3⟩, fun a fa => same_al s (al a fa)⟩
  obtain ⟨v, e1, r⟩ := h1 i t e
  exact ⟨v, e1, r.same s⟩
/-- what else there is changes -/
theorem RepS.ke {ar : Fx} {H H' : Hp} {σ : St} {S : TSt} {F G : FP} (h : RepS Γ ar H σ S F) (k : Ke H H' G) (d : ∀ a, F a → G a → False) : RepS Γ ar H' σ S F := by
  obtain ⟨len, arg, ⟨Fs, h1, h2, h3⟩, al⟩ := h
  refine ⟨len, arg, ⟨Fs, fun i t e => ?_, h2, h3⟩, fun a fa => k.al (al a fa) fun g => d a fa g⟩
  obtain ⟨v, e1, r⟩ := h1 i t e
  exact ⟨v, e1, r.ke k fun a f g => d a (h3 i a f) g⟩
theorem RepS.slot {ar : Fx} {H : Hp} {σ : St} {S : TSt} {F : FP} (h : RepS Γ ar H σ S F) {i : Nat} {t : T} (e : S[i]? = some (some t)) : ∃ v, σ[i]? = some (some v) ∧ Rep Γ H v t F := by
  obtain ⟨_, _, ⟨Fs, h1, h2, h3⟩, _⟩ := h
  obtain ⟨v, e1, r⟩ := h1 i t e
  exact ⟨v, e1, r.mono (h3 i)⟩
/-- the thing in a slot taken out; it may come back, changed -/
theorem RepS.take {ar : Fx} {H : Hp} {σ : St} {S : TSt} {F : FP} {i : Nat} {t : T} (h : RepS Γ ar H σ S F) (e : S[i]? = some (some t)) :
    ∃ v F' G, σ[i]? = some (some v) ∧ Rep Γ H v t G ∧ RepS Γ ar H σ (S.set i none) F' ∧ (∀ a, F' a → G a → False) ∧ (∀ a, F' a → F a) ∧ ∀ a, G a → F a := by
  obtain ⟨len, arg, ⟨Fs, h1, h2, h3⟩, al⟩ := h
  obtain ⟨v, ev, r⟩ := h1 i t e
  refine ⟨v, fun a => ∃ j, j ≠ i ∧ Fs j a, Fs i, ev, r, ⟨by rw [List.length_set]; exact len, arg, ⟨fun j => if j = i then FE else Fs j, fun j u eu => ?_, fun j j' b ne z z' => ?_, fun j b z => ?_⟩, fun a ⟨j, _, z⟩ => al a (h3 j a z)⟩, fun a ⟨j, nj, z⟩ g => h2 j i a nj z g, fun a ⟨j, _, z⟩ => h3 j a z, h3 i⟩
  · by_cases hj : j = i
    · subst hj
      have hlt : j < S.length := (List.getElem?_eq_some_iff.mp e).1
      rw [List.getElem?_set_self hlt] at eu
      cases eu
    · rw [List.getElem?_set_ne (Ne.symm hj)] at eu
      simp only [if_neg hj]
      exact h1 j u eu
  · by_cases hj : j = i
    · simp only [if_pos hj] at z
      exact z.elim
    · by_cases hj' : j' = i
      · simp only [if_pos hj'] at z'
        exact z'.elim
      · simp only [if_neg hj] at z
        simp only [if_neg hj'] at z'
        exact h2 j j' b ne z z'
  · by_cases hj : j = i
    · simp only [if_pos hj] at z
      exact z.elim
    · simp only [if_neg hj] at z
      exact ⟨j, hj, z⟩
/-- a slot is stored -/
theorem RepS.put {ar : Fx} {H : Hp} {σ : St} {S : TSt} {F G : FP} {i : Nat} {v : V} {t : T} (h : RepS Γ ar H σ S F) (hi : ar i = none) (r : Rep Γ H v t G) (d : ∀ a, F a → G a → False) (alG : ∀ a, G a → H a ≠ none) :
    RepS Γ ar H (σ.set i (some v)) (S.set i (some t)) (FU F G) := by
  obtain ⟨len, arg, ⟨Fs, h1, h2, h3⟩, al⟩ := h
  refine ⟨by rw [List.length_set, List.length_set]; exact len, fun j w e => ?_, ⟨fun j => if j = i then G else Fs j, fun j u eu => ?_, fun j j' b ne z z' => ?_, fun j b z => ?_⟩, fun a z => z.elim (al a) (alG a)⟩
  · have hj : i ≠ j := fun z => by rw [← z, hi] at e; cases e
    rw [List.getElem?_set_ne hj]
    exact arg j w e
  · by_cases hj : j = i
    · subst hj
      by_cases hlt : j < S.length
      · rw [List.getElem?_set_self hlt] at eu
        have eu' : t = u := Option.some.inj (Option.some.inj eu)
        subst eu'
        simp only [if_pos rfl]
        exact ⟨v, List.getElem?_set_self (by omega), r⟩
      · rw [List.getElem?_eq_none (by rw [List.length_set]; omega)] at eu
        cases eu
    · rw [List.getElem?_set_ne (Ne.symm hj)] at eu
      simp only [if_neg hj, List.getElem?_set_ne (Ne.symm hj)]
      exact h1 j u eu
  · by_cases hj : j = i
    · by_cases hj' : j' = i
      · exact ne (hj.trans hj'.symm)
      · simp only [if_pos hj] at z
        simp only [if_neg hj'] at z'
        exact d b (h3 j' b z') z
    · simp only [if_neg hj] at z
      by_cases hj' : j' = i
      · simp only [if_pos hj'] at z'
        exact d b (h3 j b z) z'
      · simp only [if_neg hj'] at z'
        exact h2 j j' b ne z z'
  · by_cases hj : j = i
    · simp only [if_pos hj] at z
      exact .inr z
    · simp only [if_neg hj] at z
      exact .inl (h3 j b z)
/-- a slot whose thing is beside gets it back -/
theorem RepS.give {ar : Fx} {H : Hp} {σ : St} {S : TSt} {F G : FP} {i : Nat} {v : V} {t : T} (h : RepS Γ ar H σ S F) (hv : σ[i]? = some (some v)) (r : Rep Γ H v t G) (d : ∀ a, F a → G a → False) (alG : ∀ a, G a → H a ≠ none) :
    RepS Γ ar H σ (S.set i (some t)) (FU F G) := by
  obtain ⟨len, arg, ⟨Fs, h1, h2, h3⟩, al⟩ := h
  refine ⟨by rw [List.length_set]; exact len, arg, ⟨fun j => if j = i then G else Fs j, fun j u eu => ?_, fun j j' b ne z z' => ?_, fun j b z => ?_⟩, fun a z => z.elim (al a) (alG a)⟩
  · by_cases hj : j = i
    · subst hj
      by_cases hlt : j < S.length
      · rw [List.getElem?_set_self hlt] at eu
        have eu' : t = u := Option.some.inj (Option.some.inj eu)
        subst eu'
        simp only [if_true]
        exact ⟨v, hv, r⟩
      · rw [List.getElem?_eq_none (by rw [List.length_set]; omega)] at eu
        cases eu
    · rw [List.getElem?_set_ne (Ne.symm hj)] at eu
      simp only [if_neg hj]
      exact h1 j u eu
  · by_cases hj : j = i
    · by_cases hj' : j' = i
      · exact ne (hj.trans hj'.symm)
      · simp only [if_pos hj] at z
        simp only [if_neg hj'] at z'
        exact d b (h3 j' b z') z
    · simp only [if_neg hj] at z
      by_cases hj' : j' = i
      · simp only [if_pos hj'] at z'
        exact d b (h3 j b z) z'
      · simp only [if_neg hj'] at z'
        exact h2 j j' b ne z z'
  · by_cases hj : j = i
    · simp only [if_pos hj] at z
      exact .inr z
    · simp only [if_neg hj] at z
      exact .inl (h3 j b z)
/-- other slots are held -/
theorem RepS.fix {ar ar' : Fx} {H : Hp} {σ : St} {S : TSt} {F : FP} (h : RepS Γ ar H σ S F) (k : ∀ (i : Nat) (v : V), ar' i = some v → σ[i]? = some (some v)) : RepS Γ ar' H σ S F := ⟨h.len, k, h.fam, h.al⟩
end VT

/-! VT2: what a piece of a def does to the trees: readings rdP (a place), rdB (read), rdN (made anew), rdE (with effects), rdS (statements). -/
namespace VT
open PySem L2

inductive Rs (α : Type) where
  | ok (a : α) | ex (c : Nat)
inductive Fl where
  | nx | rt (t : T) | bk | ct | ex (c : Nat)
abbrev BF := TSt → Option T
abbrev PF := TSt → Option (Nat × List Nat)
abbrev EF := TSt → Option (Rs T × TSt)
abbrev SF := TSt → Option (Fl × TSt)
def sl (S : TSt) (i : Nat) : Option T := (S[i]?).getD none
theorem sl_some {S : TSt} {i : Nat} {t : T} : sl S i = some t ↔ S[i]? = some (some t) := by
  unfold sl
  cases h : S[i]? with
  | none => simp
  | some o => simp
abbrev New (H H' : Hp) (G : FP) : Prop := (∀ a, G a → H a = none) ∧ ∀ a, G a → H' a ≠ none
theorem New.back {H H1 H2 : Hp} {G : FP} (s : Same H H1) (n : New H1 H2 G) : New H H2 G := ⟨fun a g => s.free (n.1 a g), n.2⟩
theorem new_FE {H H' : Hp} : New H H' FE := ⟨fun _ z => z.elim, fun _ z => z.elim⟩

section
variable (Γ : Gx) (ar : Fx) (W : WX)
def rdP (pl : PF) : TE := fun σ H Q => ∃ S F i p t t1, RepS Γ ar H σ S F ∧ pl S = some (i, p) ∧ sl S i = some t ∧ tAt p t = some t1 ∧
  ∀ v0 v H', σ[i]? = some (some v0) → vAt H p v0 = some v → Same H H' → Q v H'
def rdB (g : BF) : TE := fun σ H Q => ∃ S F t, RepS Γ ar H σ S F ∧ g S = some t ∧ ∀ v H' G, Same H H' → Rep Γ H' v t G → Q v H'
def rdN (g : BF) : TE := fun σ H Q => ∃ S F t, RepS Γ ar H σ S F ∧ g S = some t ∧ ∀ v H' G, Same H H' → Rep Γ H' v t G → New H H' G → Q v H'
/-- what is known behind an expression that has given t -/
structure Own (H : Hp) (F : FP) (σ : St) (S' : TSt) (v : V) (t : T) (H' : Hp) (F' G : FP) : Prop where
  rs : RepS Γ ar H' σ S' F'
  r : Rep Γ H' v t G
  d : ∀ a, F' a → G a → False
  al : ∀ a, G a → H' a ≠ none
  u : Upd H H' F (FU F' G)
def PostE (H : Hp) (F : FP) (σ : St) (S' : TSt) (Q : VK) : Rs T → Prop
  | .ok t => ∀ v H' F' G, Own Γ ar H F σ S' v t H' F' G → Q v H'
  | .ex c => ∀ H' F', RepS Γ ar H' σ S' F' → Upd H H' F F' → W (.ref (Γ.cl c)) none σ H'
def rdE (f : EF) : TE := fun σ H Q => ∃ S F r S', RepS Γ ar H σ S F ∧ f S = some (r, S') ∧ PostE Γ ar W H F σ S' Q r
def FlP (D : Ends) (H : Hp) (F : FP) (fl : Fl) (S' : TSt) : Prop := match fl with
  | .nx => ∀ σ' H' F', RepS Γ ar H' σ' S' F' → Upd H H' F F' → D.nx σ' H'
  | .bk => ∀ σ' H' F', RepS Γ ar H' σ' S' F' → Upd H H' F F' → D.bk σ' H'
  | .ct => ∀ σ' H' F', RepS Γ ar H' σ' S' F' → Upd H H' F F' → D.ct σ' H'
  | .rt t => ∀ v σ' H' F' G, Own Γ ar H F σ' S' v t H' F' G → D.rt v H'
  | .ex c => ∀ σ' H' F', RepS Γ ar H' σ' S' F' → Upd H H' F F' → W (.ref (Γ.cl c)) none σ' H'
def rdS (s : SF) : TS := fun D σ H => ∃ S F fl S', RepS Γ ar H σ S F ∧ s S = some (fl, S') ∧ FlP Γ ar W D H F fl S'
end

theorem PE.imp {X : Cx} {e : Expr} {t t' : TE} (h : PE X e t) (k : ∀ σ H Q, t' σ H Q → t σ H Q) : PE X e t' := ⟨fun pins s σ H Q I q => h.run pins s σ H Q I (k σ H Q q)⟩
theorem PS.imp {X : Cx} {st : Stmt} {t t' : TS} (h : PS X st t) (k : ∀ D σ H, t' D σ H → t D σ H) : PS X st t' := ⟨fun pins s σ H D I q => h.run pins s σ H D I (k D σ H q)⟩
theorem PSs.imp {X : Cx} {st : List Stmt} {t t' : TS} (h : PSs X st t) (k : ∀ D σ H, t' D σ H → t D σ H) : PSs X st t' := ⟨fun pins s σ H D I q => h.run pins s σ H D I (k D σ H q)⟩
theorem PT.imp {X : Cx} {e : Expr} {t t' : TT} (h : PT X e t) (k : ∀ σ H Q, t' σ H Q → t σ H Q) : PT X e t' := ⟨fun pins s σ H Q I q => h.run pins s σ H Q I (k σ H Q q)⟩
theorem PA.imp {X : Cx} {es : List Expr} {t t' : TA} (h : PA X es t) (k : ∀ σ H Q, t' σ H Q → t σ H Q) : PA X es t' := ⟨fun pos pins s σ H Q I q => h.run pos pins s σ H Q I (k σ H Q q)⟩

section
variable {Γ : Gx} {ar : Fx} {W : WX} {X : Cx}

theorem Own.same {H : Hp} {F : FP} {σ : St} {S' : TSt} {v : V} {t : T} {H' H'' : Hp} {F' G : FP} (o : Own Γ ar H F σ S' v t H' F' G) (s : Same H' H'') : Own Γ ar H F σ S' v t H'' F' G :=
  ⟨o.rs.same s, o.r.same s, o.d, fun a g => same_al s (o.al a g), ⟨⟨fun b u e n => s b u (o.u.keep b u e n), fun b u i e => s b u (o.u.imm b u i e)⟩, o.u.new⟩⟩
/-- a thing made anew beside -/
theorem own_new {H H' : Hp} {F G : FP} {σ : St} {S : TSt} {v : V} {t : T} (R : RepS Γ ar H σ S F) (s : Same H H') (r : Rep Γ H' v t G) (n : New H H' G) : Own Γ ar H F σ S v t H' F G :=
  ⟨R.same s, r, fun a f g => R.al a f (n.1 a g), n.2, ⟨Ke.of_same F s, fun a h => h.elim .inl fun g => .inr (n.1 a g)⟩⟩
/-- .. behind a change -/
theorem own_after {H H1 H' : Hp} {F F1 G : FP} {σ : St} {S : TSt} {v : V} {t : T} (U : Upd H H1 F F1) (R : RepS Γ ar H1 σ S F1) (s : Same H1 H') (r : Rep Γ H' v t G) (n : New H1 H' G) : Own Γ ar H F σ S v t H' F1 G :=
  let o := own_new R s r n
  ⟨o.rs, o.r, o.d, o.al, U.trans o.u⟩

/-! ### from one kind to another -/
def bOfP (pl : PF) : BF := fun S => (pl S).bind fun ip => (sl S ip.1).bind fun t => tAt ip.2 t
theorem pe_bp {e : Expr} {pl : PF} (h : PE X e (rdP Γ ar pl)) : PE X e (rdB Γ ar (bOfP pl)) := by
  refine PE.imp h fun σ H Q q => ?_
  obtain ⟨S, F, t, R, e, k⟩ := q
  unfold bOfP at e
  cases e1 : pl S with
  | none => rw [e1] at e; cases e
  | some ip =>
    obtain ⟨i, p⟩ := ip
    rw [e1] at e
    simp only [Option.bind_some] at e
    cases e2 : sl S i with
    | none => rw [e2] at e; cases e
    | some t0 =>
      rw [e2] at e
      simp only [Option.bind_some] at e
      refine ⟨S, F, i, p, t0, t, R, e1, e2, e, fun v0 v H' h1 h2 s => ?_⟩
      obtain ⟨v', a1, r0⟩ := R.slot (sl_some.mp e2)
      obtain ⟨v1, G, a2, a3, _, _⟩ := VT.focus p r0 e
      rw [h1] at a1
      have ev : v0 = v' := Option.some.inj (Option.some.inj a1)
      subst ev
      rw [h2] at a2
      have ev : v = v1 := Option.some.inj a2
      subst ev
      exact k v H' G s (a3.same s)
theorem pe_bn {e : Expr} {g : BF} (h : PE X e (rdN Γ ar g)) : PE X e (rdB Γ ar g) := by
  refine PE.imp h fun σ H Q q => ?_
  obtain ⟨S, F, t, R, e, k⟩ := q
  exact ⟨S, F, t, R, e, fun v H' G s r _ => k v H' G s r⟩
def imO (t : T) : Option T := if t.im = true then some t else none
/-- read, and it never changes -/
def nOfB (g : BF) : BF := fun S => (g S).bind imO
theorem pe_nb {e : Expr} {g : BF} (h : PE X e (rdB Γ ar g)) : PE X e (rdN Γ ar (nOfB g)) := by
  refine PE.imp h fun σ H Q q => ?_
  obtain ⟨S, F, t, R, e, k⟩ := q
  unfold nOfB at e
  cases e1 : g S with
  | none => rw [e1] at e; cases e
  | some u =>
    rw [e1] at e
    have e2 : imO u = some t := e
    unfold imO at e2
    by_cases hi : u.im = true
    · rw [if_pos hi] at e2
      have e3 : u = t := Option.some.inj e2
      subst e3
      exact ⟨S, F, u, R, e1, fun v H' G s r => k v H' FE s (r.im hi FE) new_FE⟩
    · rw [if_neg hi] at e2; cases e2
def eOfN (g : BF) : EF := fun S => (g S).bind fun t => some (.ok t, S)
theorem pe_en {e : Expr} {g : BF} (h : PE X e (rdN Γ ar g)) : PE X e (rdE Γ ar W (eOfN g)) := by
  refine PE.imp h fun σ H Q q => ?_
  obtain ⟨S, F, r, S', R, e, k⟩ := q
  unfold eOfN at e
  cases e1 : g S with
  | none => rw [e1] at e; cases e
  | some t =>
    rw [e1] at e
    have e2 : (Rs.ok t, S) = (r, S') := Option.some.inj e
    cases e2
    exact ⟨S, F, t, R, e1, fun v H' G s r n => k v H' F G (own_new R s r n)⟩

/-! ### names, constants -/
def pVar (i : Nat) : PF := fun S => (sl S i).bind fun _ => some (i, [])
theorem pp_var (i : Nat) {x : Str} {pos : Pos} (hN : X.N[i]? = some x := by rfl) (hv : Vis X.env.scope x := by first | exact Or.inl rfl | exact Or.inr (Or.inl rfl) | exact Or.inr (Or.inr rfl)) (hd : (x == ("__debug__" : Str)) = false := by decide)
    (hcd : (x == ("__classdict__" : Str)) = false := by decide) : PE X (.Name x pos) (rdP Γ ar (pVar i)) := by
  refine PE.imp (pe_var hN hv hd hcd) fun σ H Q q => ?_
  obtain ⟨S, F, j, p, t, t1, R, e, e1, e2, k⟩ := q
  unfold pVar at e
  cases e0 : sl S i with
  | none => rw [e0] at e; cases e
  | some t0 =>
    rw [e0] at e
    have e3 : (i, ([] : List Nat)) = (j, p) := Option.some.inj e
    cases e3
    obtain ⟨v, ev, _⟩ := R.slot (sl_some.mp e1)
    exact ⟨v, ev, k v v H ev rfl (Same.refl H)⟩
/-- a name whose thing is handed on: a copy, or the thing itself, which the name loses -/
def eVar (i : Nat) : EF := fun S => (sl S i).bind fun t => if t.im = true then some (.ok t, S) else some (.ok t, S.set i none)
theorem pe_evar (i : Nat) {x : Str} {pos : Pos} (hN : X.N[i]? = some x := by rfl) (hv : Vis X.env.scope x := by first | exact Or.inl rfl | exact Or.inr (Or.inl rfl) | exact Or.inr (Or.inr rfl)) (hd : (x == ("__debug__" : Str)) = false := by decide)
    (hcd : (x == ("__classdict__" : Str)) = false := by decide) : PE X (.Name x pos) (rdE Γ ar W (eVar i)) := by
  refine PE.imp (pe_var hN hv hd hcd) fun σ H Q q => ?_
  obtain ⟨S, F, r, S', R, e, k⟩ := q
  unfold eVar at e
  cases e0 : sl S i with
  | none => rw [e0] at e; cases e
  | some t =>
    rw [e0] at e
    simp only [Option.bind_some] at e
    by_cases hi : t.im = true
    · rw [if_pos hi] at e
      have e2 : (Rs.ok t, S) = (r, S') := Option.some.inj e
      cases e2
      obtain ⟨v, ev, rv⟩ := R.slot (sl_some.mp e0)
      exact ⟨v, ev, k v H F FE (own_new R (Same.refl H) (rv.im hi FE) new_FE)⟩
    · rw [if_neg hi] at e
      have e2 : (Rs.ok t, S.set i none) = (r, S') := Option.some.inj e
      cases e2
      obtain ⟨v, F', G, ev, rv, R', d, s1, s2⟩ := R.take (sl_some.mp e0)
      exact ⟨v, ev, k v H F' G ⟨R', rv, d, fun a g => R.al a (s2 a g), ⟨Ke.refl H F, fun a z => z.elim (fun z => .inl (s1 a z)) fun z => .inl (s2 a z)⟩⟩⟩
def nC (t : T) : BF := fun _ => some t
theorem pe_c {e : Expr} {v : V} {t : T} (h : PE X e (tC v)) (r : ∀ H, Rep Γ H v t FE) : PE X e (rdN Γ ar (nC t)) := by
  refine PE.imp h fun σ H Q q => ?_
  obtain ⟨S, F, u, R, e, k⟩ := q
  have e1 : t = u := Option.some.inj e
  subst e1
  exact k v H FE (Same.refl H) (r H) new_FE
theorem n_int {i : Int} {j pos} : PE X (.Constant (.int i) j pos) (rdN Γ ar (nC (.int i))) := pe_c pe_int fun _ => .int i
theorem n_str {x : Str} {j pos} : PE X (.Constant (.str x) j pos) (rdN Γ ar (nC (.str x))) := pe_c pe_str fun _ => .str x
theorem n_bl {b : Bool} {j pos} : PE X (.Constant (.bool b) j pos) (rdN Γ ar (nC (.bl b))) := pe_c pe_bl fun _ => .bl b
theorem n_non {j pos} : PE X (.Constant .none j pos) (rdN Γ ar (nC .non)) := pe_c pe_non fun _ => .non

/-! ### operations on values -/
/-- r does on values what f does on trees; what it makes is new -/
def OpT (Γ : Gx) (r : R2) (f : T → T → Option T) : Prop := ∀ (H : Hp) (x y : V) (t1 t2 t : T) (G1 G2 : FP) (Q : VK), Rep Γ H x t1 G1 → Rep Γ H y t2 G2 → f t1 t2 = some t →
  (∀ v H' G, Same H H' → Rep Γ H' v t G → New H H' G → Q v H') → r x y H Q
def UnT (Γ : Gx) (r : V → Hp → VK → Prop) (f : T → Option T) : Prop := ∀ (H : Hp) (x : V) (t1 t : T) (G1 : FP) (Q : VK), Rep Γ H x t1 G1 → f t1 = some t →
  (∀ v H' G, Same H H' → Rep Γ H' v t G → New H H' G → Q v H') → r x H Q
def bOp (f : T → T → Option T) (ga gb : BF) : BF := fun S => (ga S).bind fun x => (gb S).bind fun y => f x y
def bUn (f : T → Option T) (ga : BF) : BF := fun S => (ga S).bind f
def eOp (f : T → T → Option T) (fa fb : EF) : EF := fun S => (fa S).bind fun rx => match rx with
  | (.ex c, S1) => some (.ex c, S1)
  | (.ok x, S1) => (fb S1).bind fun ry => match ry with
    | (.ex c, S2) => some (.ex c, S2)
    | (.ok y, S2) => (f x y).bind fun z => some (.ok z, S2)
def eUn (f : T → Option T) (fa : EF) : EF := fun S => (fa S).bind fun rx => match rx with
  | (.ex c, S1) => some (.ex c, S1)
  | (.ok x, S1) => (f x).bind fun z => some (.ok z, S1)

theorem tOp_b {r : R2} {f : T → T → Option T} {ga gb : BF} (h : OpT Γ r f) (σ : St) (H : Hp) (Q : VK) (q : rdN Γ ar (bOp f ga gb) σ H Q) : tOp r (rdB Γ ar ga) (rdB Γ ar gb) σ H Q := by
  obtain ⟨S, F, t, R, e, k⟩ := q
  unfold bOp at e
  cases e1 : ga S with
  | none => rw [e1] at e; cases e
  | some t1 =>
    rw [e1] at e
    simp only [Option.bind_some] at e
    cases e2 : gb S with
    | none => rw [e2] at e; cases e
    | some t2 =>
      rw [e2] at e
      refine ⟨S, F, t1, R, e1, fun x H1 G1 s1 r1 => ⟨S, F, t2, R.same s1, e2, fun y H2 G2 s2 r2 => ?_⟩⟩
      exact h H2 x y t1 t2 t G1 G2 Q (r1.same s2) r2 e fun v H3 G s3 r3 n => k v H3 G ((s1.trans s2).trans s3) r3 (n.back (s1.trans s2))
theorem tUn_b {r : V → Hp → VK → Prop} {f : T → Option T} {ga : BF} (h : UnT Γ r f) (σ : St) (H : Hp) (Q : VK) (q : rdN Γ ar (bUn f ga) σ H Q) : rdB Γ ar ga σ H (fun x H1 => r x H1 Q) := by
  obtain ⟨S, F, t, R, e, k⟩ := q
  unfold bUn at e
  cases e1 : ga S with
  | none => rw [e1] at e; cases e
  | some t1 =>
    rw [e1] at e
    refine ⟨S, F, t1, R, e1, fun x H1 G1 s1 r1 => ?_⟩
    exact h H1 x t1 t G1 Q r1 e fun v H3 G s3 r3 n => k v H3 G (s1.trans s3) r3 (n.back s1)

/-- two with effects, one behind the other: both are there at the end -/
theorem two_e {fa fb : EF} {σ : St} {H : Hp} {S : TSt} {F : FP} {Q : V → V → Hp → Prop} (R : RepS Γ ar H σ S F) {x : T} {S1 : TSt} (e1 : fa S = some (.ok x, S1))
    {r2 : Rs T} {S2 : TSt} (e2 : fb S1 = some (r2, S2)) (hx : ∀ c, r2 = .ex c → ∀ H' F', RepS Γ ar H' σ S2 F' → Upd H H' F F' → W (.ref (Γ.cl c)) none σ H')
    (hk : ∀ y v w H' F' G1 G2, r2 = .ok y → RepS Γ ar H' σ S2 F' → Rep Γ H' v x G1 → Rep Γ H' w y G2 → (∀ a, F' a → G1 a → False) → (∀ a, F' a → G2 a → False) → (∀ a, G1 a → G2 a → False) → (∀ a, G1 a → H' a ≠ none) → (∀ a, G2 a → H' a ≠ none) →
      Upd H H' F (FU F' (FU G1 G2)) → Q v w H') :
    rdE Γ ar W fa σ H fun v H1 => rdE Γ ar W fb σ H1 fun w H2 => Q v w H2 := by
  refine ⟨S, F, .ok x, S1, R, e1, fun v H1 F1 G1 o1 => ⟨S1, F1, r2, S2, o1.rs, e2, ?_⟩⟩
  have up : ∀ {H2 : Hp} {F2 : FP}, Upd H1 H2 F1 F2 → Upd H H2 F (FU F2 G1) := fun u => o1.u.trans u.more
  cases r2 with
  | ex c => exact fun H2 F2 R2 u2 => hx c rfl H2 F2 R2 ((up u2).sub fun a z => .inl z)
  | ok y =>
    intro w H2 F2 G2 o2
    have dG : ∀ a, G1 a → G2 a → False := fun a g1 g2 => (o2.u.new a (.inr g2)).elim (fun z => o1.d a z g1) fun z => o1.al a g1 z
    have dF : ∀ a, F2 a → G1 a → False := fun a f2 g1 => (o2.u.new a (.inl f2)).elim (fun z => o1.d a z g1) fun z => o1.al a g1 z
    exact hk y v w H2 F2 G1 G2 rfl o2.rs (o1.r.ke o2.u.toKe fun a g f => o1.d a f g) o2.r dF o2.d dG (fun a g => o2.u.toKe.al (o1.al a g) fun f => o1.d a f g) o2.al
      ((up o2.u).sub fun a z => z.elim (fun z => .inl (.inl z)) fun z => z.elim .inr fun z => .inl (.inr z))

theorem tOp_e {r : R2} {f : T → T → Option T} {fa fb : EF} (h : OpT Γ r f) (σ : St) (H : Hp) (Q : VK) (q : rdE Γ ar W (eOp f fa fb) σ H Q) : tOp r (rdE Γ ar W fa) (rdE Γ ar W fb) σ H Q := by
  obtain ⟨S, F, rr, S', R, e, k⟩ := q
  unfold eOp at e
  cases e1 : fa S with
  | none => rw [e1] at e; cases e
  | some o1 =>
    obtain ⟨r1, S1⟩ := o1
    rw [e1] at e
    simp only [Option.bind_some] at e
    cases r1 with
    | ex c =>
      have e2 : (Rs.ex c, S1) = (rr, S') := Option.some.inj e
      cases e2
      exact ⟨S, F, .ex c, _, R, e1, k⟩
    | ok x =>
      simp only at e
      cases e2 : fb S1 with
      | none => rw [e2] at e; cases e
      | some o2 =>
        obtain ⟨r2, S2⟩ := o2
        rw [e2] at e
        simp only [Option.bind_some] at e
        refine two_e R e1 e2 (fun c ec H' F' R' u => ?_) fun y v w H' F' G1 G2 ey R' rv rw_ d1 d2 d12 a1 a2 u => ?_
        · subst ec
          have e3 : (Rs.ex c, S2) = (rr, S') := Option.some.inj e
          cases e3
          exact k H' F' R' u
        · subst ey
          simp only at e
          cases e3 : f x y with
          | none => rw [e3] at e; cases e
          | some z =>
            rw [e3] at e
            have e4 : (Rs.ok z, S2) = (rr, S') := Option.some.inj e
            cases e4
            exact h H' v w x y z G1 G2 Q rv rw_ e3 fun v3 H3 G s3 r3 n => k v3 H3 F' G (own_after (u.sub fun a z => .inl z) R' s3 r3 n)
theorem tUn_e {r : V → Hp → VK → Prop} {f : T → Option T} {fa : EF} (h : UnT Γ r f) (σ : St) (H : Hp) (Q : VK) (q : rdE Γ ar W (eUn f fa) σ H Q) : rdE Γ ar W fa σ H (fun x H1 => r x H1 Q) := by
  obtain ⟨S, F, rr, S', R, e, k⟩ := q
  unfold eUn at e
  cases e1 : fa S with
  | none => rw [e1] at e; cases e
  | some o1 =>
    obtain ⟨r1, S1⟩ := o1
    rw [e1] at e
    simp only [Option.bind_some] at e
    cases r1 with
    | ex c =>
      have e2 : (Rs.ex c, S1) = (rr, S') := Option.some.inj e
      cases e2
      exact ⟨S, F, .ex c, _, R, e1, k⟩
    | ok x =>
      simp only at e
      cases e3 : f x with
      | none => rw [e3] at e; cases e
      | some z =>
        rw [e3] at e
        have e4 : (Rs.ok z, S1) = (rr, S') := Option.some.inj e
        cases e4
        exact ⟨S, F, .ok x, _, R, e1, fun v H1 F1 G1 o1 => h H1 v x z G1 Q o1.r e3 fun v3 H3 G s3 r3 n => k v3 H3 F1 G (own_after (o1.u.sub fun a z => .inl z) o1.rs s3 r3 n)⟩
end
end VT

/-! VT3: operations on values and on trees. -/
namespace VT
open PySem L2
section
variable {Γ : Gx} {ar : Fx} {W : WX} {X : Cx}

/-! ### what stands at a value -/
theorem Rep.list {H : Hp} {x : V} {k : Kd} {ts : List T} {G : FP} (h : Rep Γ H x (.nd k ts) G) (hk : k = .lst ∨ k = .fz) :
    ∃ a vs, x = .ref a ∧ SqL Γ.K H a vs ∧ vs.length = ts.length ∧ ∀ (i : Nat) (v : V) (t : T), vs[i]? = some v → ts[i]? = some t → Rep Γ H v t G := by
  cases h with
  | @nd _ _ a vs _ Fs hat hl hm hc hd hs =>
    refine ⟨a, vs, rfl, ?_, hl, fun i v t e1 e2 => (hc i v t e1 e2).mono (hs i)⟩
    rcases hk with rfl | rfl
    · exact .inl (.inl hat)
    · exact RoL.sq hat
theorem Rep.tupl {H : Hp} {x : V} {ts : List T} {G : FP} (h : Rep Γ H x (.nd .tup ts) G) :
    ∃ a vs, x = .ref a ∧ SqT Γ.K H a vs ∧ vs.length = ts.length ∧ ∀ (i : Nat) (v : V) (t : T), vs[i]? = some v → ts[i]? = some t → Rep Γ H v t G := by
  cases h with
  | @nd _ _ a vs _ Fs hat hl hm hc hd hs => exact ⟨a, vs, rfl, .inl (.inl hat), hl, fun i v t e1 e2 => (hc i v t e1 e2).mono (hs i)⟩

/-- a new list, a new tuple of things that never change -/
theorem new_lst {H : Hp} {p : Addr} {vs : List V} {ts : List T} {G : FP} (hp : H p = none) (hl : vs.length = ts.length) (hc : ∀ (i : Nat) (v : V) (t : T), vs[i]? = some v → ts[i]? = some t → Rep Γ H v t G) (im : T.imAll ts = true) :
    Same H (upd H p (.lst vs)) ∧ Rep Γ (upd H p (.lst vs)) (.ref p) (.nd .lst ts) (fun a => a = p) ∧ New H (upd H p (.lst vs)) (fun a => a = p) := by
  have s : Same H (upd H p (.lst vs)) := fun b o e => by rw [upd_ne (ne_of_none e hp)]; exact e
  refine ⟨s, .nd (Fs := fun _ => FE) upd_same hl (fun _ => ⟨rfl, fun _ z => z⟩) (fun i v t e1 e2 => ((hc i v t e1 e2).same s).im (imAll_iff.mp im i t e2) FE) (fun _ _ _ _ z _ => z) (fun _ _ z => z.elim), fun a e => by rw [e]; exact hp, fun a e => by rw [e, upd_same]; exact fun z => nomatch z⟩
theorem new_tup {H : Hp} {p : Addr} {vs : List V} {ts : List T} {G : FP} (hp : H p = none) (hl : vs.length = ts.length) (hc : ∀ (i : Nat) (v : V) (t : T), vs[i]? = some v → ts[i]? = some t → Rep Γ H v t G) (im : T.imAll ts = true) :
    Same H (upd H p (.tup vs)) ∧ Rep Γ (upd H p (.tup vs)) (.ref p) (.nd .tup ts) FE ∧ New H (upd H p (.tup vs)) FE := by
  have s : Same H (upd H p (.tup vs)) := fun b o e => by rw [upd_ne (ne_of_none e hp)]; exact e
  exact ⟨s, .nd (Fs := fun _ => FE) upd_same hl (fun m => nomatch m) (fun i v t e1 e2 => ((hc i v t e1 e2).same s).im (imAll_iff.mp im i t e2) FE) (fun _ _ _ _ z _ => z) (fun _ _ z => z.elim), new_FE⟩

/-! ### data -/
mutual
def dat : T → PyData
  | .non => .none
  | .bl b => .bool b
  | .int i => .int i
  | .str x => .str x
  | .nd .tup ts => .tuple (datAll ts)
  | .nd .lst ts => .list (datAll ts)
  | .nd .fz ts => .list (datAll ts)
  | .nd _ _ => .dict []
def datAll : List T → List PyData
  | [] => []
  | t :: ts => dat t :: datAll ts
end
theorem datAll_map (ts : List T) : datAll ts = ts.map dat := by
  induction ts with
  | nil => rfl
  | cons t ts ih => rw [datAll, ih, List.map_cons]
theorem dpAll {K : PySem.W.Frag} {H : Hp} : ∀ {vs : List V} {ts : List T}, vs.length = ts.length → (∀ (i : Nat) (v : V) (t : T), vs[i]? = some v → ts[i]? = some t → Dp K H v (dat t)) → DpAll K H vs (datAll ts)
  | [], [], _, _ => .nil
  | v :: vs, t :: ts, hl, h => .cons (h 0 v t rfl rfl) (dpAll (by simpa using hl) fun i v t e1 e2 => h (i + 1) v t (by simpa using e1) (by simpa using e2))
  | [], _ :: _, hl, _ => by simp at hl
  | _ :: _, [], hl, _ => by simp at hl
theorem layAll_get : ∀ {ts : List T} {i : Nat} {t : T}, PyData.canLayAll0 (datAll ts) = true → ts[i]? = some t → (dat t).canLay0 = true
  | [], _, _, _, e => by simp at e
  | u :: ts, i, t, h, e => by
    rw [datAll, PyData.canLayAll0, Bool.and_eq_true] at h
    cases i with
    | zero => simp at e; subst e; exact h.1
    | succ i => exact layAll_get h.2 (by simpa using e)
theorem Rep.dp {H : Hp} {v : V} {t : T} {F : FP} (h : Rep Γ H v t F) (hc : (dat t).canLay0 = true) : Dp Γ.K H v (dat t) := by
  induction h with
  | non => exact .non
  | bl b => exact .bl b
  | int i => exact .int i
  | str x => exact .str x
  | @nd F k a vs ts Fs hat hl hm hk hd hs ih =>
    cases k with
    | tup => exact .tup (.inl (.inl hat)) (dpAll hl fun i v t e1 e2 => ih i v t e1 e2 (layAll_get hc e2))
    | lst => exact .lst (.inl (.inl hat)) (dpAll hl fun i v t e1 e2 => ih i v t e1 e2 (layAll_get hc e2))
    | fz => exact .lst (RoL.sq hat) (dpAll hl fun i v t e1 e2 => ih i v t e1 e2 (layAll_get hc e2))
    | dK ks => cases hc
    | dT ks => cases hc
    | obj c ns => cases hc
def shT (t : T) : Bool := SeqAt.shaped (dat t)
theorem shT_lay {t : T} (h : shT t = true) : (dat t).canLay0 = true := SeqAt.canLay_of_shaped h

/-! ### operations -/
theorem or_OpR {f : Value → Value → Sem Value} {r r' : R2} (h : OpR X f r) (h' : OpR X f r') : OpR X f (fun x y H Q => r x y H Q ∨ r' x y H Q) := by
  intro pins s σ H x y v u Q I rx ry q
  rcases q with q | q
  · exact h pins s σ H x y v u Q I rx ry q
  · exact h' pins s σ H x y v u Q I rx ry q
theorem or_CallR {f : Value} {r r' : List V → Hp → VK → Prop} (h : CallR X f r) (h' : CallR X f r') : CallR X f (fun x H Q => r x H Q ∨ r' x H Q) := by
  intro pins s σ H x v Q I rx k
  rcases k with k | k
  · exact h pins s σ H x v Q I rx k
  · exact h' pins s σ H x v Q I rx k
theorem opT_int {r : R2} {f : T → T → Option T} {C : Int → Int → Prop} {g : Int → Int → V} {gt : Int → Int → T} (hr : ∀ i j H Q, C i j → Q (g i j) H → r (.int i) (.int j) H Q) (hg : ∀ i j H, Rep Γ H (g i j) (gt i j) FE)
    (hf : ∀ t1 t2 t, f t1 t2 = some t → ∃ i j, t1 = .int i ∧ t2 = .int j ∧ C i j ∧ t = gt i j) : OpT Γ r f := by
  intro H x y t1 t2 t G1 G2 Q r1 r2 e k
  obtain ⟨i, j, rfl, rfl, c, rfl⟩ := hf t1 t2 t e
  cases r1
  cases r2
  exact hr i j H Q c (k _ H FE (Same.refl H) (hg i j H) new_FE)

/-- a dec. condition ahead of a value -/
def gd (c : Prop) [Decidable c] (t : T) : Option T := if c then some t else none
theorem gd_some {c : Prop} [Decidable c] {t u : T} : gd c t = some u ↔ c ∧ t = u := by
  unfold gd
  by_cases h : c
  · simp [h]
  · simp [h]
def subT : T → T → Option T
  | .int i, .int j => some (.int (i - j))
  | _, _ => none
def modT : T → T → Option T
  | .int i, .int j => gd (0 < j) (.int (i % j))
  | _, _ => none
def fdivT : T → T → Option T
  | .int i, .int j => gd (0 < j ∧ j < 1073741824) (.int (i / j))
  | _, _ => none
def powT : T → T → Option T
  | .int i, .int j => gd (0 ≤ j ∧ j ≤ 1000000 ∧ i.natAbs < 18446744073709551616) (.int (i ^ j.toNat))
  | _, _ => none
def ltT : T → T → Option T
  | .int i, .int j => some (.bl (decide (i < j)))
  | _, _ => none
def leT : T → T → Option T
  | .int i, .int j => some (.bl (decide (i ≤ j)))
  | _, _ => none
def gtT : T → T → Option T
  | .int i, .int j => some (.bl (decide (j < i)))
  | _, _ => none
def geT : T → T → Option T
  | .int i, .int j => some (.bl (decide (j ≤ i)))
  | _, _ => none
theorem subT_ok : OpT Γ (rI0 fun i j => .int (i - j)) subT := opT_int (C := fun _ _ => True) (gt := fun i j => .int (i - j)) (fun i j H Q _ q => ⟨i, j, rfl, rfl, q⟩) (fun i j H => .int _) fun t1 t2 t e => by
  unfold subT at e
  split at e
  · cases e; exact ⟨_, _, rfl, rfl, trivial, rfl⟩
  · cases e
theorem modT_ok : OpT Γ (rI (fun _ j => 0 < j) fun i j => .int (i % j)) modT := opT_int (gt := fun i j => .int (i % j)) (fun i j H Q c q => ⟨i, j, rfl, rfl, c, q⟩) (fun i j H => .int _) fun t1 t2 t e => by
  unfold modT at e
  split at e
  · obtain ⟨c, rfl⟩ := gd_some.mp e; exact ⟨_, _, rfl, rfl, c, rfl⟩
  · cases e
theorem fdivT_ok : OpT Γ (rI CDiv fun i j => .int (i / j)) fdivT := opT_int (gt := fun i j => .int (i / j)) (fun i j H Q c q => ⟨i, j, rfl, rfl, c, q⟩) (fun i j H => .int _) fun t1 t2 t e => by
  unfold fdivT at e
  split at e
  · obtain ⟨c, rfl⟩ := gd_some.mp e; exact ⟨_, _, rfl, rfl, c, rfl⟩
  · cases e
theorem powT_ok : OpT Γ (rI CPow fun i j => .int (i ^ j.toNat)) powT := opT_int (C := fun i j => 0 ≤ j ∧ j ≤ 1000000 ∧ i.natAbs < 18446744073709551616) (gt := fun i j => .int (i ^ j.toNat)) (fun i j H Q c q => ⟨i, j, rfl, rfl, ⟨c.1, c.2.1, by have e64 : (2 : Nat) ^ 64 = 18446744073709551616 := (by decide); rw [e64]; exact c.2.2⟩, q⟩) (fun i j H => .int _) fun t1 t2 t e => by
  unfold powT at e
  split at e
  · obtain ⟨c, rfl⟩ := gd_some.mp e; exact ⟨_, _, rfl, rfl, c, rfl⟩
  · cases e
theorem ltT_ok : OpT Γ (rI0 fun i j => .bl (decide (i < j))) ltT := opT_int (C := fun _ _ => True) (gt := fun i j => .bl (decide (i < j))) (fun i j H Q _ q => ⟨i, j, rfl, rfl, q⟩) (fun i j H => .bl _) fun t1 t2 t e => by
  unfold ltT at e
  split at e
  · cases e; exact ⟨_, _, rfl, rfl, trivial, rfl⟩
  · cases e
theorem leT_ok : OpT Γ (rI0 fun i j => .bl (decide (i ≤ j))) leT := opT_int (C := fun _ _ => True) (gt := fun i j => .bl (decide (i ≤ j))) (fun i j H Q _ q => ⟨i, j, rfl, rfl, q⟩) (fun i j H => .bl _) fun t1 t2 t e => by
  unfold leT at e
  split at e
  · cases e; exact ⟨_, _, rfl, rfl, trivial, rfl⟩
  · cases e
theorem gtT_ok : OpT Γ (rI0 fun i j => .bl (decide (j < i))) gtT := opT_int (C := fun _ _ => True) (gt := fun i j => .bl (decide (j < i))) (fun i j H Q _ q => ⟨i, j, rfl, rfl, q⟩) (fun i j H => .bl _) fun t1 t2 t e => by
  unfold gtT at e
  split at e
  · cases e; exact ⟨_, _, rfl, rfl, trivial, rfl⟩
  · cases e
theorem geT_ok : OpT Γ (rI0 fun i j => .bl (decide (j ≤ i))) geT := opT_int (C := fun _ _ => True) (gt := fun i j => .bl (decide (j ≤ i))) (fun i j H Q _ q => ⟨i, j, rfl, rfl, q⟩) (fun i j H => .bl _) fun t1 t2 t e => by
  unfold geT at e
  split at e
  · cases e; exact ⟨_, _, rfl, rfl, trivial, rfl⟩
  · cases e

/-- a + b: numbers; lists -/
def addT : T → T → Option T
  | .int i, .int j => some (.int (i + j))
  | .nd .lst xs, .nd .lst ys => gd (xs.length + ys.length ≤ 100000 ∧ T.imAll (xs ++ ys) = true) (.nd .lst (xs ++ ys))
  | _, _ => none
theorem sz5 {n : Nat} (h : n ≤ 100000) : n ≤ sizeLine := Nat.le_trans h (by decide)
theorem sz5' {n : Nat} (h : n < 100000) : n < sizeLine := Nat.lt_of_lt_of_le h (by decide)
theorem app_kids {H : Hp} {G1 G2 : FP} {vs ws : List V} {ts us : List T} (hl : vs.length = ts.length) (hc : ∀ (i : Nat) (v : V) (t : T), vs[i]? = some v → ts[i]? = some t → Rep Γ H v t G1) (hd : ∀ (i : Nat) (v : V) (t : T), ws[i]? = some v → us[i]? = some t → Rep Γ H v t G2) :
    ∀ (i : Nat) (v : V) (t : T), (vs ++ ws)[i]? = some v → (ts ++ us)[i]? = some t → Rep Γ H v t (FU G1 G2) := fun i v t e1 e2 => by
  by_cases h : i < vs.length
  · rw [List.getElem?_append_left h] at e1
    rw [List.getElem?_append_left (by omega)] at e2
    exact (hc i v t e1 e2).mono fun _ z => .inl z
  · rw [List.getElem?_append_right (by omega)] at e1
    rw [List.getElem?_append_right (by omega), ← hl] at e2
    exact (hd _ v t e1 e2).mono fun _ z => .inr z
def rAddT : R2 := fun x y H Q => rI0 (fun i j => .int (i + j)) x y H Q ∨ rCat x y H Q
theorem op_addT : OpR X (binaryOp .Add) rAddT := or_OpR op_add op_cat
theorem Rep.lstAt {H : Hp} {x : V} {ts : List T} {G : FP} (h : Rep Γ H x (.nd .lst ts) G) :
    ∃ a vs, x = .ref a ∧ H a = some (.lst vs) ∧ vs.length = ts.length ∧ ∀ (i : Nat) (v : V) (t : T), vs[i]? = some v → ts[i]? = some t → Rep Γ H v t G := by
  cases h with
  | @nd _ _ a vs _ Fs hat hl hm hc hd hs => exact ⟨a, vs, rfl, hat, hl, fun i v t e1 e2 => (hc i v t e1 e2).mono (hs i)⟩
theorem addT_ok : OpT Γ rAddT addT := by
  intro H x y t1 t2 t G1 G2 Q r1 r2 e k
  unfold addT at e
  split at e
  · cases e
    cases r1
    cases r2
    exact .inl ⟨_, _, rfl, rfl, k _ H FE (Same.refl H) (.int _) new_FE⟩
  · obtain ⟨⟨c1, c2⟩, rfl⟩ := gd_some.mp e
    obtain ⟨a, vs, rfl, ha, hl, hc⟩ := r1.lstAt
    obtain ⟨b, ws, rfl, hb, hl2, hc2⟩ := r2.lstAt
    refine .inr ⟨a, b, vs, ws, rfl, rfl, ha, hb, sz5 (by rw [hl, hl2]; exact c1), fun p hp => ?_⟩
    obtain ⟨s, r, n⟩ := new_lst (Γ := Γ) (ts := _ ++ _) hp (by rw [List.length_append, List.length_append, hl, hl2]) (app_kids hl hc hc2) c2
    exact k _ _ _ s r n
  · cases e
/-- a * b: numbers, one of them small; a list and a number -/
def mulT : T → T → Option T
  | .int i, .int j => gd ((-18446744073709551616 < i ∧ i < 18446744073709551616) ∨ (-18446744073709551616 < j ∧ j < 18446744073709551616)) (.int (i * j))
  | .nd .lst [u], .int j => gd (0 ≤ j ∧ j ≤ 100000 ∧ u.im = true) (.nd .lst (List.replicate j.toNat u))
  | _, _ => none
def rMulT : R2 := fun x y H Q => rI CMul (fun i j => .int (i * j)) x y H Q ∨ rRep x y H Q
theorem op_mulT : OpR X (binaryOp .Mult) rMulT := or_OpR op_mul op_rep
theorem imAll_rep {u : T} (h : u.im = true) : ∀ n, T.imAll (List.replicate n u) = true := fun n => imAll_mem.mpr fun t ht => by rw [List.eq_of_mem_replicate ht]; exact h
theorem flat1 {α : Type} (x : α) : ∀ n : Nat, (List.replicate n [x]).flatten = List.replicate n x
  | 0 => rfl
  | n + 1 => by rw [List.replicate_succ, List.flatten_cons, flat1 x n, List.replicate_succ]; rfl
theorem mulT_ok : OpT Γ rMulT mulT := by
  intro H x y t1 t2 t G1 G2 Q r1 r2 e k
  unfold mulT at e
  split at e
  · obtain ⟨c, rfl⟩ := gd_some.mp e
    cases r1
    cases r2
    have e64 : (2 : Int) ^ 64 = 18446744073709551616 := by decide
    refine .inl ⟨_, _, rfl, rfl, ?_, k _ H FE (Same.refl H) (.int _) new_FE⟩
    unfold CMul
    rw [e64]
    exact c
  · rename_i u j
    obtain ⟨⟨c1, c2, c3⟩, rfl⟩ := gd_some.mp e
    obtain ⟨a, vs, rfl, ha, hl, hc⟩ := r1.lstAt
    cases r2
    have hl1 : vs.length = 1 := hl
    obtain ⟨v, rfl⟩ : ∃ v, vs = [v] := by
      match vs, hl1 with
      | [v], _ => exact ⟨v, rfl⟩
    refine .inr ⟨a, j, [v], rfl, rfl, ha, by omega, by omega, ?_, fun p hp => ?_⟩
    · show 1 * j.toNat ≤ sizeLine
      rw [Nat.one_mul]
      exact sz5 (by omega)
    · rw [flat1]
      have hv := hc 0 v u rfl rfl
      obtain ⟨s, r, n⟩ := new_lst (Γ := Γ) (vs := List.replicate j.toNat v) (ts := List.replicate j.toNat u) hp (by rw [List.length_replicate, List.length_replicate]) (fun i w t e1 e2 => by
        have z1 := List.eq_of_mem_replicate (List.mem_of_getElem? e1)
        have z2 := List.eq_of_mem_replicate (List.mem_of_getElem? e2)
        rw [z1, z2]
        exact hv) (imAll_rep c3 _)
      exact k _ _ _ s r n
  · cases e

/-! ### ==, !=, is, in -/
def eqT (t1 t2 : T) : Option T := gd (shT t1 = true ∧ shT t2 = true) (.bl (PyData.eqv (dat t1) (dat t2)))
def neT (t1 t2 : T) : Option T := gd (shT t1 = true ∧ shT t2 = true) (.bl (!PyData.eqv (dat t1) (dat t2)))
theorem eqT_ok : OpT Γ (rEqD Γ.K) eqT := by
  intro H x y t1 t2 t G1 G2 Q r1 r2 e k
  obtain ⟨⟨c1, c2⟩, rfl⟩ := gd_some.mp e
  exact ⟨_, _, r1.dp (shT_lay c1), r2.dp (shT_lay c2), c1, c2, k _ H FE (Same.refl H) (.bl _) new_FE⟩
theorem neT_ok : OpT Γ (rNeD Γ.K) neT := by
  intro H x y t1 t2 t G1 G2 Q r1 r2 e k
  obtain ⟨⟨c1, c2⟩, rfl⟩ := gd_some.mp e
  exact ⟨_, _, r1.dp (shT_lay c1), r2.dp (shT_lay c2), c1, c2, k _ H FE (Same.refl H) (.bl _) new_FE⟩
def T.isN : T → Bool
  | .non => true
  | _ => false
def isT (t1 t2 : T) : Option T := gd (t2.isN = true) (.bl t1.isN)
def isNotT (t1 t2 : T) : Option T := gd (t2.isN = true) (.bl (!t1.isN))
theorem Rep.isN {H : Hp} {v : V} {t : T} {F : FP} (h : Rep Γ H v t F) : decide (v = .non) = t.isN := by cases h <;> rfl
theorem isT_ok : OpT Γ (fun x y H Q => y = .non ∧ Q (.bl (decide (x = .non))) H) isT := by
  intro H x y t1 t2 t G1 G2 Q r1 r2 e k
  obtain ⟨c1, rfl⟩ := gd_some.mp e
  have hy := r2.isN
  rw [c1] at hy
  rw [r1.isN]
  exact ⟨of_decide_eq_true hy, k _ H FE (Same.refl H) (.bl _) new_FE⟩
theorem isNotT_ok : OpT Γ (fun x y H Q => y = .non ∧ Q (.bl (!decide (x = .non))) H) isNotT := by
  intro H x y t1 t2 t G1 G2 Q r1 r2 e k
  obtain ⟨c1, rfl⟩ := gd_some.mp e
  have hy := r2.isN
  rw [c1] at hy
  rw [r1.isN]
  exact ⟨of_decide_eq_true hy, k _ H FE (Same.refl H) (.bl _) new_FE⟩
/-- flat things (no bools, no ints beside bools): as values -/
def flT : T → Bool
  | .nd _ _ => false
  | _ => true
/-- x in a list (data), in a tuple (flat things) -/
def inB (t1 : T) (ts : List T) : Bool := ts.any fun z => PyData.eqv (dat z) (dat t1)
def inO (t1 t2 : T) : Option Bool := match t2 with
  | .nd .lst ts => if shT t1 = true ∧ shT (.nd .lst ts) = true then some (inB t1 ts) else none
  | .nd .fz ts => if shT t1 = true ∧ shT (.nd .lst ts) = true then some (inB t1 ts) else none
  | .nd .tup ts => if flT t1 = true ∧ ts.all flT = true then some (inB t1 ts) else none
  | _ => none
def inT (t1 t2 : T) : Option T := (inO t1 t2).map .bl
def notInT (t1 t2 : T) : Option T := (inO t1 t2).map fun b => .bl (!b)
def rInT (K : PySem.W.Frag) (neg : Bool) : R2 := fun x y H Q => (∃ d ds, Dp K H x d ∧ Dp K H y (.list ds) ∧ SeqAt.shaped d = true ∧ SeqAt.shaped (.list ds) = true ∧ Q (.bl (if neg then !ds.any fun z => PyData.eqv z d else ds.any fun z => PyData.eqv z d)) H) ∨ rIn K neg x y H Q
theorem op_inT (hu : X.A.units + 65 < cLine) : OpR X (compareOp .In) (rInT X.K false) := or_OpR (op_inD hu) op_in_seq
theorem op_notInT (hu : X.A.units + 65 < cLine) : OpR X (compareOp .NotIn) (rInT X.K true) := or_OpR (op_notInD hu) op_notIn_seq
theorem any_datAll {p : PyData → Bool} : ∀ ts : List T, (datAll ts).any p = ts.any fun z => p (dat z)
  | [] => rfl
  | t :: ts => by rw [datAll, List.any_cons, List.any_cons, any_datAll ts]
theorem Rep.flat {H : Hp} {v : V} {t : T} {F : FP} (h : Rep Γ H v t F) (hf : flT t = true) : flatV v = true := by
  cases h with
  | nd => cases hf
  | _ => rfl
theorem Rep.eqV {H : Hp} {v w : V} {t u : T} {F G : FP} (h : Rep Γ H v t F) (k : Rep Γ H w u G) (hf : flT t = true) (hg : flT u = true) : L2.eqV v w = PyData.eqv (dat t) (dat u) := by
  cases h with
  | nd => cases hf
  | _ =>
    cases k with
    | nd => cases hg
    | _ => simp only [L2.eqV, dat, PyData.eqv]
theorem inV_eq {H : Hp} {x : V} {t : T} {F : FP} (h : Rep Γ H x t F) (hf : flT t = true) : ∀ {vs : List V} {ts : List T}, vs.length = ts.length → (∀ (i : Nat) (v : V) (t : T), vs[i]? = some v → ts[i]? = some t → Rep Γ H v t F) → ts.all flT = true →
    inV x vs = inB t ts ∧ vs.all flatV = true
  | [], [], _, _, _ => ⟨rfl, rfl⟩
  | v :: vs, u :: ts, hl, hc, ha => by
    rw [List.all_cons, Bool.and_eq_true] at ha
    have h0 := hc 0 v u rfl rfl
    obtain ⟨e1, e2⟩ := inV_eq h hf (vs := vs) (ts := ts) (by simpa using hl) (fun i v t q1 q2 => hc (i + 1) v t (by simpa using q1) (by simpa using q2)) ha.2
    constructor
    · unfold inV inB at e1 ⊢
      rw [List.any_cons, List.any_cons, e1, h0.eqV h ha.1 hf]
    · rw [List.all_cons, h0.flat ha.1, e2]; rfl
  | [], _ :: _, hl, _, _ => by simp at hl
  | _ :: _, [], hl, _, _ => by simp at hl
theorem inO_ok {neg : Bool} {H : Hp} {x y : V} {t1 t2 : T} {b : Bool} {G1 G2 : FP} {Q : VK} (r1 : Rep Γ H x t1 G1) (r2 : Rep Γ H y t2 G2) (e : inO t1 t2 = some b) (k : Q (.bl (if neg then !b else b)) H) : rInT Γ.K neg x y H Q := by
  unfold inO at e
  split at e
  · rename_i ts
    by_cases c : shT t1 = true ∧ shT (.nd .lst ts) = true
    · rw [if_pos c] at e
      cases e
      refine .inl ⟨_, datAll ts, r1.dp (shT_lay c.1), r2.dp (shT_lay c.2), c.1, c.2, ?_⟩
      rw [any_datAll]
      exact k
    · rw [if_neg c] at e; cases e
  · rename_i ts
    by_cases c : shT t1 = true ∧ shT (.nd .lst ts) = true
    · rw [if_pos c] at e
      cases e
      refine .inl ⟨_, datAll ts, r1.dp (shT_lay c.1), r2.dp (t := .nd .fz ts) (shT_lay (t := .nd .lst ts) c.2), c.1, c.2, ?_⟩
      rw [any_datAll]
      exact k
    · rw [if_neg c] at e; cases e
  · rename_i ts
    by_cases c : flT t1 = true ∧ ts.all flT = true
    · rw [if_pos c] at e
      cases e
      obtain ⟨a, vs, rfl, hq, hl, hc⟩ := r2.tupl
      obtain ⟨e1, e2⟩ := inV_eq (F := FU G1 G2) (r1.mono fun _ z => .inl z) c.1 hl (fun i v t q1 q2 => (hc i v t q1 q2).mono fun _ z => .inr z) c.2
      refine .inr ⟨a, vs, rfl, .inr hq, r1.flat c.1, e2, ?_⟩
      rw [e1]
      exact k
    · rw [if_neg c] at e; cases e
  · cases e
theorem inT_ok : OpT Γ (rInT Γ.K false) inT := by
  intro H x y t1 t2 t G1 G2 Q r1 r2 e k
  unfold inT at e
  cases e1 : inO t1 t2 with
  | none => rw [e1] at e; cases e
  | some b =>
    rw [e1] at e
    cases e
    exact inO_ok r1 r2 e1 (k _ H FE (Same.refl H) (.bl _) new_FE)
theorem notInT_ok : OpT Γ (rInT Γ.K true) notInT := by
  intro H x y t1 t2 t G1 G2 Q r1 r2 e k
  unfold notInT at e
  cases e1 : inO t1 t2 with
  | none => rw [e1] at e; cases e
  | some b =>
    rw [e1] at e
    cases e
    exact inO_ok r1 r2 e1 (k _ H FE (Same.refl H) (.bl _) new_FE)

/-! ### a[i], of what never changes -/
theorem atI_map {vs : List V} {ts : List T} {i : Int} {t : T} (hl : vs.length = ts.length) (e : atI ts i = some t) : ∃ (v : V) (j : Nat), atI vs i = some v ∧ vs[j]? = some v ∧ ts[j]? = some t := by
  unfold atI at e ⊢
  rw [hl]
  cases e1 : ixN ts.length i with
  | none => rw [e1] at e; cases e
  | some j =>
    rw [e1] at e
    have e2 : ts[j]? = some t := e
    have hj : j < ts.length := (List.getElem?_eq_some_iff.mp e2).1
    exact ⟨vs[j]'(by omega), j, List.getElem?_eq_getElem (by omega), List.getElem?_eq_getElem (by omega), e2⟩
def ixT : T → T → Option T
  | .nd .lst ts, .int i => (atI ts i).bind imO
  | .nd .fz ts, .int i => (atI ts i).bind imO
  | .nd .tup ts, .int i => (atI ts i).bind imO
  | .str z, .int i => if z.length ≤ 100000 then (atI z.cps.toList i).bind fun c => some (.str ⟨#[c]⟩) else none
  | _, _ => none
theorem bind_im {o : Option T} {t : T} (h : o.bind imO = some t) : o = some t ∧ t.im = true := by
  cases o with
  | none => cases h
  | some u =>
    have h' : imO u = some t := h
    unfold imO at h'
    by_cases hi : u.im = true
    · rw [if_pos hi] at h'; cases h'; exact ⟨rfl, hi⟩
    · rw [if_neg hi] at h'; cases h'
theorem ixT_ok : OpT Γ (rIx Γ.K) ixT := by
  intro H x y t1 t2 t G1 G2 Q r1 r2 e k
  unfold ixT at e
  split at e
  · obtain ⟨e1, hi⟩ := bind_im e
    obtain ⟨a, vs, rfl, hq, hl, hc⟩ := r1.list (.inl rfl)
    cases r2
    obtain ⟨v, j, q1, q2, q3⟩ := atI_map hl e1
    exact .inl ⟨a, vs, _, v, rfl, rfl, hq, q1, k v H FE (Same.refl H) ((hc j v t q2 q3).im hi FE) new_FE⟩
  · obtain ⟨e1, hi⟩ := bind_im e
    obtain ⟨a, vs, rfl, hq, hl, hc⟩ := r1.list (.inr rfl)
    cases r2
    obtain ⟨v, j, q1, q2, q3⟩ := atI_map hl e1
    exact .inl ⟨a, vs, _, v, rfl, rfl, hq, q1, k v H FE (Same.refl H) ((hc j v t q2 q3).im hi FE) new_FE⟩
  · obtain ⟨e1, hi⟩ := bind_im e
    obtain ⟨a, vs, rfl, hq, hl, hc⟩ := r1.tupl
    cases r2
    obtain ⟨v, j, q1, q2, q3⟩ := atI_map hl e1
    exact .inr (.inl ⟨a, vs, _, v, rfl, rfl, hq, q1, k v H FE (Same.refl H) ((hc j v t q2 q3).im hi FE) new_FE⟩)
  · rename_i z i
    by_cases hz : z.length ≤ 100000
    · rw [if_pos hz] at e
      cases e1 : atI z.cps.toList i with
      | none => rw [e1] at e; cases e
      | some c =>
        rw [e1] at e
        cases e
        cases r1
        cases r2
        exact .inr (.inr ⟨z, i, c, rfl, rfl, sz5 hz, e1, k _ H FE (Same.refl H) (.str _) new_FE⟩)
    · rw [if_neg hz] at e; cases e
  · cases e
end
end VT

/-! VT4: expressions: operators, calls of built-ins, tests, argument lists, displays. -/
namespace VT
open PySem L2
section
variable {Γ : Gx} {ar : Fx} {W : WX} {X : Cx} {a b e : Expr} {pos p : Pos} {ga gb : BF} {fa fb : EF}

/-! ### operators -/
theorem nOp {op : Operator} {r : R2} {f : T → T → Option T} (ho : OpR X (binaryOp op) r) (hf : OpT Γ r f) (ha : PE X a (rdB Γ ar ga)) (hb : PE X b (rdB Γ ar gb)) : PE X (.BinOp a op b pos) (rdN Γ ar (bOp f ga gb)) := PE.imp (pe_op ho ha hb) (tOp_b hf)
theorem eOp' {op : Operator} {r : R2} {f : T → T → Option T} (ho : OpR X (binaryOp op) r) (hf : OpT Γ r f) (ha : PE X a (rdE Γ ar W fa)) (hb : PE X b (rdE Γ ar W fb)) : PE X (.BinOp a op b pos) (rdE Γ ar W (eOp f fa fb)) := PE.imp (pe_op ho ha hb) (tOp_e hf)
theorem nCmp {op : CmpOp} {r : R2} {f : T → T → Option T} (ho : OpR X (compareOp op) r) (hf : OpT Γ r f) (ha : PE X a (rdB Γ ar ga)) (hb : PE X b (rdB Γ ar gb)) (hm : behindInMarks op b = false) : PE X (.Compare a [op] [b] pos) (rdN Γ ar (bOp f ga gb)) := PE.imp (pe_cmpR ho ha hb hm) (tOp_b hf)
theorem eCmp {op : CmpOp} {r : R2} {f : T → T → Option T} (ho : OpR X (compareOp op) r) (hf : OpT Γ r f) (ha : PE X a (rdE Γ ar W fa)) (hb : PE X b (rdE Γ ar W fb)) (hm : behindInMarks op b = false) : PE X (.Compare a [op] [b] pos) (rdE Γ ar W (eOp f fa fb)) := PE.imp (pe_cmpR ho ha hb hm) (tOp_e hf)
theorem nIx (ha : PE X a (rdB Γ ar ga)) (hb : PE X b (rdB Γ ar gb)) (hs : PlainIx b) (hK : X.K = Γ.K := by rfl) : PE X (.Subscript a b pos) (rdN Γ ar (bOp ixT ga gb)) := PE.imp (pe_ix (hK ▸ ix_seq) ha hb hs) (tOp_b ixT_ok)
theorem eIx (ha : PE X a (rdE Γ ar W fa)) (hb : PE X b (rdE Γ ar W fb)) (hs : PlainIx b) (hK : X.K = Γ.K := by rfl) : PE X (.Subscript a b pos) (rdE Γ ar W (eOp ixT fa fb)) := PE.imp (pe_ix (hK ▸ ix_seq) ha hb hs) (tOp_e ixT_ok)

/-! ### tests -/
def rdT (Γ : Gx) (ar : Fx) (W : WX) (f : EF) : TT := fun σ H Q => rdE Γ ar W f σ H fun x H' => ∃ k, x = .bl k ∧ Q k H'
theorem t_val (h : PE X e (rdE Γ ar W fa)) (he : ∀ whole, isTrue e X.env whole = (do let v ← whole; standAt e.pos; holding [v] (truthy v)) := by intro _; rfl) : PT X e (rdT Γ ar W fa) := PT.imp (pt_val h he) fun _ _ _ q => q
theorem t_cmp {op : CmpOp} {r : R2} {f : T → T → Option T} (ho : OpR X (compareOp op) r) (hf : OpT Γ r f) (ha : PE X a (rdE Γ ar W fa)) (hb : PE X b (rdE Γ ar W fb)) (hm : behindInMarks op b = false) : PT X (.Compare a [op] [b] pos) (rdT Γ ar W (eOp f fa fb)) :=
  PT.imp (pt_cmpR ho ha hb hm) fun σ H Q q => tOp_e hf σ H _ q
def eNot (fa : EF) : EF := fun S => (fa S).bind fun rx => match rx with
  | (.ex c, S1) => some (.ex c, S1)
  | (.ok (.bl b), S1) => some (.ok (.bl (!b)), S1)
  | _ => none
def eAnd (fa fb : EF) : EF := fun S => (fa S).bind fun rx => match rx with
  | (.ex c, S1) => some (.ex c, S1)
  | (.ok (.bl true), S1) => fb S1
  | (.ok (.bl false), S1) => some (.ok (.bl false), S1)
  | _ => none
def eOr (fa fb : EF) : EF := fun S => (fa S).bind fun rx => match rx with
  | (.ex c, S1) => some (.ex c, S1)
  | (.ok (.bl false), S1) => fb S1
  | (.ok (.bl true), S1) => some (.ok (.bl true), S1)
  | _ => none
/-- a test, then what hangs on it -/
theorem bool_then {σ : St} {H : Hp} {S : TSt} {F : FP} {S1 : TSt} {k : Bool} {P : Bool → Hp → Prop} (R : RepS Γ ar H σ S F) (e1 : fa S = some (.ok (.bl k), S1))
    (h : ∀ H1 F1, RepS Γ ar H1 σ S1 F1 → Upd H H1 F F1 → P k H1) : rdE Γ ar W fa σ H fun x H1 => ∃ c, x = .bl c ∧ P c H1 := by
  refine ⟨S, F, .ok (.bl k), S1, R, e1, fun v H1 F1 G o => ?_⟩
  cases o.r
  exact ⟨k, rfl, h H1 F1 o.rs (o.u.sub fun a z => .inl z)⟩
theorem rdE_after {σ : St} {H H1 : Hp} {F F1 : FP} {S1 : TSt} {r : Rs T} {S' : TSt} {Q : VK} (R1 : RepS Γ ar H1 σ S1 F1) (u : Upd H H1 F F1) (e : fb S1 = some (r, S'))
    (k : PostE Γ ar W H F σ S' Q r) : rdE Γ ar W fb σ H1 Q := by
  refine ⟨S1, F1, r, S', R1, e, ?_⟩
  cases r with
  | ok t => exact fun v H' F' G o => k v H' F' G ⟨o.rs, o.r, o.d, o.al, u.trans o.u⟩
  | ex c => exact fun H' F' R' u' => k H' F' R' (u.trans u')
theorem eNot_ok {σ : St} {H : Hp} {Q : VK} (q : rdE Γ ar W (eNot fa) σ H Q) : rdE Γ ar W fa σ H fun x H1 => ∃ c, x = .bl c ∧ Q (.bl (!c)) H1 := by
  obtain ⟨S, F, r, S', R, e, k⟩ := q
  unfold eNot at e
  cases e1 : fa S with
  | none => rw [e1] at e; cases e
  | some o =>
    rw [e1] at e
    simp only [Option.bind_some] at e
    split at e
    · cases e
      exact ⟨S, F, _, _, R, e1, k⟩
    · cases e
      exact bool_then R e1 fun H1 F1 R1 u => k _ H1 F1 FE ⟨R1, .bl _, fun _ _ z => z, fun _ z => z.elim, u.sub fun a z => z.elim id fun z => z.elim⟩
    · cases e
theorem eAnd_ok {σ : St} {H : Hp} {Q : VK} (q : rdE Γ ar W (eAnd fa fb) σ H Q) : rdE Γ ar W fa σ H fun x H1 => ∃ c, x = .bl c ∧ if c = true then rdE Γ ar W fb σ H1 Q else Q (.bl false) H1 := by
  obtain ⟨S, F, r, S', R, e, k⟩ := q
  unfold eAnd at e
  cases e1 : fa S with
  | none => rw [e1] at e; cases e
  | some o =>
    rw [e1] at e
    simp only [Option.bind_some] at e
    split at e
    · cases e
      exact ⟨S, F, _, _, R, e1, k⟩
    · exact bool_then R e1 fun H1 F1 R1 u => iteT (rdE_after R1 u e k)
    · cases e
      exact bool_then R e1 fun H1 F1 R1 u => iteF (k _ H1 F1 FE ⟨R1, .bl _, fun _ _ z => z, fun _ z => z.elim, u.sub fun a z => z.elim id fun z => z.elim⟩)
    · cases e
theorem eOr_ok {σ : St} {H : Hp} {Q : VK} (q : rdE Γ ar W (eOr fa fb) σ H Q) : rdE Γ ar W fa σ H fun x H1 => ∃ c, x = .bl c ∧ if c = true then Q (.bl true) H1 else rdE Γ ar W fb σ H1 Q := by
  obtain ⟨S, F, r, S', R, e, k⟩ := q
  unfold eOr at e
  cases e1 : fa S with
  | none => rw [e1] at e; cases e
  | some o =>
    rw [e1] at e
    simp only [Option.bind_some] at e
    split at e
    · cases e
      exact ⟨S, F, _, _, R, e1, k⟩
    · exact bool_then R e1 fun H1 F1 R1 u => iteF (rdE_after R1 u e k)
    · cases e
      exact bool_then R e1 fun H1 F1 R1 u => iteT (k _ H1 F1 FE ⟨R1, .bl _, fun _ _ z => z, fun _ z => z.elim, u.sub fun a z => z.elim id fun z => z.elim⟩)
    · cases e
theorem e_not (ha : PE X a (rdE Γ ar W fa)) : PE X (.UnaryOp .Not a pos) (rdE Γ ar W (eNot fa)) := PE.imp (pe_not ha) fun _ _ _ q => eNot_ok q
theorem e_and {rest : List Expr} (ha : PE X a (rdE Γ ar W fa)) (hb : PE X (.BoolOp .And (b :: rest) pos) (rdE Γ ar W fb)) : PE X (.BoolOp .And (a :: b :: rest) pos) (rdE Γ ar W (eAnd fa fb)) := PE.imp (pe_and ha hb) fun _ _ _ q => eAnd_ok q
theorem e_or {rest : List Expr} (ha : PE X a (rdE Γ ar W fa)) (hb : PE X (.BoolOp .Or (b :: rest) pos) (rdE Γ ar W fb)) : PE X (.BoolOp .Or (a :: b :: rest) pos) (rdE Γ ar W (eOr fa fb)) := PE.imp (pe_or ha hb) fun _ _ _ q => eOr_ok q
theorem t_not (ha : PT X a (rdT Γ ar W fa)) : PT X (.UnaryOp .Not a pos) (rdT Γ ar W (eNot fa)) := PT.imp (pt_not ha) fun σ H Q q => by
  obtain ⟨S, F, r, S', R, e, k⟩ := eNot_ok q
  refine ⟨S, F, r, S', R, e, ?_⟩
  cases r with
  | ex c => exact k
  | ok t =>
    intro v H' F' G o
    obtain ⟨c, ev, c', ec, q⟩ := k v H' F' G o
    cases ec
    exact ⟨c, ev, q⟩
theorem PW.imp {t t' : TT} (h : PW X e t) (k : ∀ σ H Q, t' σ H Q → t σ H Q) : PW X e t' := ⟨fun whole pins s σ H Q I q => h.run whole pins s σ H Q I (k σ H Q q)⟩
theorem rdE_mono {σ : St} {H : Hp} {Q Q' : VK} (q : rdE Γ ar W fa σ H Q) (k : ∀ v H', Q v H' → Q' v H') : rdE Γ ar W fa σ H Q' := by
  obtain ⟨S, F, r, S', R, e, h⟩ := q
  refine ⟨S, F, r, S', R, e, ?_⟩
  cases r with
  | ex c => exact h
  | ok t => exact fun v H' F' G o => k v H' (h v H' F' G o)
theorem w_and {rest : List Expr} (ha : PT X a (rdT Γ ar W fa)) (hb : PW X (.BoolOp .And (b :: rest) pos) (rdT Γ ar W fb)) : PW X (.BoolOp .And (a :: b :: rest) pos) (rdT Γ ar W (eAnd fa fb)) := PW.imp (pw_and ha hb) fun σ H Q q => by
  refine rdE_mono (eAnd_ok q) fun v H' ⟨c, ev, h⟩ => ⟨c, ev, ?_⟩
  cases c with
  | true => exact h
  | false =>
    obtain ⟨k, ek, hk⟩ : ∃ k, V.bl false = V.bl k ∧ Q k H' := h
    cases ek
    exact hk
theorem w_or {rest : List Expr} (ha : PT X a (rdT Γ ar W fa)) (hb : PW X (.BoolOp .Or (b :: rest) pos) (rdT Γ ar W fb)) : PW X (.BoolOp .Or (a :: b :: rest) pos) (rdT Γ ar W (eOr fa fb)) := PW.imp (pw_or ha hb) fun σ H Q q => by
  refine rdE_mono (eOr_ok q) fun v H' ⟨c, ev, h⟩ => ⟨c, ev, ?_⟩
  cases c with
  | false => exact h
  | true =>
    obtain ⟨k, ek, hk⟩ : ∃ k, V.bl true = V.bl k ∧ Q k H' := h
    cases ek
    exact hk
theorem w_one_and (ha : PT X a (rdT Γ ar W fa)) : PW X (.BoolOp .And [a] pos) (rdT Γ ar W fa) := PW.imp (pw_and1 ha) fun _ _ _ q => q
theorem w_one_or (ha : PT X a (rdT Γ ar W fa)) : PW X (.BoolOp .Or [a] pos) (rdT Γ ar W fa) := PW.imp (pw_or1 ha) fun _ _ _ q => q
def eIf (fc fa fb : EF) : EF := fun S => (fc S).bind fun rx => match rx with
  | (.ex c, S1) => some (.ex c, S1)
  | (.ok (.bl true), S1) => fa S1
  | (.ok (.bl false), S1) => fb S1
  | _ => none
theorem e_if {c : Expr} {fc : EF} (hc : PT X c (rdT Γ ar W fc)) (ha : PE X a (rdE Γ ar W fa)) (hb : PE X b (rdE Γ ar W fb)) : PE X (.IfExp c a b pos) (rdE Γ ar W (eIf fc fa fb)) := PE.imp (pe_ifExp hc ha hb) fun σ H Q q => by
  obtain ⟨S, F, r, S', R, e, k⟩ := q
  unfold eIf at e
  cases e1 : fc S with
  | none => rw [e1] at e; cases e
  | some o =>
    rw [e1] at e
    simp only [Option.bind_some] at e
    split at e
    · cases e
      exact ⟨S, F, _, _, R, e1, k⟩
    · exact bool_then R e1 fun H1 F1 R1 u => iteT (rdE_after R1 u e k)
    · exact bool_then R e1 fun H1 F1 R1 u => iteF (rdE_after R1 u e k)
    · cases e

/-! ### argument lists -/
inductive Arg where
  | val (t : T) | pth (i : Nat) (p : List Nat)
abbrev AF := TSt → Option (Rs (List Arg) × TSt)
structure ArgsP (Γ : Gx) (H : Hp) (σ : St) (vs : List V) (as : List Arg) (G : FP) : Prop where
  len : vs.length = as.length
  fam : ∃ Gs : Nat → FP, (∀ (j : Nat) (v : V) (t : T), vs[j]? = some v → as[j]? = some (.val t) → Rep Γ H v t (Gs j)) ∧ (∀ (j : Nat) (v : V) (i : Nat) (p : List Nat), vs[j]? = some v → as[j]? = some (.pth i p) → ∃ v0, σ[i]? = some (some v0) ∧ vAt H p v0 = some v) ∧
    (∀ i j a, i ≠ j → Gs i a → Gs j a → False) ∧ ∀ i a, Gs i a → G a
def rdA (Γ : Gx) (ar : Fx) (W : WX) (fs : AF) : TA := fun σ H Q => ∃ S F r S', RepS Γ ar H σ S F ∧ fs S = some (r, S') ∧ (match r with
  | .ok as => ∀ vs H' F' G, RepS Γ ar H' σ S' F' → ArgsP Γ H' σ vs as G → (∀ a, F' a → G a → False) → (∀ a, G a → H' a ≠ none) → Upd H H' F (FU F' G) → Q vs H'
  | .ex c => ∀ H' F', RepS Γ ar H' σ S' F' → Upd H H' F F' → W (.ref (Γ.cl c)) none σ H')
theorem argsP_nil {H : Hp} {σ : St} : ArgsP Γ H σ [] [] FE := ⟨rfl, fun _ => FE, fun j v t e => by simp at e, fun j v i p e => by simp at e, fun _ _ _ _ z => z.elim, fun _ _ z => z⟩
theorem ArgsP.val {H : Hp} {σ : St} {vs : List V} {as : List Arg} {G G1 : FP} {v : V} {t : T} (h : ArgsP Γ H σ vs as G) (r : Rep Γ H v t G1) (d : ∀ a, G1 a → G a → False) : ArgsP Γ H σ (v :: vs) (.val t :: as) (FU G1 G) := by
  obtain ⟨len, Gs, h1, h2, h3, h4⟩ := h
  refine ⟨by simp [len], fun j => match j with | 0 => G1 | j + 1 => Gs j, fun j w u e1 e2 => ?_, fun j w i p e1 e2 => ?_, fun i j a ne z z' => ?_, fun i a z => ?_⟩
  · cases j with
    | zero =>
      simp at e1 e2
      subst e1 e2
      exact r
    | succ j => exact h1 j w u (by simpa using e1) (by simpa using e2)
  · cases j with
    | zero => simp at e2
    | succ j => exact h2 j w i p (by simpa using e1) (by simpa using e2)
  · cases i with
    | zero =>
      cases j with
      | zero => exact ne rfl
      | succ j => exact d a z (h4 j a z')
    | succ i =>
      cases j with
      | zero => exact d a z' (h4 i a z)
      | succ j => exact h3 i j a (fun e => ne (by rw [e])) z z'
  · cases i with
    | zero => exact .inl z
    | succ i => exact .inr (h4 i a z)
theorem ArgsP.ref {H : Hp} {σ : St} {vs : List V} {as : List Arg} {G : FP} {v v0 : V} {i : Nat} {p : List Nat} (h : ArgsP Γ H σ vs as G) (e : σ[i]? = some (some v0)) (e' : vAt H p v0 = some v) : ArgsP Γ H σ (v :: vs) (.pth i p :: as) G := by
  obtain ⟨len, Gs, h1, h2, h3, h4⟩ := h
  refine ⟨by simp [len], fun j => match j with | 0 => FE | j + 1 => Gs j, fun j w u e1 e2 => ?_, fun j w i p e1 e2 => ?_, fun i j a ne z z' => ?_, fun i a z => ?_⟩
  · cases j with
    | zero => simp at e2
    | succ j => exact h1 j w u (by simpa using e1) (by simpa using e2)
  · cases j with
    | zero =>
      simp at e1 e2
      obtain ⟨rfl, rfl⟩ := e2
      subst e1
      exact ⟨v0, e, e'⟩
    | succ j => exact h2 j w i p (by simpa using e1) (by simpa using e2)
  · cases i with
    | zero => exact z
    | succ i =>
      cases j with
      | zero => exact z'
      | succ j => exact h3 i j a (fun e => ne (by rw [e])) z z'
  · cases i with
    | zero => exact z.elim
    | succ i => exact h4 i a z
def aNil : AF := fun S => some (.ok [], S)
def aVal (f : EF) (fs : AF) : AF := fun S => (f S).bind fun rx => match rx with
  | (.ex c, S1) => some (.ex c, S1)
  | (.ok t, S1) => (fs S1).bind fun ry => match ry with
    | (.ex c, S2) => some (.ex c, S2)
    | (.ok l, S2) => some (.ok (.val t :: l), S2)
def argOf (S : TSt) (i : Nat) : Option Arg := (sl S i).bind fun t => if t.im = true then some (.val t) else some (.pth i [])
def aRef (i : Nat) (fs : AF) : AF := fun S => (argOf S i).bind fun x => (fs S).bind fun ry => match ry with
  | (.ex c, S2) => some (.ex c, S2)
  | (.ok l, S2) => some (.ok (x :: l), S2)
theorem a_nil : PA X [] (rdA Γ ar W aNil) := PA.imp pa_nil fun σ H Q q => by
  obtain ⟨S, F, r, S', R, e, k⟩ := q
  cases e
  exact k [] H F FE R argsP_nil (fun _ _ z => z) (fun _ z => z.elim) ((Upd.refl H F).sub fun a z => z.elim id fun z => z.elim)
theorem a_val {es : List Expr} {f : EF} {fs : AF} (ha : PE X e (rdE Γ ar W f)) (hr : PA X es (rdA Γ ar W fs)) (hs : starEach (e :: es) X.env = (false, eval e X.env) :: starEach es X.env := by rfl) : PA X (e :: es) (rdA Γ ar W (aVal f fs)) :=
  PA.imp (pa_cons ha hr hs) fun σ H Q q => by
    obtain ⟨S, F, r, S', R, ee, k⟩ := q
    unfold aVal at ee
    cases e1 : f S with
    | none => rw [e1] at ee; cases ee
    | some o1 =>
      obtain ⟨r1, S1⟩ := o1
      rw [e1] at ee
      simp only [Option.bind_some] at ee
      cases r1 with
      | ex c => cases ee; exact ⟨S, F, .ex c, _, R, e1, k⟩
      | ok t =>
        simp only at ee
        cases e2 : fs S1 with
        | none => rw [e2] at ee; cases ee
        | some o2 =>
          obtain ⟨r2, S2⟩ := o2
          rw [e2] at ee
          simp only [Option.bind_some] at ee
          refine ⟨S, F, .ok t, S1, R, e1, fun v H1 F1 G1 o1 => ⟨S1, F1, r2, S2, o1.rs, e2, ?_⟩⟩
          have up : ∀ {H2 : Hp} {F2 : FP}, Upd H1 H2 F1 F2 → Upd H H2 F (FU F2 G1) := fun u => o1.u.trans u.more
          cases r2 with
          | ex c =>
            cases ee
            exact fun H2 F2 R2 u2 => k H2 F2 R2 ((up u2).sub fun a z => .inl z)
          | ok l =>
            cases ee
            intro vs H2 F2 G2 R2 A2 d2 al2 u2
            have dG : ∀ a, G1 a → G2 a → False := fun a g1 g2 => (u2.new a (.inr g2)).elim (fun z => o1.d a z g1) fun z => o1.al a g1 z
            have dF : ∀ a, F2 a → G1 a → False := fun a f2 g1 => (u2.new a (.inl f2)).elim (fun z => o1.d a z g1) fun z => o1.al a g1 z
            exact k (v :: vs) H2 F2 (FU G1 G2) R2 (A2.val (o1.r.ke u2.toKe fun a g f => o1.d a f g) dG) (fun a f g => g.elim (dF a f) (d2 a f)) (fun a g => g.elim (fun g => u2.toKe.al (o1.al a g) fun f => o1.d a f g) (al2 a))
              ((up u2).sub fun a z => z.elim (fun z => .inl (.inl z)) fun z => z.elim .inr fun z => .inl (.inr z))
theorem a_ref (i : Nat) {x : Str} {es : List Expr} {fs : AF} (hr : PA X es (rdA Γ ar W fs)) (hN : X.N[i]? = some x := by rfl) (hv : Vis X.env.scope x := by first | exact Or.inl rfl | exact Or.inr (Or.inl rfl) | exact Or.inr (Or.inr rfl)) (hd : (x == ("__debug__" : Str)) = false := by decide)
    (hcd : (x == ("__classdict__" : Str)) = false := by decide) (hs : starEach (.Name x pos :: es) X.env = (false, eval (.Name x pos) X.env) :: starEach es X.env := by rfl) : PA X (.Name x pos :: es) (rdA Γ ar W (aRef i fs)) :=
  PA.imp (pa_cons (pe_var hN hv hd hcd) hr hs) fun σ H Q q => by
    obtain ⟨S, F, r, S', R, ee, k⟩ := q
    unfold aRef argOf at ee
    cases e0 : sl S i with
    | none => rw [e0] at ee; cases ee
    | some t =>
      rw [e0] at ee
      simp only [Option.bind_some] at ee
      obtain ⟨v, ev, rv⟩ := R.slot (sl_some.mp e0)
      refine ⟨v, ev, ?_⟩
      cases e2 : fs S with
      | none => by_cases hi : t.im = true <;> simp [hi, e2] at ee
      | some o2 =>
        obtain ⟨r2, S2⟩ := o2
        refine ⟨S, F, r2, S2, R, e2, ?_⟩
        cases r2 with
        | ex c => by_cases hi : t.im = true <;> (simp [hi, e2] at ee; obtain ⟨rfl, rfl⟩ := ee; exact k)
        | ok l =>
          intro vs H2 F2 G2 R2 A2 d2 al2 u2
          by_cases hi : t.im = true
          · simp [hi, e2] at ee
            obtain ⟨rfl, rfl⟩ := ee
            exact k (v :: vs) H2 F2 (FU FE G2) R2 (A2.val ((rv.im hi FE).ke u2.toKe fun _ z => z.elim) fun _ z => z.elim) (fun a f g => g.elim (fun z => z) (d2 a f)) (fun a g => g.elim (fun z => z.elim) (al2 a)) (u2.sub fun a z => z.elim .inl fun z => z.elim (fun z => z.elim) .inr)
          · simp [hi, e2] at ee
            obtain ⟨rfl, rfl⟩ := ee
            exact k (v :: vs) H2 F2 G2 R2 (A2.ref ev rfl) d2 al2 u2

/-- .. read only -/
abbrev BAF := TSt → Option (List Arg)
def rdBA (Γ : Gx) (ar : Fx) (gs : BAF) : TA := fun σ H Q => ∃ S F as, RepS Γ ar H σ S F ∧ gs S = some as ∧ ∀ vs H' G, Same H H' → ArgsP Γ H' σ vs as G → New H H' G → Q vs H'
def baNil : BAF := fun _ => some []
def baVal (g : BF) (gs : BAF) : BAF := fun S => (g S).bind fun t => (gs S).bind fun l => some (.val t :: l)
def baRef (i : Nat) (gs : BAF) : BAF := fun S => (argOf S i).bind fun x => (gs S).bind fun l => some (x :: l)
theorem ArgsP.same {H H' : Hp} {σ : St} {vs : List V} {as : List Arg} {G : FP} (h : ArgsP Γ H σ vs as G) (s : Same H H') : ArgsP Γ H' σ vs as G := by
  obtain ⟨len, Gs, h1, h2, h3, h4⟩ := h
  exact ⟨len, Gs, fun j v t e1 e2 => (h1 j v t e1 e2).same s, fun j v i p e1 e2 => let ⟨v0, q1, q2⟩ := h2 j v i p e1 e2; ⟨v0, q1, vAt_same s q2⟩, h3, h4⟩
theorem ba_nil : PA X [] (rdBA Γ ar baNil) := PA.imp pa_nil fun σ H Q q => by
  obtain ⟨S, F, as, R, e, k⟩ := q
  cases e
  exact k [] H FE (Same.refl H) argsP_nil new_FE
theorem ba_val {es : List Expr} {g : BF} {gs : BAF} (ha : PE X e (rdN Γ ar g)) (hr : PA X es (rdBA Γ ar gs)) (hs : starEach (e :: es) X.env = (false, eval e X.env) :: starEach es X.env := by rfl) : PA X (e :: es) (rdBA Γ ar (baVal g gs)) :=
  PA.imp (pa_cons ha hr hs) fun σ H Q q => by
    obtain ⟨S, F, as, R, ee, k⟩ := q
    unfold baVal at ee
    cases e1 : g S with
    | none => rw [e1] at ee; cases ee
    | some t =>
      rw [e1] at ee
      simp only [Option.bind_some] at ee
      cases e2 : gs S with
      | none => rw [e2] at ee; cases ee
      | some l =>
        rw [e2] at ee
        cases ee
        refine ⟨S, F, t, R, e1, fun v H1 G1 s1 r1 n1 => ⟨S, F, l, R.same s1, e2, fun vs H2 G2 s2 A2 n2 => ?_⟩⟩
        exact k (v :: vs) H2 (FU G1 G2) (s1.trans s2) (A2.val (r1.same s2) fun a g1 g2 => n1.2 a g1 (n2.1 a g2)) ⟨fun a g => g.elim (n1.1 a) fun g => s1.free (n2.1 a g), fun a g => g.elim (fun g => same_al s2 (n1.2 a g)) (n2.2 a)⟩
theorem ba_ref (i : Nat) {x : Str} {es : List Expr} {gs : BAF} (hr : PA X es (rdBA Γ ar gs)) (hN : X.N[i]? = some x := by rfl) (hv : Vis X.env.scope x := by first | exact Or.inl rfl | exact Or.inr (Or.inl rfl) | exact Or.inr (Or.inr rfl)) (hd : (x == ("__debug__" : Str)) = false := by decide)
    (hcd : (x == ("__classdict__" : Str)) = false := by decide) (hs : starEach (.Name x pos :: es) X.env = (false, eval (.Name x pos) X.env) :: starEach es X.env := by rfl) : PA X (.Name x pos :: es) (rdBA Γ ar (baRef i gs)) :=
  PA.imp (pa_cons (pe_var hN hv hd hcd) hr hs) fun σ H Q q => by
    obtain ⟨S, F, as, R, ee, k⟩ := q
    unfold baRef argOf at ee
    cases e0 : sl S i with
    | none => rw [e0] at ee; cases ee
    | some t =>
      rw [e0] at ee
      simp only [Option.bind_some] at ee
      obtain ⟨v, ev, rv⟩ := R.slot (sl_some.mp e0)
      refine ⟨v, ev, ?_⟩
      cases e2 : gs S with
      | none => by_cases hi : t.im = true <;> simp [hi, e2] at ee
      | some l =>
        refine ⟨S, F, l, R, e2, fun vs H2 G2 s2 A2 n2 => ?_⟩
        by_cases hi : t.im = true
        · simp [hi, e2] at ee
          subst ee
          exact k (v :: vs) H2 (FU FE G2) s2 (A2.val ((rv.im hi FE).same s2) fun _ z => z.elim) ⟨fun a g => g.elim (fun z => z.elim) (n2.1 a), fun a g => g.elim (fun z => z.elim) (n2.2 a)⟩
        · simp [hi, e2] at ee
          subst ee
          exact k (v :: vs) H2 G2 s2 (A2.ref ev rfl) n2
def aOfB (gs : BAF) : AF := fun S => (gs S).bind fun l => some (.ok l, S)
theorem a_ba {es : List Expr} {gs : BAF} (h : PA X es (rdBA Γ ar gs)) : PA X es (rdA Γ ar W (aOfB gs)) := PA.imp h fun σ H Q q => by
  obtain ⟨S, F, r, S', R, ee, k⟩ := q
  unfold aOfB at ee
  cases e1 : gs S with
  | none => rw [e1] at ee; cases ee
  | some l =>
    rw [e1] at ee
    cases ee
    exact ⟨S, F, l, R, e1, fun vs H' G s A n => k vs H' F G (R.same s) A (fun a f g => R.al a f (n.1 a g)) n.2 ⟨Ke.of_same F s, fun a h => h.elim .inl fun g => .inr (n.1 a g)⟩⟩

/-! ### displays -/
def valsOf : List Arg → Option (List T)
  | [] => some []
  | .val t :: l => (valsOf l).bind fun ts => some (t :: ts)
  | .pth _ _ :: _ => none
theorem valsOf_get : ∀ {as : List Arg} {ts : List T}, valsOf as = some ts → as.length = ts.length ∧ ∀ (j : Nat) (t : T), ts[j]? = some t → as[j]? = some (.val t)
  | [], ts, e => by cases e; exact ⟨rfl, fun j t h => by simp at h⟩
  | .val u :: l, ts, e => by
    unfold valsOf at e
    cases e1 : valsOf l with
    | none => rw [e1] at e; cases e
    | some us =>
      rw [e1] at e
      cases e
      obtain ⟨h1, h2⟩ := valsOf_get e1
      refine ⟨by simp [h1], fun j t h => ?_⟩
      cases j with
      | zero => simp at h ⊢; exact h
      | succ j => simp at h ⊢; exact h2 j t h
  | .pth _ _ :: _, ts, e => by cases e
theorem ArgsP.vals {H : Hp} {σ : St} {vs : List V} {as : List Arg} {ts : List T} {G : FP} (h : ArgsP Γ H σ vs as G) (e : valsOf as = some ts) :
    vs.length = ts.length ∧ ∃ Gs : Nat → FP, (∀ (j : Nat) (v : V) (t : T), vs[j]? = some v → ts[j]? = some t → Rep Γ H v t (Gs j)) ∧ (∀ i j a, i ≠ j → Gs i a → Gs j a → False) ∧ ∀ i a, Gs i a → G a := by
  obtain ⟨len, Gs, h1, h2, h3, h4⟩ := h
  obtain ⟨e1, e2⟩ := valsOf_get e
  exact ⟨len.trans e1, Gs, fun j v t q1 q2 => h1 j v t q1 (e2 j t q2), h3, h4⟩
def eDisp (k : Kd) (fs : AF) : EF := fun S => (fs S).bind fun rx => match rx with
  | (.ex c, S1) => some (.ex c, S1)
  | (.ok l, S1) => (valsOf l).bind fun ts => if ts.length ≤ 100000 then some (.ok (.nd k ts), S1) else none
theorem upd_new {H : Hp} {p : Addr} {o : HO} (hp : H p = none) : Same H (upd H p o) := fun b u e => by rw [upd_ne (ne_of_none e hp)]; exact e
theorem disp_ok {k : Kd} {mk : List V → HO} (hk : ∀ H a vs, H a = some (mk vs) → At Γ H k a vs) {fs : AF} {σ : St} {H : Hp} {Q : VK} (q : rdE Γ ar W (eDisp k fs) σ H Q) :
    rdA Γ ar W fs σ H fun xs H1 => xs.length ≤ sizeLine ∧ ∀ p, H1 p = none → Q (.ref p) (upd H1 p (mk xs)) := by
  obtain ⟨S, F, r, S', R, e, kk⟩ := q
  unfold eDisp at e
  cases e1 : fs S with
  | none => rw [e1] at e; cases e
  | some o =>
    obtain ⟨r1, S1⟩ := o
    rw [e1] at e
    simp only [Option.bind_some] at e
    cases r1 with
    | ex c => cases e; exact ⟨S, F, _, _, R, e1, kk⟩
    | ok l =>
      simp only at e
      cases e2 : valsOf l with
      | none => rw [e2] at e; cases e
      | some ts =>
        rw [e2] at e
        simp only [Option.bind_some] at e
        by_cases hl : ts.length ≤ 100000
        · rw [if_pos hl] at e
          cases e
          refine ⟨S, F, _, _, R, e1, fun vs H1 F1 G1 R1 A1 d1 al1 u1 => ?_⟩
          obtain ⟨len, Gs, h1, h3, h4⟩ := A1.vals e2
          refine ⟨sz5 (by omega), fun p hp => ?_⟩
          have s := upd_new (o := mk vs) hp
          have npG : ¬ G1 p := fun g => al1 p g hp
          refine kk _ _ F1 (FU (fun a => a = p) G1) ⟨R1.same s, .nd (Fs := Gs) (hk _ p vs upd_same) len (fun _ => ⟨.inl rfl, fun i z => npG (h4 i p z)⟩) (fun i v t q1 q2 => (h1 i v t q1 q2).same s) h3 fun i a z => .inr (h4 i a z), ?_, ?_, ?_⟩
          · rintro a f (z | z)
            · rw [z] at f; exact R1.al p f hp
            · exact d1 a f z
          · rintro a (z | z)
            · rw [z, upd_same]; exact fun q => nomatch q
            · exact same_al s (al1 a z)
          · refine u1.trans ⟨Ke.of_same _ s, fun a z => ?_⟩
            rcases z with z | z | z
            · exact .inl (.inl z)
            · exact .inr (by rw [z]; exact hp)
            · exact .inl (.inr z)
        · rw [if_neg hl] at e; cases e
theorem e_tup {es : List Expr} {x1} {fs : AF} (h : PA X es (rdA Γ ar W fs)) : PE X (.Tuple es x1 pos) (rdE Γ ar W (eDisp .tup fs)) := PE.imp (pe_tup h) fun _ _ _ q => disp_ok (k := .tup) (mk := HO.tup) (fun _ _ _ e => e) q
theorem e_lst {es : List Expr} {fs : AF} (h : PA X es (rdA Γ ar W fs)) : PE X (.List es pos) (rdE Γ ar W (eDisp .lst fs)) := PE.imp (pe_lst h) fun _ _ _ q => disp_ok (k := .lst) (mk := HO.lst) (fun _ _ _ e => e) q
def nTup (gs : BAF) : BF := fun S => (gs S).bind fun l => (valsOf l).bind fun ts => gd (ts.length ≤ 100000 ∧ T.imAll ts = true) (.nd .tup ts)
theorem n_tup {es : List Expr} {x1} {gs : BAF} (h : PA X es (rdBA Γ ar gs)) : PE X (.Tuple es x1 pos) (rdN Γ ar (nTup gs)) := PE.imp (pe_tup h) fun σ H Q q => by
  obtain ⟨S, F, t, R, e, k⟩ := q
  unfold nTup at e
  cases e1 : gs S with
  | none => rw [e1] at e; cases e
  | some l =>
    rw [e1] at e
    simp only [Option.bind_some] at e
    cases e2 : valsOf l with
    | none => rw [e2] at e; cases e
    | some ts =>
      rw [e2] at e
      obtain ⟨⟨c1, c2⟩, rfl⟩ := gd_some.mp e
      refine ⟨S, F, l, R, e1, fun vs H1 G1 s1 A1 n1 => ?_⟩
      obtain ⟨len, Gs, h1, h3, h4⟩ := A1.vals e2
      refine ⟨sz5 (by omega), fun p hp => ?_⟩
      obtain ⟨s, r, n⟩ := new_tup (Γ := Γ) (G := G1) hp len (fun i v t q1 q2 => (h1 i v t q1 q2).mono (h4 i)) c2
      exact k _ _ FE (s1.trans s) r (n.back s1)
end
end VT

/-! VT5: statements, defs and their calls. -/
namespace VT
open PySem L2
section
variable {Γ : Gx} {ar : Fx} {W : WX} {X : Cx} {a b e : Expr} {pos p : Pos} {ga gb : BF} {fa fb : EF}

/-! ### the things that are handed to a def -/
def argTrees : TSt → List Arg → Option (List T)
  | _, [] => some []
  | S, .val t :: as => (argTrees S as).bind fun ts => some (t :: ts)
  | S, .pth i p :: as => (sl S i).bind fun t => (tAt p t).bind fun u => (argTrees (S.set i none) as).bind fun ts => some (u :: ts)
def putBack : TSt → List Arg → List T → TSt
  | S, [], _ => S
  | S, .val _ :: as, ts => putBack S as ts.tail
  | S, .pth i p :: as, ts => match sl S i, ts.head? with
    | some t, some u => (putBack (S.set i none) as ts.tail).set i (some (tPut p t u))
    | _, _ => putBack (S.set i none) as ts.tail
theorem RepS.mono {H : Hp} {σ : St} {S : TSt} {F F' : FP} (h : RepS Γ ar H σ S F) (s : ∀ a, F a → F' a) (al : ∀ a, F' a → H a ≠ none) : RepS Γ ar H σ S F' := by
  obtain ⟨len, arg, ⟨Fs, h1, h2, h3⟩, _⟩ := h
  exact ⟨len, arg, ⟨Fs, h1, h2, fun i a z => s a (h3 i a z)⟩, al⟩
theorem got {H : Hp} {σ : St} : ∀ (as : List Arg) {S : TSt} {F : FP} {vs : List V} {ts : List T}, RepS Γ ar H σ S F → vs.length = as.length →
    (∀ (j : Nat) (v : V) (i : Nat) (p : List Nat), vs[j]? = some v → as[j]? = some (.pth i p) → ∃ v0, σ[i]? = some (some v0) ∧ vAt H p v0 = some v) → argTrees S as = some ts →
    ∃ Ps : Nat → FP, ts.length = as.length ∧ (∀ (j : Nat) (u : T), as[j]? = some (.val u) → ts[j]? = some u) ∧
      (∀ (j : Nat) (v : V) (t : T) (i : Nat) (p : List Nat), vs[j]? = some v → ts[j]? = some t → as[j]? = some (.pth i p) → Rep Γ H v t (Ps j)) ∧ (∀ i j a, i ≠ j → Ps i a → Ps j a → False) ∧ (∀ j a, Ps j a → F a) ∧
      ∀ H' (ts' : List T) (Qs : Nat → FP), ts'.length = as.length → (∀ b o, F b → (∀ j, ¬ Ps j b) → H b = some o → H' b = some o) → (∀ b o, Im o → H b = some o → H' b = some o) →
        (∀ (j : Nat) (v : V) (t : T) (i : Nat) (p : List Nat), vs[j]? = some v → ts'[j]? = some t → as[j]? = some (.pth i p) → Rep Γ H' v t (Qs j)) → (∀ i j a, i ≠ j → Qs i a → Qs j a → False) →
        (∀ j a, Qs j a → (∃ m, Ps m a) ∨ ¬ F a) → (∀ j a, Qs j a → H' a ≠ none) →
        ∃ F', RepS Γ ar H' σ (putBack S as ts') F' ∧ ∀ a, F' a → (F a ∧ ∀ j, ¬ Ps j a) ∨ ∃ j, Qs j a
  | [], S, F, vs, ts, R, hl, hp, e => by
    cases e
    refine ⟨fun _ => FE, rfl, fun j u z => by simp at z, fun j v t i p _ z => by simp at z, fun _ _ _ _ z => z.elim, fun _ _ z => z.elim, fun H' ts' Qs l2 kp im r d nw al => ⟨F, ?_, fun a f => .inl ⟨f, fun _ z => z⟩⟩⟩
    obtain ⟨len, arg, ⟨Fs, h1, h2, h3⟩, al0⟩ := R
    refine ⟨len, arg, ⟨Fs, fun i t q => ?_, h2, h3⟩, fun a f => ?_⟩
    · obtain ⟨v, ev, rv⟩ := h1 i t q
      exact ⟨v, ev, rv.frame (fun a o f q => kp a o (h3 i a f) (fun _ z => z) q) im⟩
    · cases q : H a with
      | none => exact absurd q (al0 a f)
      | some o => rw [kp a o f (fun _ z => z) q]; exact fun z => nomatch z
  | .val u :: as, S, F, vs, ts, R, hl, hp, e => by
    unfold argTrees at e
    cases e1 : argTrees S as with
    | none => rw [e1] at e; cases e
    | some ts1 =>
      rw [e1] at e
      cases e
      match vs, hl with
      | v :: vs, hl =>
        obtain ⟨Ps, l1, a0, a1, a2, a3, back⟩ := got as R (vs := vs) (by simpa using hl) (fun j w i p q1 q2 => hp (j + 1) w i p (by simpa using q1) (by simpa using q2)) e1
        refine ⟨fun j => match j with | 0 => FE | j + 1 => Ps j, by simp [l1], fun j w q => ?_, fun j w t i p q1 q2 q3 => ?_, fun i j a ne z z' => ?_, fun j a z => ?_, fun H' ts' Qs l2 kp im r d nw al => ?_⟩
        · cases j with
          | zero => simp at q ⊢; exact q
          | succ j => simp at q ⊢; exact a0 j w q
        · cases j with
          | zero => simp at q3
          | succ j => exact a1 j w t i p (by simpa using q1) (by simpa using q2) (by simpa using q3)
        · cases i with
          | zero => exact z
          | succ i =>
            cases j with
            | zero => exact z'
            | succ j => exact a2 i j a (fun q => ne (by rw [q])) z z'
        · cases j with
          | zero => exact z.elim
          | succ j => exact a3 j a z
        · match ts', l2 with
          | t' :: ts', l2 =>
            obtain ⟨F', R', sub⟩ := back H' ts' (fun j => Qs (j + 1)) (by simpa using l2) (fun b o f n q => kp b o f (fun j => match j with | 0 => fun z => z | j + 1 => n j) q) im (fun j w t i p q1 q2 q3 => r (j + 1) w t i p (by simpa using q1) (by simpa using q2) (by simpa using q3))
              (fun i j a ne z z' => d (i + 1) (j + 1) a (by omega) z z') (fun j a z => (nw (j + 1) a z).elim (fun ⟨m, z⟩ => match m, z with | 0, z => z.elim | m + 1, z => .inl ⟨m, z⟩) .inr) fun j a z => al (j + 1) a z
            refine ⟨F', R', fun a f => (sub a f).elim (fun ⟨f, n⟩ => .inl ⟨f, fun j => match j with | 0 => fun z => z | j + 1 => n j⟩) fun ⟨j, z⟩ => .inr ⟨j + 1, z⟩⟩
  | .pth i p :: as, S, F, vs, ts, R, hl, hp, e => by
    unfold argTrees at e
    cases e0 : sl S i with
    | none => rw [e0] at e; cases e
    | some t0 =>
      rw [e0] at e
      simp only [Option.bind_some] at e
      cases e1 : tAt p t0 with
      | none => rw [e1] at e; cases e
      | some u0 =>
        rw [e1] at e
        simp only [Option.bind_some] at e
        cases e2 : argTrees (S.set i none) as with
        | none => rw [e2] at e; cases e
        | some ts1 =>
          rw [e2] at e
          cases e
          match vs, hl with
          | v :: vs, hl =>
            obtain ⟨v0, F1, Gi, ev, rv, R1, d1, s1, s2⟩ := R.take (sl_some.mp e0)
            obtain ⟨v1, G, b1, b2, b3, bk⟩ := VT.focus p rv e1
            obtain ⟨v0', q1, q2⟩ := hp 0 v i p rfl rfl
            have ee : v0 = v0' := Option.some.inj (Option.some.inj (ev.symm.trans q1))
            subst ee
            have ee : v1 = v := Option.some.inj (b1.symm.trans q2)
            subst ee
            obtain ⟨Ps, l1, a0, a1, a2, a3, back⟩ := got as R1 (vs := vs) (by simpa using hl) (fun j w i p q1 q2 => hp (j + 1) w i p (by simpa using q1) (by simpa using q2)) e2
            refine ⟨fun j => match j with | 0 => G | j + 1 => Ps j, by simp [l1], fun j w q => ?_, fun j w t i' p' q1 q2 q3 => ?_, fun i' j a ne z z' => ?_, fun j a z => ?_, fun H' ts' Qs l2 kp im r d nw al => ?_⟩
            · cases j with
              | zero => simp at q
              | succ j => simp at q ⊢; exact a0 j w q
            · cases j with
              | zero =>
                simp at q1 q2
                subst q1 q2
                exact b2
              | succ j => exact a1 j w t i' p' (by simpa using q1) (by simpa using q2) (by simpa using q3)
            · cases i' with
              | zero =>
                cases j with
                | zero => exact ne rfl
                | succ j => exact d1 a (a3 j a z') (b3 a z)
              | succ i' =>
                cases j with
                | zero => exact d1 a (a3 i' a z) (b3 a z')
                | succ j => exact a2 i' j a (fun q => ne (by rw [q])) z z'
            · cases j with
              | zero => exact s2 a (b3 a z)
              | succ j => exact s1 a (a3 j a z)
            · match ts', l2 with
              | t' :: ts', l2 =>
                have kpF1 : ∀ b o, F1 b → (∀ j, ¬ Ps j b) → H b = some o → H' b = some o := fun b o f n q => kp b o (s1 b f) (fun j => match j with | 0 => fun z => d1 b f (b3 b z) | j + 1 => n j) q
                obtain ⟨F', R', sub⟩ := back H' ts' (fun j => Qs (j + 1)) (by simpa using l2) kpF1 im (fun j w t i p q1 q2 q3 => r (j + 1) w t i p (by simpa using q1) (by simpa using q2) (by simpa using q3))
                  (fun i j a ne z z' => d (i + 1) (j + 1) a (by omega) z z') (fun j a z => (nw (j + 1) a z).elim (fun ⟨m, z⟩ => match m, z with | 0, z => .inr fun f => d1 a f (b3 a z) | m + 1, z => .inl ⟨m, z⟩) fun z => .inr fun f => z (s1 a f)) fun j a z => al (j + 1) a z
                have rb := bk H' t' (Qs 0) ⟨fun b o f n q => kp b o (s2 b f) (fun j => match j with | 0 => n | j + 1 => fun z => d1 b (a3 j b z) f) q, im⟩
                  (fun a z => (nw 0 a z).elim (fun ⟨m, z⟩ => match m, z with | 0, z => .inl z | m + 1, z => .inr fun f => d1 a (a3 m a z) f) fun z => .inr fun f => z (s2 a f)) (r 0 v1 t' i p rfl rfl rfl)
                have nP : ∀ a, Gi a → ∀ m, ¬ Ps m a := fun a g m z => d1 a (a3 m a z) g
                have dd : ∀ a, F' a → (Gi a ∧ ¬ G a) ∨ Qs 0 a → False := fun a f z => by
                  rcases sub a f with ⟨f, n⟩ | ⟨j, f⟩
                  · rcases z with z | z
                    · exact d1 a f z.1
                    · rcases nw 0 a z with ⟨m, y⟩ | y
                      · match m, y with
                        | 0, y => exact d1 a f (b3 a y)
                        | m + 1, y => exact n m y
                      · exact y (s1 a f)
                  · rcases z with z | z
                    · rcases nw (j + 1) a f with ⟨m, y⟩ | y
                      · match m, y with
                        | 0, y => exact z.2 y
                        | m + 1, y => exact nP a z.1 m y
                      · exact y (s2 a z.1)
                    · exact d 0 (j + 1) a (by omega) z f
                have alG : ∀ a, ((Gi a ∧ ¬ G a) ∨ Qs 0 a) → H' a ≠ none := fun a z => z.elim (fun z => by
                  cases q : H a with
                  | none => exact absurd q (R.al a (s2 a z.1))
                  | some o => rw [kp a o (s2 a z.1) (fun j => match j with | 0 => z.2 | j + 1 => nP a z.1 j) q]; exact fun y => nomatch y) (al 0 a)
                have Rg := R'.give ev rb dd alG
                refine ⟨fun a => F' a ∨ ((Gi a ∧ ¬ G a) ∨ Qs 0 a), ?_, fun a f => ?_⟩
                · show RepS Γ ar H' σ (putBack S (.pth i p :: as) (t' :: ts')) _
                  unfold putBack
                  rw [e0]
                  exact Rg
                · rcases f with f | f | f
                  · rcases sub a f with ⟨f, n⟩ | ⟨j, f⟩
                    · exact .inl ⟨s1 a f, fun j => match j with | 0 => fun z => d1 a f (b3 a z) | j + 1 => n j⟩
                    · exact .inr ⟨j + 1, f⟩
                  · exact .inl ⟨s2 a f.1, fun j => match j with | 0 => f.2 | j + 1 => nP a f.1 j⟩
                  · exact .inr ⟨0, f⟩

/-! ### a def's promise by a function on trees -/
abbrev MF := List T → Option (Rs T × List T)
abbrev RepA (Γ : Gx) (H : Hp) (vs : List V) (ts : List T) (F : FP) : Prop := RepS Γ (fun i => vs[i]?) H (vs.map some) (ts.map some) F
def spT (Γ : Gx) (n : Nat) (m : MF) : Sp := fun vs H Q E => ∃ ts F r ts', vs.length = n ∧ RepA Γ H vs ts F ∧ m ts = some (r, ts') ∧ (match r with
  | .ok t => ∀ v H' F' G, RepA Γ H' vs ts' F' → Rep Γ H' v t G → (∀ a, F' a → G a → False) → (∀ a, G a → H' a ≠ none) → Upd H H' F (FU F' G) → Q v H'
  | .ex c => ∀ H' F', RepA Γ H' vs ts' F' → Upd H H' F F' → E (.ref (Γ.cl c)) none H')
theorem repA_get {H : Hp} {vs : List V} {ts : List T} {F : FP} (R : RepA Γ H vs ts F) : vs.length = ts.length ∧ ∃ Fs : Nat → FP, (∀ (j : Nat) (v : V) (t : T), vs[j]? = some v → ts[j]? = some t → Rep Γ H v t (Fs j)) ∧ (∀ i j a, i ≠ j → Fs i a → Fs j a → False) ∧ (∀ i a, Fs i a → F a) ∧ ∀ a, F a → H a ≠ none := by
  obtain ⟨len, arg, ⟨Fs, h1, h2, h3⟩, al⟩ := R
  refine ⟨by simpa using len.symm, Fs, fun j v t e1 e2 => ?_, h2, h3, al⟩
  obtain ⟨w, ew, r⟩ := h1 j t (by rw [List.getElem?_map, e2]; rfl)
  rw [List.getElem?_map, e1] at ew
  have q : v = w := Option.some.inj (Option.some.inj ew)
  rw [q]
  exact r
def Arg.isP : Arg → Bool
  | .val _ => false
  | .pth _ _ => true
/-- the heart of a call: the arguments' things ahead of it, and all behind it -/
theorem call_core {H : Hp} {σ : St} {S : TSt} {F Gv : FP} {vs : List V} {as : List Arg} {ts : List T} (R : RepS Γ ar H σ S F) (A : ArgsP Γ H σ vs as Gv) (d : ∀ a, F a → Gv a → False) (alv : ∀ a, Gv a → H a ≠ none) (e1 : argTrees S as = some ts) :
    ∃ Fa, RepA Γ H vs ts Fa ∧ (∀ a, Fa a → F a ∨ Gv a) ∧ ∀ {H' : Hp} {ts' : List T} {F' G : FP}, ts'.length = as.length → RepA Γ H' vs ts' F' → (∀ a, F' a → G a → False) → Upd H H' Fa (FU F' G) →
      ∃ (F'' : FP) (Fs' : Nat → FP), RepS Γ ar H' σ (putBack S as ts') F'' ∧ (∀ a, F'' a → G a → False) ∧ Upd H H' (FU F Gv) (FU (FU F'' G) (fun a => ∃ (j : Nat) (x : Arg), as[j]? = some x ∧ x.isP = false ∧ Fs' j a)) ∧
        (∀ (j : Nat) (v : V) (t : T), vs[j]? = some v → ts'[j]? = some t → Rep Γ H' v t (Fs' j)) ∧ (∀ i j a, i ≠ j → Fs' i a → Fs' j a → False) ∧ (∀ (j : Nat) (x : Arg) (a : Addr), as[j]? = some x → x.isP = false → Fs' j a → F'' a → False) ∧ (∀ j a, Fs' j a → G a → False) ∧ ∀ j a, Fs' j a → H' a ≠ none := by
  obtain ⟨len, Gs, g1, g2, g3, g4⟩ := A
  obtain ⟨Ps, l1, a0, a1, a2, a3, back⟩ := got as R len g2 e1
  have key : ∀ j v t, vs[j]? = some v → ts[j]? = some t → Rep Γ H v t (FU (Ps j) (Gs j)) := fun j v t q1 q2 => by
    have hj : j < as.length := by rw [← len]; exact (List.getElem?_eq_some_iff.mp q1).1
    cases q3 : as[j]? with
    | none => rw [List.getElem?_eq_none_iff] at q3; omega
    | some x =>
      cases x with
      | val u =>
        have q4 := a0 j u q3
        rw [q2] at q4
        cases q4
        exact (g1 j v t q1 q3).mono fun _ z => .inr z
      | pth i p => exact (a1 j v t i p q1 q2 q3).mono fun _ z => .inl z
  have hd : ∀ i j a, i ≠ j → FU (Ps i) (Gs i) a → FU (Ps j) (Gs j) a → False := fun i j a ne z z' => by
    rcases z with z | z <;> rcases z' with z' | z'
    · exact a2 i j a ne z z'
    · exact d a (a3 i a z) (g4 j a z')
    · exact d a (a3 j a z') (g4 i a z)
    · exact g3 i j a ne z z'
  refine ⟨fun a => ∃ j, FU (Ps j) (Gs j) a, ?_, fun a ⟨j, z⟩ => z.elim (fun z => .inl (a3 j a z)) fun z => .inr (g4 j a z), fun {H' ts' F' G} hlen R' dG u => ?_⟩
  · refine ⟨by rw [List.length_map, List.length_map, l1, len], fun i v q => by rw [List.getElem?_map, q]; rfl, ⟨fun j => FU (Ps j) (Gs j), fun j t q => ?_, hd, fun j a z => ⟨j, z⟩⟩, fun a ⟨j, z⟩ => z.elim (fun z => R.al a (a3 j a z)) fun z => alv a (g4 j a z)⟩
    rw [List.getElem?_map] at q
    cases q2 : ts[j]? with
    | none => rw [q2] at q; cases q
    | some t2 =>
      rw [q2] at q
      cases q
      have hj : j < vs.length := by rw [len, ← l1]; exact (List.getElem?_eq_some_iff.mp q2).1
      exact ⟨vs[j], by rw [List.getElem?_map, List.getElem?_eq_getElem hj]; rfl, key j _ _ (List.getElem?_eq_getElem hj) q2⟩
  · obtain ⟨lA, Fs', k1, k2, k3, k4⟩ := repA_get R'
    have nw : ∀ a, FU F' G a → (∃ m, Ps m a) ∨ ¬ F a := fun a z => by
      rcases u.new a z with ⟨m, z | z⟩ | z
      · exact .inl ⟨m, z⟩
      · exact .inr fun f => d a f (g4 m a z)
      · exact .inr fun f => R.al a f z
    obtain ⟨F'', R'', sub⟩ := back H' ts' (fun j a => (∃ x, as[j]? = some x ∧ x.isP = true) ∧ Fs' j a) hlen (fun b o f n q => u.keep b o q fun ⟨j, z⟩ => z.elim (n j) fun z => d b f (g4 j b z)) u.imm
      (fun j v t i p q1 q2 q3 => (k1 j v t q1 q2).mono fun a z => ⟨⟨_, q3, rfl⟩, z⟩) (fun i j a ne z z' => k2 i j a ne z.2 z'.2) (fun j a z => nw a (.inl (k3 j a z.2))) fun j a z => k4 a (k3 j a z.2)
    have aux : ∀ a, FU F' G a → FU F Gv a ∨ H a = none := fun a z => (u.new a z).elim (fun ⟨j, z⟩ => .inl (z.elim (fun z => .inl (a3 j a z)) fun z => .inr (g4 j a z))) .inr
    refine ⟨F'', Fs', R'', fun a f g => ?_, ⟨⟨fun b o q n => u.keep b o q fun ⟨j, z⟩ => n (z.elim (fun z => .inl (a3 j b z)) fun z => .inr (g4 j b z)), u.imm⟩, fun a z => ?_⟩, k1, k2, fun j x a q1 q2 z f => ?_, fun j a z g => dG a (k3 j a z) g, fun j a z => k4 a (k3 j a z)⟩
    · rcases sub a f with ⟨f, nn⟩ | ⟨j, f⟩
      · rcases nw a (.inr g) with ⟨m, z⟩ | z
        · exact nn m z
        · exact z f
      · exact dG a (k3 j a f.2) g
    · rcases z with (z | z) | ⟨j, x, _, _, z⟩
      · rcases sub a z with ⟨f, _⟩ | ⟨j, f⟩
        · exact .inl (.inl f)
        · exact aux a (.inl (k3 j a f.2))
      · exact aux a (.inr z)
      · exact aux a (.inl (k3 j a z))
    · rcases sub a f with ⟨f, nn⟩ | ⟨m, f⟩
      · rcases nw a (.inl (k3 j a z)) with ⟨m, y⟩ | y
        · exact nn m y
        · exact y f
      · by_cases hm : m = j
        · subst hm
          obtain ⟨⟨x', q3, q4⟩, _⟩ := f
          rw [q1] at q3
          cases q3
          rw [q2] at q4
          cases q4
        · exact k2 m j a hm f.2 z
def callR (m : MF) (n : Nat) (S : TSt) (as : List Arg) : Option (Rs T × TSt) := if as.length = n then (argTrees S as).bind fun ts => (m ts).bind fun rt => if rt.2.length = n then some (rt.1, putBack S as rt.2) else none else none
theorem call_ok {H : Hp} {σ : St} {S : TSt} {F Gv : FP} {vs : List V} {as : List Arg} {m : MF} {n : Nat} {r : Rs T} {S' : TSt} {Q : VK} {E : XK} (R : RepS Γ ar H σ S F) (A : ArgsP Γ H σ vs as Gv) (d : ∀ a, F a → Gv a → False) (alv : ∀ a, Gv a → H a ≠ none)
    (e : callR m n S as = some (r, S'))
    (hk : ∀ t, r = .ok t → ∀ v H' F' G, RepS Γ ar H' σ S' F' → Rep Γ H' v t G → (∀ a, F' a → G a → False) → (∀ a, G a → H' a ≠ none) → Upd H H' (FU F Gv) (FU F' G) → Q v H')
    (hx : ∀ c, r = .ex c → ∀ H' F', RepS Γ ar H' σ S' F' → Upd H H' (FU F Gv) F' → E (.ref (Γ.cl c)) none H') : spT Γ n m vs H Q E := by
  unfold callR at e
  by_cases hn : as.length = n
  · rw [if_pos hn] at e
    cases e1 : argTrees S as with
    | none => rw [e1] at e; cases e
    | some ts =>
      rw [e1] at e
      simp only [Option.bind_some] at e
      cases e2 : m ts with
      | none => rw [e2] at e; cases e
      | some rt =>
        obtain ⟨r0, ts'⟩ := rt
        rw [e2] at e
        simp only [Option.bind_some] at e
        by_cases hlen : ts'.length = n
        · rw [if_pos hlen] at e
          have e3 : (r0, putBack S as ts') = (r, S') := Option.some.inj e
          obtain ⟨Fa, RA, sA, fin⟩ := call_core R A d alv e1
          refine ⟨ts, Fa, r0, ts', A.len.trans hn, RA, e2, ?_⟩
          cases r0 with
          | ok t =>
            cases e3
            intro v H' F' G R' rv dG alG u
            obtain ⟨F'', Fs', R'', d'', u'', _⟩ := fin (hlen.trans hn.symm) R' dG u
            exact hk t rfl v H' F'' G R'' rv d'' alG (u''.sub fun a z => .inl z)
          | ex c =>
            cases e3
            intro H' F' R' u
            obtain ⟨F'', Fs', R'', d'', u'', _⟩ := fin (G := FE) (hlen.trans hn.symm) R' (fun _ _ z => z) (u.sub fun a z => z.elim id fun z => z.elim)
            exact hx c rfl H' F'' R'' (u''.sub fun a z => .inl (.inl z))
        · rw [if_neg hlen] at e; cases e
  · rw [if_neg hn] at e; cases e
def eCall (m : MF) (n : Nat) (fs : AF) : EF := fun S => (fs S).bind fun rx => match rx with
  | (.ex c, S1) => some (.ex c, S1)
  | (.ok as, S1) => callR m n S1 as
theorem tCall_ok {m : MF} {n : Nat} {fs : AF} {σ : St} {H : Hp} {Q : VK} (q : rdE Γ ar W (eCall m n fs) σ H Q) :
    rdA Γ ar W fs σ H fun vs H1 => spT Γ n m vs H1 Q (WE W σ) := by
  obtain ⟨S, F, r, S', R, e, k⟩ := q
  unfold eCall at e
  cases e1 : fs S with
  | none => rw [e1] at e; cases e
  | some o =>
    obtain ⟨r1, S1⟩ := o
    rw [e1] at e
    simp only [Option.bind_some] at e
    cases r1 with
    | ex c => cases e; exact ⟨S, F, _, _, R, e1, k⟩
    | ok as =>
      simp only at e
      refine ⟨S, F, _, _, R, e1, fun vs H1 F1 G1 R1 A1 d1 al1 u1 => ?_⟩
      refine call_ok R1 A1 d1 al1 e (fun t et v H' F' G R' rv d al u => ?_) fun c ec H' F' R' u => ?_
      · subst et
        exact k v H' F' G ⟨R', rv, d, al, u1.trans u⟩
      · subst ec
        exact k H' F' R' (u1.trans u)

/-! ### the rules for calls -/
structure DefOk (P : Program) (w : World) (Γ : Gx) (mg : Str → Option Value) (base : Heap) (k : Nat) (x : Str) (n : Nat) (m : MF) : Prop where
  ex : ∃ f fd ps, FnOk P w Γ.K mg base (L2N.CX P w) k f fd ps (spT Γ n m) ∧ mg x = some (.ref f) ∧ PySem.W.keepIn Γ.K (.ref f) = true ∧ Binds Γ.K fd ps []
structure MethOk (P : Program) (w : World) (Γ : Gx) (mg : Str → Option Value) (base : Heap) (k : Nat) (c : Nat) (x : Str) (n : Nat) (m : MF) : Prop where
  ex : ∃ f fd ps, FnOk P w Γ.K mg base (L2N.CX P w) k f fd ps (spT Γ n m) ∧ Cls Γ.K (Γ.cl c) ∧ Meth Γ.K (Γ.cl c) x f ∧ Binds Γ.K fd ps []
structure MakeOk (P : Program) (w : World) (Γ : Gx) (mg : Str → Option Value) (base : Heap) (k : Nat) (c : Nat) (x : Str) (n : Nat) (m : MF) : Prop where
  ex : ∃ f fd ps, FnOk P w Γ.K mg base (L2N.CX P w) k f fd ps (spT Γ n m) ∧ mg x = some (.ref (Γ.cl c)) ∧ Mk Γ.K (Γ.cl c) f ∧ Binds Γ.K fd ps []
theorem e_call {k n : Nat} {x : Str} {m : MF} {es : List Expr} {fs : AF} (D : DefOk X.prog X.w Γ X.mg X.base k x n m) (hr : Room k X.A) (tk : L2N.Takes X W) (ha : PA X (e :: es) (rdA Γ ar W fs)) (hK : X.K = Γ.K := by rfl) (hg : Gl X x := by rfl) (hdb : (x == ("__debug__" : Str)) = false := by decide)
    (he : starEach (e :: es) X.env = (false, eval e X.env) :: starEach es X.env := by rfl) (hpl : (backTo pos (starEach es X.env)).any (·.1) = false := by rfl) : PE X (.Call (.Name x p) (e :: es) [] pos) (rdE Γ ar W (eCall m n fs)) := by
  obtain ⟨f, fd, ps, F, hm, hk, hb⟩ := D.ex
  rw [← hK] at F hk hb
  exact PE.imp (pe_callS F hr hg hm hk hb (fun σ => L2N.passAt tk σ) ha hdb he hpl) fun σ H Q q => tCall_ok q
end
end VT

/-! VT6: methods, new instances, the rule for a def, plain statements, places. -/
namespace VT
open PySem L2
theorem passN {X : Cx} : Passes (L2N.CX X.prog X.w) X E0 := fun _ _ _ _ _ _ _ h => by
  obtain ⟨a, B, H', cls, d, h1, h2, h3, h4, h5, h6, h7, z⟩ := h
  exact z.elim
section
variable {Γ : Gx} {ar : Fx} {W : WX} {X : Cx} {a b e o : Expr} {pos p apos : Pos} {ga gb : BF} {fa fb : EF} {es : List Expr}

theorem lookup_zip_none {x : Str} : ∀ {ns : List Str} {vs : List V}, x ∉ ns → (ns.zip vs).lookup x = none
  | [], _, _ => rfl
  | _ :: _, [], _ => rfl
  | n :: ns, v :: vs, h => by
    have h1 : x ≠ n := fun e => h (by rw [e]; exact List.mem_cons_self)
    have h2 : x ∉ ns := fun e => h (List.mem_cons_of_mem _ e)
    show (match x == n with | true => some v | false => (ns.zip vs).lookup x) = none
    rw [beq_eq_false_iff_ne.mpr h1]
    exact lookup_zip_none h2
/-- an instance stands there -/
theorem Rep.ins {H : Hp} {x : V} {c : Nat} {ns : List Str} {ts : List T} {G : FP} (h : Rep Γ H x (.nd (.obj c ns) ts) G) : ∃ a dx vs, x = .ref a ∧ H a = some (.ins (Γ.cl c) dx (ns.zip vs)) ∧ ns.length = vs.length := by
  cases h with
  | nd hat hl hm hc hd hs =>
    obtain ⟨l, dx, e⟩ := hat
    exact ⟨_, dx, _, rfl, e, l⟩

def tMethE (C : Addr) (m : Str) (sp : Sp) (E : St → XK) (ta : TE) (t : TA) : TE := fun σ H Q => ta σ H fun x H1 => ∃ a dx fs, x = .ref a ∧ H1 a = some (.ins C dx fs) ∧ fs.lookup m = none ∧ t σ H1 fun vs H2 => sp (x :: vs) H2 Q (E σ)
theorem pe_methE {CX : CXT} {k : Nat} {f C : Addr} {fd : FuncData} {ps : List Str} {sp : Sp} {E : St → XK} {m : Str} {ta : TE} {t : TA} {pl : Sem Bool} (he : PE X o ta) (c : Cls X.K C) (hm : Meth X.K C m f) (F : FnOk X.prog X.w X.K X.mg X.base CX k f fd ps sp) (hr : Room k X.A)
    (hb : Binds X.K fd ps []) (hx : ∀ σ, PassesAt CX X σ (E σ)) (ha : PA X (e :: es) t) (hst : starEach (e :: es) X.env = (false, eval e X.env) :: starEach es X.env) (hpl : (backTo pos (starEach es X.env)).any (·.1) = false)
    (ht : eval (.Call (.Attribute o m apos) (e :: es) [] pos) X.env = (do let ov ← eval o X.env; standAt apos.atName; let (g, one) ← holding [ov] (getMethod ov m pl); callWith pos g one (backTo pos (starEach (e :: es) X.env)) (backToKw pos (keywordEach [] X.env)))) :
    PE X (.Call (.Attribute o m apos) (e :: es) [] pos) (tMethE C m sp E ta t) := by
  refine ⟨fun pins s σ H Q I h => ?_⟩
  refine PySem.W.methodCall_KW (pl := pl) (thn (he.run pins s σ H _ I h) fun u s1 hu => ?_) ht
  obtain ⟨x, H1, I1, rx, a, dx, fs, ex, ea, l, q⟩ := hu
  subst ex
  have eu : u = Value.ref a := rx
  subst eu
  refine getmeth_ok I1 ea c hm l ?_
  refine PySem.W.callWith_K (first := [.ref a]) (h₀ := X.base) I.ok.mod.kin hm.kp (thn (ha.run pos pins s1 σ H1 _ I1 q) fun us s2 hus => ?_) hst hpl
  obtain ⟨vs, H2, I2, r, q2⟩ := hus
  exact ⟨I2.kIn, run_fnS (us := .ref a :: us) (vs := .ref a :: vs) F hr hb (hx σ) I2 (.cons rfl r) q2⟩
theorem pe_methE0 {CX : CXT} {k : Nat} {f C : Addr} {fd : FuncData} {ps : List Str} {sp : Sp} {E : St → XK} {m : Str} {ta : TE} {pl : Sem Bool} (he : PE X o ta) (c : Cls X.K C) (hm : Meth X.K C m f) (F : FnOk X.prog X.w X.K X.mg X.base CX k f fd ps sp) (hr : Room k X.A)
    (hb : Binds X.K fd ps []) (hx : ∀ σ, PassesAt CX X σ (E σ))
    (ht : eval (.Call (.Attribute o m apos) [] [] pos) X.env = (do let ov ← eval o X.env; standAt apos.atName; let (g, one) ← holding [ov] (getMethod ov m pl); callWith pos g one (backTo pos (starEach [] X.env)) (backToKw pos (keywordEach [] X.env)))) :
    PE X (.Call (.Attribute o m apos) [] [] pos) (tMethE C m sp E ta tNil) := by
  refine ⟨fun pins s σ H Q I h => ?_⟩
  refine PySem.W.methodCall_KW (pl := pl) (thn (he.run pins s σ H _ I h) fun u s1 hu => ?_) ht
  obtain ⟨x, H1, I1, rx, a, dx, fs, ex, ea, l, q⟩ := hu
  subst ex
  have eu : u = Value.ref a := rx
  subst eu
  refine getmeth_ok I1 ea c hm l ?_
  exact PySem.W.callWith_K0 (first := [.ref a]) I1.kIn hm.kp (run_fnS (us := [.ref a]) (vs := [.ref a]) F hr hb (hx σ) I1 (.cons rfl .nil) q)

/-- an instance of the class c, without an attribute x -/
def isObj (c : Nat) (x : Str) : T → Bool
  | .nd (.obj c' ns) _ => c' == c && !(ns.contains x)
  | _ => false
theorem isObj_of {c : Nat} {x : Str} {t : T} (h : isObj c x t = true) : ∃ ns ts, t = .nd (.obj c ns) ts ∧ x ∉ ns := by
  unfold isObj at h
  split at h
  · rw [Bool.and_eq_true] at h
    have h1 := beq_iff_eq.mp h.1
    subst h1
    refine ⟨_, _, rfl, fun m => ?_⟩
    have h2 := h.2
    rw [List.contains_iff_mem.mpr m] at h2
    cases h2
  · cases h
/-- x.m(..), x a name; the arguments with effects -/
def eMeth (m : MF) (n c : Nat) (x : Str) (i : Nat) (fs : AF) : EF := fun S => (sl S i).bind fun t => if isObj c x t = true then (fs S).bind fun rx => match rx with
  | (.ex k, S1) => some (.ex k, S1)
  | (.ok as, S1) => callR m n S1 (.pth i [] :: as) else none
theorem e_meth {k n c : Nat} (i : Nat) {x y : Str} {m : MF} {fs : AF} {pos' : Pos} {pl : Sem Bool} (D : MethOk X.prog X.w Γ X.mg X.base k c x n m) (hr : Room k X.A) (tk : L2N.Takes X W) (ha : PA X (e :: es) (rdA Γ ar W fs)) (hK : X.K = Γ.K := by rfl)
    (hst : starEach (e :: es) X.env = (false, eval e X.env) :: starEach es X.env := by rfl) (hpl : (backTo pos (starEach es X.env)).any (·.1) = false := by rfl)
    (ht : eval (.Call (.Attribute (.Name y pos') x apos) (e :: es) [] pos) X.env = (do let ov ← eval (.Name y pos') X.env; standAt apos.atName; let (g, one) ← holding [ov] (getMethod ov x pl); callWith pos g one (backTo pos (starEach (e :: es) X.env)) (backToKw pos (keywordEach [] X.env))) := by rfl)
    (hN : X.N[i]? = some y := by rfl) (hv : Vis X.env.scope y := by first | exact Or.inl rfl | exact Or.inr (Or.inl rfl) | exact Or.inr (Or.inr rfl)) (hd : (y == ("__debug__" : Str)) = false := by decide) (hcd : (y == ("__classdict__" : Str)) = false := by decide) :
    PE X (.Call (.Attribute (.Name y pos') x apos) (e :: es) [] pos) (rdE Γ ar W (eMeth m n c x i fs)) := by
  obtain ⟨f, fd, ps, F, hc, hm, hb⟩ := D.ex
  rw [← hK] at F hc hm hb
  refine PE.imp (pe_methE (pe_var hN hv hd hcd) hc hm F hr hb (fun σ => L2N.passAt tk σ) ha hst hpl ht) fun σ H Q q => ?_
  obtain ⟨S, F, r, S', R, ee, kk⟩ := q
  unfold eMeth at ee
  cases e0 : sl S i with
  | none => rw [e0] at ee; cases ee
  | some t0 =>
    rw [e0] at ee
    simp only [Option.bind_some] at ee
    by_cases ho : isObj c x t0 = true
    · rw [if_pos ho] at ee
      obtain ⟨ns, ts, rfl, hx⟩ := isObj_of ho
      obtain ⟨v, ev, rv⟩ := R.slot (sl_some.mp e0)
      obtain ⟨a, dx, vs0, rfl, ha0, hl0⟩ := rv.ins
      refine ⟨_, ev, a, dx, _, rfl, ha0, lookup_zip_none hx, ?_⟩
      cases e1 : fs S with
      | none => rw [e1] at ee; cases ee
      | some o1 =>
        obtain ⟨r1, S1⟩ := o1
        rw [e1] at ee
        simp only [Option.bind_some] at ee
        cases r1 with
        | ex k => cases ee; exact ⟨S, F, _, _, R, e1, kk⟩
        | ok as =>
          simp only at ee
          refine ⟨S, F, _, _, R, e1, fun vs H1 F1 G1 R1 A1 d1 al1 u1 => ?_⟩
          refine call_ok R1 (A1.ref ev rfl) d1 al1 ee (fun t et v H' F' G R' rv d al u => ?_) fun c ec H' F' R' u => ?_
          · subst et
            exact kk v H' F' G ⟨R', rv, d, al, u1.trans u⟩
          · subst ec
            exact kk H' F' R' (u1.trans u)
    · rw [if_neg ho] at ee; cases ee
/-- place.m(..); the arguments read only -/
def eMethP (m : MF) (n c : Nat) (x : Str) (pl : PF) (gs : BAF) : EF := fun S => (pl S).bind fun ip => (sl S ip.1).bind fun t => (tAt ip.2 t).bind fun u => if isObj c x u = true then (gs S).bind fun as => callR m n S (.pth ip.1 ip.2 :: as) else none
theorem methP_ok {m : MF} {n c : Nat} {x : Str} {pl : PF} {gs : BAF} {σ : St} {H : Hp} {Q : VK} (q : rdE Γ ar W (eMethP m n c x pl gs) σ H Q) :
    rdP Γ ar pl σ H fun v H1 => ∃ a dx fs, v = .ref a ∧ H1 a = some (.ins (Γ.cl c) dx fs) ∧ fs.lookup x = none ∧ rdBA Γ ar gs σ H1 fun vs H2 => spT Γ n m (v :: vs) H2 Q (WE W σ) := by
  obtain ⟨S, F, r, S', R, ee, kk⟩ := q
  unfold eMethP at ee
  cases e0 : pl S with
  | none => rw [e0] at ee; cases ee
  | some ip =>
    obtain ⟨i, p⟩ := ip
    rw [e0] at ee
    simp only [Option.bind_some] at ee
    cases e1 : sl S i with
    | none => rw [e1] at ee; cases ee
    | some t0 =>
      rw [e1] at ee
      simp only [Option.bind_some] at ee
      cases e2 : tAt p t0 with
      | none => rw [e2] at ee; cases ee
      | some u0 =>
        rw [e2] at ee
        simp only [Option.bind_some] at ee
        by_cases ho : isObj c x u0 = true
        · rw [if_pos ho] at ee
          obtain ⟨ns, ts, rfl, hx⟩ := isObj_of ho
          refine ⟨S, F, i, p, t0, _, R, e0, e1, e2, fun v0 v H1 h1 h2 s1 => ?_⟩
          obtain ⟨v0', ev, rv⟩ := R.slot (sl_some.mp e1)
          have ee0 : v0 = v0' := Option.some.inj (Option.some.inj (h1.symm.trans ev))
          subst ee0
          obtain ⟨v1, G, b1, b2, _, _⟩ := VT.focus p rv e2
          have ee1 : v = v1 := Option.some.inj (h2.symm.trans b1)
          subst ee1
          obtain ⟨a, dx, vs0, rfl, ha0, hl0⟩ := b2.ins
          refine ⟨a, dx, _, rfl, s1 _ _ ha0, lookup_zip_none hx, ?_⟩
          cases e3 : gs S with
          | none => rw [e3] at ee; cases ee
          | some as =>
            rw [e3] at ee
            have ee : callR m n S (.pth i p :: as) = some (r, S') := ee
            refine ⟨S, F, as, R.same s1, e3, fun vs H2 G2 s2 A2 n2 => ?_⟩
            have s12 := s1.trans s2
            refine call_ok (R.same s12) (A2.ref ev (vAt_same s12 b1)) (fun a f g => same_al s1 (R.al a f) (n2.1 a g)) n2.2 ee (fun t et v H' F' G R' rv d al u => ?_) fun c ec H' F' R' u => ?_
            · subst et
              refine kk v H' F' G ⟨R', rv, d, al, Upd.trans (F1 := FU F G2) ⟨Ke.of_same F s12, fun a z => z.elim .inl fun z => .inr (s1.free (n2.1 a z))⟩ u⟩
            · subst ec
              refine kk H' F' R' (Upd.trans (F1 := FU F G2) ⟨Ke.of_same F s12, fun a z => z.elim .inl fun z => .inr (s1.free (n2.1 a z))⟩ u)
        · rw [if_neg ho] at ee; cases ee
theorem e_methP {k n c : Nat} {x : Str} {m : MF} {plc : PF} {gs : BAF} {pl : Sem Bool} (D : MethOk X.prog X.w Γ X.mg X.base k c x n m) (hr : Room k X.A) (tk : L2N.Takes X W) (ho : PE X o (rdP Γ ar plc)) (ha : PA X (e :: es) (rdBA Γ ar gs)) (hK : X.K = Γ.K := by rfl)
    (hst : starEach (e :: es) X.env = (false, eval e X.env) :: starEach es X.env := by rfl) (hpl : (backTo pos (starEach es X.env)).any (·.1) = false := by rfl)
    (ht : eval (.Call (.Attribute o x apos) (e :: es) [] pos) X.env = (do let ov ← eval o X.env; standAt apos.atName; let (g, one) ← holding [ov] (getMethod ov x pl); callWith pos g one (backTo pos (starEach (e :: es) X.env)) (backToKw pos (keywordEach [] X.env))) := by rfl) :
    PE X (.Call (.Attribute o x apos) (e :: es) [] pos) (rdE Γ ar W (eMethP m n c x plc gs)) := by
  obtain ⟨f, fd, ps, F, hc, hm, hb⟩ := D.ex
  rw [← hK] at F hc hm hb
  exact PE.imp (pe_methE ho hc hm F hr hb (fun σ => L2N.passAt tk σ) ha hst hpl ht) fun σ H Q q => methP_ok q
theorem e_methP0 {k n c : Nat} {x : Str} {m : MF} {plc : PF} {pl : Sem Bool} (D : MethOk X.prog X.w Γ X.mg X.base k c x n m) (hr : Room k X.A) (tk : L2N.Takes X W) (ho : PE X o (rdP Γ ar plc)) (hK : X.K = Γ.K := by rfl)
    (ht : eval (.Call (.Attribute o x apos) [] [] pos) X.env = (do let ov ← eval o X.env; standAt apos.atName; let (g, one) ← holding [ov] (getMethod ov x pl); callWith pos g one (backTo pos (starEach [] X.env)) (backToKw pos (keywordEach [] X.env))) := by rfl) :
    PE X (.Call (.Attribute o x apos) [] [] pos) (rdE Γ ar W (eMethP m n c x plc baNil)) := by
  obtain ⟨f, fd, ps, F, hc, hm, hb⟩ := D.ex
  rw [← hK] at F hc hm hb
  refine PE.imp (pe_methE0 ho hc hm F hr hb (fun σ => L2N.passAt tk σ) ht) fun σ H Q q => ?_
  obtain ⟨S, F, i, p, t0, t1, R, q1, q2, q3, k⟩ := methP_ok q
  refine ⟨S, F, i, p, t0, t1, R, q1, q2, q3, fun v0 v H' h1 h2 s => ?_⟩
  obtain ⟨a, dx, fs, e1, e2, e3, S2, F2, as, R2, e4, kk⟩ := k v0 v H' h1 h2 s
  cases e4
  exact ⟨a, dx, fs, e1, e2, e3, kk [] H' FE (Same.refl H') argsP_nil new_FE⟩

/-- C(..) -/
def eMake (m : MF) (n c : Nat) (fs : AF) : EF := fun S => (fs S).bind fun rx => match rx with
  | (.ex k, S1) => some (.ex k, S1)
  | (.ok as, S1) => if as.length + 1 = n then (argTrees S1 as).bind fun ts => (m (.nd (.obj c []) [] :: ts)).bind fun rt => match rt with
    | (.ok .non, t0 :: ts') => if ts'.length = as.length then some (.ok t0, putBack S1 as ts') else none
    | _ => none else none
theorem make_ok {m : MF} {n c : Nat} {fs : AF} {σ : St} {H : Hp} {Q : VK} (q : rdE Γ ar W (eMake m n c fs) σ H Q) :
    rdA Γ ar W fs σ H fun vs H1 => ∀ x dx, H1 x = none → H1 dx = none → dx ≠ x → spT Γ n m (.ref x :: (vs ++ [])) (upd (upd H1 dx (.own x)) x (.ins (Γ.cl c) dx [])) (fun v H2 => v = .non ∧ Q (.ref x) H2) E0 := by
  obtain ⟨S, F, r, S', R, ee, kk⟩ := q
  unfold eMake at ee
  cases e1 : fs S with
  | none => rw [e1] at ee; cases ee
  | some o =>
    obtain ⟨r1, S1⟩ := o
    rw [e1] at ee
    simp only [Option.bind_some] at ee
    cases r1 with
    | ex k => cases ee; exact ⟨S, F, _, _, R, e1, kk⟩
    | ok as =>
      simp only at ee
      refine ⟨S, F, _, _, R, e1, fun vs H1 F1 G1 R1 A1 d1 al1 u1 x dx hx hdx nx => ?_⟩
      by_cases hn : as.length + 1 = n
      · rw [if_pos hn] at ee
        cases e2 : argTrees S1 as with
        | none => rw [e2] at ee; cases ee
        | some ts =>
          rw [e2] at ee
          simp only [Option.bind_some] at ee
          cases e3 : m (.nd (.obj c []) [] :: ts) with
          | none => rw [e3] at ee; cases ee
          | some rt =>
            rw [e3] at ee
            simp only [Option.bind_some] at ee
            split at ee
            · rename_i t0 ts'
              by_cases hl : ts'.length = as.length
              · rw [if_pos hl] at ee
                cases ee
                rw [List.append_nil]
                have s0 : Same H1 (upd (upd H1 dx (.own x)) x (.ins (Γ.cl c) dx [])) := fun b u q => by rw [upd_ne (ne_of_none q hx), upd_ne (ne_of_none q hdx)]; exact q
                have rx : Rep Γ (upd (upd H1 dx (.own x)) x (.ins (Γ.cl c) dx [])) (.ref x) (.nd (.obj c []) []) (fun a => a = x) :=
                  .nd (Fs := fun _ => FE) (vs := []) ⟨rfl, dx, upd_same⟩ rfl (fun _ => ⟨rfl, fun _ z => z⟩) (fun i v t q => by simp at q) (fun _ _ _ _ z _ => z) fun _ _ z => z.elim
                have A2 := (A1.same s0).val rx fun a z g => by rw [z] at g; exact al1 x g hx
                have d2 : ∀ a, F1 a → FU (fun a => a = x) G1 a → False := fun a f g => g.elim (fun z => by rw [z] at f; exact R1.al x f hx) (d1 a f)
                have al2 : ∀ a, FU (fun a => a = x) G1 a → upd (upd H1 dx (.own x)) x (.ins (Γ.cl c) dx []) a ≠ none := fun a g => g.elim (fun z => by rw [z, upd_same]; exact fun q => nomatch q) fun z => same_al s0 (al1 a z)
                have e4 : argTrees S1 (.val (.nd (.obj c []) []) :: as) = some (.nd (.obj c []) [] :: ts) := by unfold argTrees; rw [e2]; rfl
                obtain ⟨Fa, RA, sA, fin⟩ := call_core (R1.same s0) A2 d2 al2 e4
                refine ⟨_, Fa, .ok .non, t0 :: ts', by rw [List.length_cons, A1.len]; exact hn, RA, e3, fun v H' F' G R' rv dG alG u => ?_⟩
                cases rv
                obtain ⟨F'', Fs', R'', d'', u'', k1, k2, k3, k4, k5⟩ := fin (by simp [hl]) R' dG u
                refine ⟨rfl, kk _ H' F'' (Fs' 0) ⟨R'', k1 0 _ t0 rfl rfl, fun a f g => k3 0 _ a rfl rfl g f, k5 0, ?_⟩⟩
                refine u1.trans (Upd.trans (F1 := FU F1 (FU (fun a => a = x) G1)) ⟨Ke.of_same _ s0, fun a z => ?_⟩ (u''.sub fun a z => ?_))
                · rcases z with z | z | z
                  · exact .inl (.inl z)
                  · exact .inr (by rw [z]; exact hx)
                  · exact .inl (.inr z)
                · rcases z with z | z
                  · exact .inl (.inl z)
                  · exact .inr ⟨0, _, rfl, rfl, z⟩
              · rw [if_neg hl] at ee; cases ee
            · cases ee
      · rw [if_neg hn] at ee; cases ee
theorem e_make {k n c : Nat} {x : Str} {m : MF} {fs : AF} (D : MakeOk X.prog X.w Γ X.mg X.base k c x n m) (hr : Room (k + 1) X.A) (ha : PA X (e :: es) (rdA Γ ar W fs)) (hK : X.K = Γ.K := by rfl) (hg : Gl X x := by rfl) (hdb : (x == ("__debug__" : Str)) = false := by decide)
    (he : starEach (e :: es) X.env = (false, eval e X.env) :: starEach es X.env := by rfl) (hpl : (backTo pos (starEach es X.env)).any (·.1) = false := by rfl) : PE X (.Call (.Name x p) (e :: es) [] pos) (rdE Γ ar W (eMake m n c fs)) := by
  obtain ⟨f, fd, ps, F, hm, hM, hb⟩ := D.ex
  rw [← hK] at F hM hb
  exact PE.imp (pe_make hM F hr hg hm hb .nil passN ha hdb he hpl) fun σ H Q q => make_ok q
theorem e_make0 {k n c : Nat} {x : Str} {m : MF} (D : MakeOk X.prog X.w Γ X.mg X.base k c x n m) (hr : Room (k + 1) X.A) (hK : X.K = Γ.K := by rfl) (hg : Gl X x := by rfl) (hdb : (x == ("__debug__" : Str)) = false := by decide) : PE X (.Call (.Name x p) [] [] pos) (rdE Γ ar W (eMake m n c aNil)) := by
  obtain ⟨f, fd, ps, F, hm, hM, hb⟩ := D.ex
  rw [← hK] at F hM hb
  refine PE.imp (pe_make0 hM F hr hg hm hb .nil passN hdb) fun σ H Q q => ?_
  obtain ⟨S, F, r, S', R, e1, k⟩ := make_ok q
  cases e1
  exact k [] H F FE R argsP_nil (fun _ _ z => z) (fun _ z => z.elim) ((Upd.refl H F).sub fun a z => z.elim id fun z => z.elim)

/-! ### statements -/
def sSeq (s u : SF) : SF := fun S => (s S).bind fun rx => match rx with
  | (.nx, S1) => u S1
  | (fl, S1) => some (fl, S1)
theorem rdS_after {σ : St} {H H1 : Hp} {F F1 : FP} {S1 : TSt} {u : SF} {fl : Fl} {S' : TSt} {D : Ends} (R1 : RepS Γ ar H1 σ S1 F1) (up : Upd H H1 F F1) (e : u S1 = some (fl, S')) (k : FlP Γ ar W D H F fl S') : rdS Γ ar W u D σ H1 := by
  refine ⟨S1, F1, fl, S', R1, e, ?_⟩
  cases fl with
  | nx => exact fun σ' H' F' R' u' => k σ' H' F' R' (up.trans u')
  | bk => exact fun σ' H' F' R' u' => k σ' H' F' R' (up.trans u')
  | ct => exact fun σ' H' F' R' u' => k σ' H' F' R' (up.trans u')
  | ex c => exact fun σ' H' F' R' u' => k σ' H' F' R' (up.trans u')
  | rt t => exact fun v σ' H' F' G o => k v σ' H' F' G ⟨o.rs, o.r, o.d, o.al, up.trans o.u⟩
variable {st : Stmt} {rest : List Stmt} {s u : SF}
theorem seq_ok {D : Ends} {σ : St} {H : Hp} (q : rdS Γ ar W (sSeq s u) D σ H) : rdS Γ ar W s { D with nx := rdS Γ ar W u D } σ H := by
  obtain ⟨S, F, fl, S', R, e, k⟩ := q
  unfold sSeq at e
  cases e1 : s S with
  | none => rw [e1] at e; cases e
  | some o =>
    obtain ⟨fl1, S1⟩ := o
    rw [e1] at e
    simp only [Option.bind_some] at e
    refine ⟨S, F, fl1, S1, R, e1, ?_⟩
    cases fl1 with
    | nx => exact fun σ' H' F' R' u' => rdS_after R' u' e k
    | bk => cases e; exact k
    | ct => cases e; exact k
    | ex c => cases e; exact k
    | rt t => cases e; exact k
theorem ss_cons (h1 : PS X st (rdS Γ ar W s)) (h2 : PSs X rest (rdS Γ ar W u)) : PSs X (st :: rest) (rdS Γ ar W (sSeq s u)) := PSs.imp (pss_cons h1 h2) fun D σ H q => seq_ok q
theorem ss_one (h1 : PS X st (rdS Γ ar W s)) : PSs X [st] (rdS Γ ar W s) := PSs.imp (pss_one h1) fun D σ H q => q
def sNil : SF := fun S => some (.nx, S)
theorem nil_ok {D : Ends} {σ : St} {H : Hp} (q : rdS Γ ar W sNil D σ H) : D.nx σ H := by
  obtain ⟨S, F, fl, S', R, e, k⟩ := q
  cases e
  exact k σ H F R (Upd.refl H F)
theorem ss_nil : PSs X [] (rdS Γ ar W sNil) := PSs.imp pss_nil fun D σ H q => nil_ok q
theorem s_pass : PS X (.Pass pos) (rdS Γ ar W sNil) := PS.imp ps_pass fun D σ H q => nil_ok q
def sBk : SF := fun S => some (.bk, S)
def sCt : SF := fun S => some (.ct, S)
theorem s_break : PS X (.Break pos) (rdS Γ ar W sBk) := PS.imp ps_break fun D σ H q => by
  obtain ⟨S, F, fl, S', R, e, k⟩ := q
  cases e
  exact k σ H F R (Upd.refl H F)
theorem s_cont : PS X (.Continue pos) (rdS Γ ar W sCt) := PS.imp ps_continue fun D σ H q => by
  obtain ⟨S, F, fl, S', R, e, k⟩ := q
  cases e
  exact k σ H F R (Upd.refl H F)
def sExpr (f : EF) : SF := fun S => (f S).bind fun rx => match rx with
  | (.ex c, S1) => some (.ex c, S1)
  | (.ok _, S1) => some (.nx, S1)
theorem expr_ok {D : Ends} {σ : St} {H : Hp} (q : rdS Γ ar W (sExpr fa) D σ H) : rdE Γ ar W fa σ H fun _ H1 => D.nx σ H1 := by
  obtain ⟨S, F, fl, S', R, e, k⟩ := q
  unfold sExpr at e
  cases e1 : fa S with
  | none => rw [e1] at e; cases e
  | some o =>
    obtain ⟨r1, S1⟩ := o
    rw [e1] at e
    simp only [Option.bind_some] at e
    cases r1 with
    | ex c => cases e; exact ⟨S, F, _, _, R, e1, fun H' F' R' u => k σ H' F' R' u⟩
    | ok t => cases e; exact ⟨S, F, _, _, R, e1, fun v H' F' G o => k σ H' F' o.rs (o.u.sub fun a z => .inl z)⟩
theorem s_expr (he : PE X e (rdE Γ ar W fa)) (hs : swapsWith e none pos.line X.env = pure false := by rfl) : PS X (.Expr e pos) (rdS Γ ar W (sExpr fa)) := PS.imp (ps_expr he hs) fun D σ H q => expr_ok q
def sRet (f : EF) : SF := fun S => (f S).bind fun rx => match rx with
  | (.ex c, S1) => some (.ex c, S1)
  | (.ok t, S1) => some (.rt t, S1)
theorem s_ret (he : PE X e (rdE Γ ar W fa)) : PS X (.Return (some e) pos) (rdS Γ ar W (sRet fa)) := PS.imp (ps_ret he) fun D σ H q => by
  obtain ⟨S, F, fl, S', R, e, k⟩ := q
  unfold sRet at e
  cases e1 : fa S with
  | none => rw [e1] at e; cases e
  | some o =>
    obtain ⟨r1, S1⟩ := o
    rw [e1] at e
    simp only [Option.bind_some] at e
    cases r1 with
    | ex c => cases e; exact ⟨S, F, _, _, R, e1, fun H' F' R' u => k σ H' F' R' u⟩
    | ok t => cases e; exact ⟨S, F, _, _, R, e1, fun v H' F' G o => k v σ H' F' G o⟩
def sSet (i : Nat) (f : EF) : SF := fun S => (f S).bind fun rx => match rx with
  | (.ex c, S1) => some (.ex c, S1)
  | (.ok t, S1) => some (.nx, S1.set i (some t))
theorem own_set {H H' : Hp} {F F' G : FP} {σ : St} {S' : TSt} {v : V} {t : T} {i : Nat} (hi : ar i = none) (o : Own Γ ar H F σ S' v t H' F' G) : RepS Γ ar H' (σ.set i (some v)) (S'.set i (some t)) (FU F' G) := o.rs.put hi o.r o.d o.al
theorem set_ok {i : Nat} (hi : ar i = none) {D : Ends} {σ : St} {H : Hp} (q : rdS Γ ar W (sSet i fa) D σ H) : rdE Γ ar W fa σ H fun v H1 => D.nx (σ.set i (some v)) H1 := by
  obtain ⟨S, F, fl, S', R, e, k⟩ := q
  unfold sSet at e
  cases e1 : fa S with
  | none => rw [e1] at e; cases e
  | some o =>
    obtain ⟨r1, S1⟩ := o
    rw [e1] at e
    simp only [Option.bind_some] at e
    cases r1 with
    | ex c => cases e; exact ⟨S, F, _, _, R, e1, fun H' F' R' u => k σ H' F' R' u⟩
    | ok t => cases e; exact ⟨S, F, _, _, R, e1, fun v H' F' G o => k _ H' _ (own_set hi o) o.u⟩
theorem s_set (i : Nat) {x : Str} {pos' : Pos} (hi' : ar i = none) (hN : X.N.Nodup) (he : PE X e (rdE Γ ar W fa)) (hi : X.N[i]? = some x := by rfl) (hx : Loc X.env.scope x := by first | exact Or.inl rfl | exact Or.inr rfl) (hs : swapsWith e (some (.Name x pos')) pos.line X.env = pure false := by rfl)
    (hf : X.fn x = true ∨ X.env.scope.names.lookup x = some .local := by first | exact .inl rfl | exact .inr rfl) : PS X (.Assign [.Name x pos'] e pos) (rdS Γ ar W (sSet i fa)) := PS.imp (ps_set hN hi hx he hs hf) fun D σ H q => set_ok hi' q
def sIf (f : EF) (s u : SF) : SF := fun S => (f S).bind fun rx => match rx with
  | (.ex c, S1) => some (.ex c, S1)
  | (.ok (.bl true), S1) => s S1
  | (.ok (.bl false), S1) => u S1
  | _ => none
theorem s_if {c : Expr} {sa sb : List Stmt} (hc : PT X c (rdT Γ ar W fa)) (ha : PSs X sa (rdS Γ ar W s)) (hb : PSs X sb (rdS Γ ar W u)) : PS X (.If c sa sb pos) (rdS Γ ar W (sIf fa s u)) := PS.imp (ps_if hc ha hb) fun D σ H q => by
  obtain ⟨S, F, fl, S', R, e, k⟩ := q
  unfold sIf at e
  cases e1 : fa S with
  | none => rw [e1] at e; cases e
  | some o =>
    rw [e1] at e
    simp only [Option.bind_some] at e
    split at e
    · cases e
      exact ⟨S, F, _, _, R, e1, fun H' F' R' u => k σ H' F' R' u⟩
    · exact bool_then R e1 fun H1 F1 R1 u1 => iteT (rdS_after R1 u1 e k)
    · exact bool_then R e1 fun H1 F1 R1 u1 => iteF (rdS_after R1 u1 e k)
    · cases e
def sRaise (c : Nat) : SF := fun S => some (.ex c, S)
theorem s_raise {c : Nat} {ee : Expr} (hc : X.calm = true) (tk : L2N.Takes X W) (hm : L2N.PMk X ee (fun _ H Q => Q (.ref (Γ.cl c)) none H)) : PS X (.Raise (some ee) none pos) (rdS Γ ar W (sRaise c)) := PS.imp (L2N.ps_raise hc tk hm) fun D σ H q => by
  obtain ⟨S, F, fl, S', R, e, k⟩ := q
  cases e
  exact k σ H F R (Upd.refl H F)

/-! ### the rule for a def -/
def allSome : List (Option T) → Option (List T)
  | [] => some []
  | none :: _ => none
  | some t :: l => (allSome l).bind fun ts => some (t :: ts)
theorem allSome_get : ∀ {l : List (Option T)} {ts : List T}, allSome l = some ts → l = ts.map some
  | [], ts, e => by cases e; rfl
  | none :: _, _, e => by cases e
  | some t :: l, ts, e => by
    unfold allSome at e
    cases e1 : allSome l with
    | none => rw [e1] at e; cases e
    | some us =>
      rw [e1] at e
      cases e
      rw [allSome_get e1]
      rfl
def mBody (n N : Nat) (s : SF) : MF := fun ts => if ts.length = n then (s (ts.map some ++ List.replicate (N - n) none)).bind fun rx => (allSome (rx.2.take n)).bind fun ts' => match rx.1 with
  | .nx => some (.ok .non, ts')
  | .rt t => some (.ok t, ts')
  | .ex c => some (.ex c, ts')
  | _ => none else none
theorem repA_of {vs : List V} {H : Hp} {σ : St} {S : TSt} {F : FP} {ts : List T} (R : RepS Γ (fun i => vs[i]?) H σ S F) (e : allSome (S.take vs.length) = some ts) : RepA Γ H vs ts F := by
  obtain ⟨len, arg, ⟨Fs, h1, h2, h3⟩, al⟩ := R
  have e' := allSome_get e
  have hlen : vs.length ≤ σ.length := by
    by_cases h0 : vs.length = 0
    · omega
    · have q := arg (vs.length - 1) (vs[vs.length - 1]'(by omega)) (List.getElem?_eq_getElem (by omega))
      have := (List.getElem?_eq_some_iff.mp q).1
      omega
  have l2 : ts.length = vs.length := by
    have q := congrArg List.length e'
    rw [List.length_map, List.length_take, len] at q
    omega
  refine ⟨by rw [List.length_map, List.length_map, l2], fun i v q => by rw [List.getElem?_map, q]; rfl, ⟨Fs, fun i t q => ?_, h2, h3⟩, al⟩
  have hi : i < vs.length := by
    rw [List.getElem?_map] at q
    cases q2 : ts[i]? with
    | none => rw [q2] at q; cases q
    | some t2 => rw [← l2]; exact (List.getElem?_eq_some_iff.mp q2).1
  have q3 : S[i]? = some (some t) := by
    rw [← e', List.getElem?_take, if_pos hi] at q
    exact q
  obtain ⟨v, ev, r⟩ := h1 i t q3
  have q4 := arg i vs[i] (List.getElem?_eq_getElem hi)
  rw [ev] at q4
  have q5 : v = vs[i] := Option.some.inj (Option.some.inj q4)
  exact ⟨v, by rw [List.getElem?_map, List.getElem?_eq_getElem hi, q5]; rfl, r⟩
theorem repS_start {vs : List V} {H : Hp} {ts : List T} {F : FP} (R : RepA Γ H vs ts F) (N : List Str) : RepS Γ (fun i => vs[i]?) H (L2.start N vs) (ts.map some ++ List.replicate (N.length - vs.length) none) F := by
  obtain ⟨len, arg, ⟨Fs, h1, h2, h3⟩, al⟩ := R
  have l2 : ts.length = vs.length := by simpa using len
  refine ⟨by unfold L2.start; simp [l2], fun i v q => ?_, ⟨Fs, fun i t q => ?_, h2, h3⟩, al⟩
  · have hi : i < vs.length := (List.getElem?_eq_some_iff.mp q).1
    unfold L2.start
    rw [List.getElem?_append_left (by rw [List.length_map]; exact hi), List.getElem?_map, q]
    rfl
  · by_cases hi : i < ts.length
    · rw [List.getElem?_append_left (by rw [List.length_map]; exact hi)] at q
      obtain ⟨v, ev, r⟩ := h1 i t q
      refine ⟨v, ?_, r⟩
      unfold L2.start
      rw [List.getElem?_append_left (by rw [List.length_map, ← l2]; exact hi)]
      exact ev
    · rw [List.getElem?_append_right (by rw [List.length_map]; omega)] at q
      have q2 := List.eq_of_mem_replicate (List.mem_of_getElem? q)
      cases q2
theorem fn_okT {P : Program} {w : World} {mg : Str → Option Value} {base : Heap} {x qual : Str} {f : Addr} {fd : FuncData} {N ps : List Str} {k : Nat} {body : SF} (F : Fun Γ.K x qual st f fd) (S : FnScope N ps (defScope st))
    (hbody : ∀ (cdv : Value) (A : Around) (outer : List Env) (s : Shared) (H : Hp) (E : XK) (ar : Fx), Room k (A.deeper (PyProof.Rows.envOfC qual (defScope st) s.heap.objs.size f cdv)) → (∀ i, ps.length ≤ i → ar i = none) →
      PSs (cxOf (L2N.CX P w) P w Γ.K mg base N qual (defScope st) f cdv A outer s H E) (defBody st) (rdS Γ ar (fun cls d _ H => E cls d H) body)) : FnOk P w Γ.K mg base (L2N.CX P w) (k + 1) f fd ps (spT Γ ps.length (mBody ps.length N.length body)) := by
  obtain ⟨xc, xd, xk, dc, pq, na, cdv, tc, zs, rfl, lk, hcd⟩ := F.ex
  refine fn_of (CX := L2N.CX P w) lk hcd S (fun vs H Q E h => ?_) (fun A outer s H vs Q E hr h => ?_)
  · obtain ⟨ts, F, r, ts', hl, _⟩ := h
    exact hl
  · obtain ⟨ts, F, r, ts', hl, RA, e, kk⟩ := h
    refine ⟨_, hbody cdv A outer s H E (fun i => vs[i]?) hr fun i hi => List.getElem?_eq_none (by omega), ?_⟩
    unfold mBody at e
    have l2 : ts.length = ps.length := by rw [← hl]; exact (repA_get RA).1.symm
    rw [if_pos l2] at e
    have R0 := repS_start RA N
    rw [hl] at R0
    cases e1 : body (ts.map some ++ List.replicate (N.length - ps.length) none) with
    | none => rw [e1] at e; cases e
    | some rx =>
      obtain ⟨fl, S'⟩ := rx
      rw [e1] at e
      simp only [Option.bind_some] at e
      cases e2 : allSome (S'.take ps.length) with
      | none => rw [e2] at e; cases e
      | some ts2 =>
        rw [e2] at e
        simp only [Option.bind_some] at e
        refine ⟨_, F, fl, S', R0, e1, ?_⟩
        rw [← hl] at e2
        cases fl with
        | nx =>
          cases e
          exact fun σ' H' F' R' u => kk .non H' F' FE (repA_of R' e2) .non (fun _ _ z => z) (fun _ z => z.elim) (u.sub fun a z => z.elim id fun z => z.elim)
        | rt t =>
          cases e
          exact fun v σ' H' F' G o => kk v H' F' G (repA_of o.rs e2) o.r o.d o.al o.u
        | ex c =>
          cases e
          exact fun σ' H' F' R' u => kk H' F' (repA_of R' e2) u
        | bk => cases e
        | ct => cases e
end
end VT

/-! VT7: places (attributes, items), stores, methods of lists. -/
namespace VT
open PySem L2
section
variable {Γ : Gx} {ar : Fx} {W : WX} {X : Cx} {a b e o : Expr} {pos p apos : Pos} {ga gb g : BF} {fa fb : EF} {es : List Expr} {pl : PF}

theorem tAt_app : ∀ (p : List Nat) {t : T} {j : Nat}, tAt (p ++ [j]) t = (tAt p t).bind fun u => tAt [j] u
  | [], t, j => rfl
  | i :: p, .nd k ts, j => by
    show (if k.mu = true then ts[i]?.bind fun t => tAt (p ++ [j]) t else none) = (if k.mu = true then ts[i]?.bind fun t => tAt p t else none).bind _
    by_cases h : k.mu = true
    · rw [if_pos h, if_pos h]
      cases ts[i]? with
      | none => rfl
      | some u => exact tAt_app p
    · rw [if_neg h, if_neg h]; rfl
  | _ :: _, .non, _ => rfl
  | _ :: _, .bl _, _ => rfl
  | _ :: _, .int _, _ => rfl
  | _ :: _, .str _, _ => rfl
theorem vAt_app {H : Hp} : ∀ (p : List Nat) {v : V} {j : Nat}, vAt H (p ++ [j]) v = (vAt H p v).bind fun u => vAt H [j] u
  | [], v, j => rfl
  | i :: p, .ref a, j => by
    show (H a).bind _ = ((H a).bind _).bind _
    cases H a with
    | none => rfl
    | some o =>
      show (VT.kids o)[i]?.bind _ = ((VT.kids o)[i]?.bind _).bind _
      cases (VT.kids o)[i]? with
      | none => rfl
      | some u => exact vAt_app p
  | _ :: _, .non, _ => rfl
  | _ :: _, .bl _, _ => rfl
  | _ :: _, .int _, _ => rfl
  | _ :: _, .str _, _ => rfl
  | _ :: _, .byt _, _ => rfl
  | _ :: _, .flt _, _ => rfl
  | _ :: _, .ty _, _ => rfl
/-- the value at a place stands for the tree there -/
theorem RepS.place {H : Hp} {σ : St} {S : TSt} {F : FP} {i : Nat} {p : List Nat} {t u : T} (R : RepS Γ ar H σ S F) (e0 : sl S i = some t) (e1 : tAt p t = some u) : ∃ v0 v G, σ[i]? = some (some v0) ∧ vAt H p v0 = some v ∧ Rep Γ H v u G := by
  obtain ⟨v0, ev, rv⟩ := R.slot (sl_some.mp e0)
  obtain ⟨v1, G, b1, b2, _, _⟩ := VT.focus p rv e1
  exact ⟨v0, v1, G, ev, b1, b2⟩
/-- a step down from a place -/
theorem step_down {H : Hp} {σ : St} {S : TSt} {F : FP} {i j : Nat} {p : List Nat} {t u w : T} {k : Kd} {ts : List T} {Q : VK} (R : RepS Γ ar H σ S F) (e0 : sl S i = some t) (e1 : tAt (p ++ [j]) t = some w) (ek : tAt p t = some (.nd k ts))
    (kk : ∀ v0 v H', σ[i]? = some (some v0) → vAt H (p ++ [j]) v0 = some v → Same H H' → Q v H') (v0 v : V) (h1 : σ[i]? = some (some v0)) (h2 : vAt H p v0 = some v) :
    ∃ a vs vj, v = .ref a ∧ At Γ H k a vs ∧ vs.length = ts.length ∧ vs[j]? = some vj ∧ ∀ H', Same H H' → Q vj H' := by
  obtain ⟨v0', v1, G, ev, b1, b2⟩ := R.place e0 ek
  have q1 : v0 = v0' := Option.some.inj (Option.some.inj (h1.symm.trans ev))
  subst q1
  have q2 : v = v1 := Option.some.inj (h2.symm.trans b1)
  subst q2
  rw [tAt_app, ek] at e1
  simp only [Option.bind_some, tAt] at e1
  by_cases mu : k.mu = true
  · rw [if_pos mu] at e1
    cases e2 : ts[j]? with
    | none => rw [e2] at e1; cases e1
    | some w' =>
      cases b2 with
      | @nd _ _ a vs _ Fs hat hl hm hc hd hs =>
        have hj : j < ts.length := (List.getElem?_eq_some_iff.mp e2).1
        have ej : vs[j]? = some (vs[j]'(by omega)) := List.getElem?_eq_getElem (by omega)
        refine ⟨a, vs, _, rfl, hat, hl, ej, fun H' s => kk v0 _ H' h1 ?_ s⟩
        rw [vAt_app, h2]
        obtain ⟨ob, ho, hko⟩ := hat.kids mu
        show (H a).bind _ = _
        rw [ho]
        show (VT.kids ob)[j]?.bind _ = _
        rw [hko, ej]
        rfl
  · rw [if_neg mu] at e1; cases e1

def ixOf (f : Str) : List Str → Option Nat
  | [] => none
  | n :: ns => if n = f then some 0 else (ixOf f ns).map (· + 1)
theorem lookup_ix {f : Str} : ∀ {ns : List Str} {vs : List V} {j : Nat} {v : V}, ixOf f ns = some j → vs[j]? = some v → (ns.zip vs).lookup f = some v
  | [], _, _, _, e, _ => by cases e
  | n :: ns, [], j, v, _, e => by simp at e
  | n :: ns, w :: vs, j, v, e, e2 => by
    unfold ixOf at e
    show (match f == n with | true => some w | false => (ns.zip vs).lookup f) = some v
    by_cases h : n = f
    · rw [if_pos h] at e
      cases e
      rw [beq_iff_eq.mpr h.symm]
      simpa using e2
    · rw [if_neg h] at e
      cases e3 : ixOf f ns with
      | none => rw [e3] at e; cases e
      | some j' =>
        rw [e3] at e
        cases e
        rw [beq_eq_false_iff_ne.mpr fun z => h z.symm]
        exact lookup_ix e3 (by simpa using e2)
def pFld (ct : Nat → List Str) (f : Str) (pl : PF) : PF := fun S => (pl S).bind fun ip => (sl S ip.1).bind fun t => (tAt ip.2 t).bind fun u => match u with
  | .nd (.obj c ns) _ => if (ct c).contains f = true then (ixOf f ns).bind fun j => some (ip.1, ip.2 ++ [j]) else none
  | _ => none
theorem p_fld {f : Str} (he : PE X e (rdP Γ ar pl)) (hb : attributeBase e f X.env (eval e X.env) = eval e X.env := by rfl) (hK : X.K = Γ.K := by rfl) : PE X (.Attribute e f pos) (rdP Γ ar (pFld Γ.ct f pl)) := by
  refine PE.imp (pe_fld he hb) fun σ H Q q => ?_
  obtain ⟨S, F, i, p', t, t1, R, ep, e0, e1, kk⟩ := q
  unfold pFld at ep
  cases q1 : pl S with
  | none => rw [q1] at ep; cases ep
  | some ip =>
    obtain ⟨i', p⟩ := ip
    rw [q1] at ep
    simp only [Option.bind_some] at ep
    cases q2 : sl S i' with
    | none => rw [q2] at ep; cases ep
    | some t' =>
      rw [q2] at ep
      simp only [Option.bind_some] at ep
      cases q3 : tAt p t' with
      | none => rw [q3] at ep; cases ep
      | some u =>
        rw [q3] at ep
        simp only [Option.bind_some] at ep
        split at ep
        · rename_i c ns ts
          by_cases hc : (Γ.ct c).contains f = true
          · rw [if_pos hc] at ep
            cases q4 : ixOf f ns with
            | none => rw [q4] at ep; cases ep
            | some j =>
              rw [q4] at ep
              cases ep
              rw [e0] at q2
              cases q2
              refine ⟨S, F, i, p, t, _, R, q1, e0, q3, fun v0 v H' h1 h2 s => ?_⟩
              obtain ⟨a, vs, vj, rfl, hat, hl, hj, fin⟩ := step_down (u := .non) R e0 e1 q3 kk v0 v h1 h2
              obtain ⟨l, dx, ha⟩ := hat
              obtain ⟨o1, o2⟩ := Γ.ok c f (List.contains_iff_mem.mp hc)
              rw [hK]
              exact ⟨a, _, dx, _, vj, rfl, s _ _ ha, o1, o2, lookup_ix q4 hj, fin H' s⟩
          · rw [if_neg hc] at ep; cases ep
        · cases ep
def pIx (pl : PF) (g : BF) : PF := fun S => (pl S).bind fun ip => (sl S ip.1).bind fun t => (tAt ip.2 t).bind fun u => (g S).bind fun w => match u, w with
  | .nd .lst ts, .int k => (ixN ts.length k).bind fun j => some (ip.1, ip.2 ++ [j])
  | _, _ => none
theorem p_ix (ha : PE X a (rdP Γ ar pl)) (hb : PE X b (rdB Γ ar g)) (hs : PlainIx b) (hK : X.K = Γ.K := by rfl) : PE X (.Subscript a b pos) (rdP Γ ar (pIx pl g)) := by
  refine PE.imp (pe_ix (hK ▸ ix_list) ha hb hs) fun σ H Q q => ?_
  obtain ⟨S, F, i, p', t, t1, R, ep, e0, e1, kk⟩ := q
  unfold pIx at ep
  cases q1 : pl S with
  | none => rw [q1] at ep; cases ep
  | some ip =>
    obtain ⟨i', p⟩ := ip
    rw [q1] at ep
    simp only [Option.bind_some] at ep
    cases q2 : sl S i' with
    | none => rw [q2] at ep; cases ep
    | some t' =>
      rw [q2] at ep
      simp only [Option.bind_some] at ep
      cases q3 : tAt p t' with
      | none => rw [q3] at ep; cases ep
      | some u =>
        rw [q3] at ep
        simp only [Option.bind_some] at ep
        cases q4 : g S with
        | none => rw [q4] at ep; cases ep
        | some w =>
          rw [q4] at ep
          simp only [Option.bind_some] at ep
          split at ep
          · rename_i ts k
            cases q5 : ixN ts.length k with
            | none => rw [q5] at ep; cases ep
            | some j =>
              rw [q5] at ep
              cases ep
              rw [e0] at q2
              cases q2
              refine ⟨S, F, i, p, t, _, R, q1, e0, q3, fun v0 v H1 h1 h2 s1 => ?_⟩
              refine ⟨S, F, _, R.same s1, q4, fun y H2 G2 s2 r2 => ?_⟩
              cases r2
              obtain ⟨a, vs, vj, rfl, hat, hl, hj, fin⟩ := step_down (u := .non) R e0 e1 q3 kk v0 v h1 h2
              have s12 := s1.trans s2
              refine ⟨a, vs, k, vj, rfl, rfl, .inl (.inl (s12 _ _ hat)), ?_, fin H2 s12⟩
              unfold atI
              rw [hl, q5]
              exact hj
          · cases ep

/-! ### things that change at a place -/
abbrev MuF := T → List T → Option (T × T)
def MutT (Γ : Gx) (r : V → List V → Hp → VK → Prop) (m : MuF) : Prop := ∀ (H : Hp) (x : V) (u : T) (us : List T) (u' res : T) (G Gx : FP) (Gs : Nat → FP) (vs : List V) (Q : VK), Rep Γ H x u G → vs.length = us.length →
  (∀ (j : Nat) (v : V) (t : T), vs[j]? = some v → us[j]? = some t → Rep Γ H v t (Gs j)) → (∀ i j a, i ≠ j → Gs i a → Gs j a → False) → (∀ j a, Gs j a → Gx a) → (∀ a, G a → Gx a → False) → m u us = some (u', res) →
  (∀ v H' G' Gr, Ke H H' G → (∀ a, G' a ∨ Gr a → G a ∨ Gx a) → (∀ a, G' a → Gr a → False) → (∀ a, H a ≠ none → H' a ≠ none) → Rep Γ H' x u' G' → Rep Γ H' v res Gr → Q v H') → r x vs H Q
theorem mut_core {r : V → List V → Hp → VK → Prop} {m : MuF} (hm : MutT Γ r m) {H : Hp} {σ : St} {S : TSt} {F Gx : FP} {vs : List V} {as : List Arg} {us : List T} {i : Nat} {p : List Nat} {t0 u u' res : T} {v0 v : V} {Q : VK} (R : RepS Γ ar H σ S F) (A : ArgsP Γ H σ vs as Gx) (ev : valsOf as = some us)
    (d : ∀ a, F a → Gx a → False) (al : ∀ a, Gx a → H a ≠ none) (e0 : sl S i = some t0) (e1 : tAt p t0 = some u) (e2 : m u us = some (u', res)) (h0 : σ[i]? = some (some v0)) (h1 : vAt H p v0 = some v)
    (k : ∀ w H' F' G, RepS Γ ar H' σ (S.set i (some (tPut p t0 u'))) F' → Rep Γ H' w res G → (∀ a, F' a → G a → False) → (∀ a, G a → H' a ≠ none) → Upd H H' (FU F Gx) (FU F' G) → Q w H') : r v vs H Q := by
  obtain ⟨w0, F1, Gi, ev0, rv, R1, d1, s1, s2⟩ := R.take (sl_some.mp e0)
  have q1 : v0 = w0 := Option.some.inj (Option.some.inj (h0.symm.trans ev0))
  subst q1
  obtain ⟨v1, G, b1, b2, b3, back⟩ := VT.focus p rv e1
  have q2 : v = v1 := Option.some.inj (h1.symm.trans b1)
  subst q2
  obtain ⟨len, Gs, g1, g3, g4⟩ := A.vals ev
  refine hm H v u us u' res G Gx Gs vs Q b2 len g1 g3 g4 (fun a g x => d a (s2 a (b3 a g)) x) e2 fun w H' G' Gr ke sub dj alk r1 r2 => ?_
  have nG : ∀ a, Gx a → ¬ F a := fun a x f => d a f x
  have rb := back H' u' G' ke.kin (fun a z => (sub a (.inl z)).elim .inl fun z => .inr fun f => nG a z (s2 a f)) r1
  have dd : ∀ a, F1 a → (Gi a ∧ ¬ G a) ∨ G' a → False := fun a f z => z.elim (fun z => d1 a f z.1) fun z => (sub a (.inl z)).elim (fun z => d1 a f (b3 a z)) fun z => nG a z (s1 a f)
  have alG : ∀ a, (Gi a ∧ ¬ G a) ∨ G' a → H' a ≠ none := fun a z => alk a (z.elim (fun z => R.al a (s2 a z.1)) fun z => (sub a (.inl z)).elim (fun z => R.al a (s2 a (b3 a z))) (al a))
  have Rg := (R1.ke ke fun a f g => d1 a f (b3 a g)).give ev0 rb dd alG
  rw [List.set_set] at Rg
  refine k w H' _ Gr Rg r2 (fun a f g => ?_) (fun a g => alk a ((sub a (.inr g)).elim (fun z => R.al a (s2 a (b3 a z))) (al a))) ⟨⟨fun b o q n => ke.keep b o q fun z => n (.inl (s2 b (b3 b z))), ke.imm⟩, fun a z => ?_⟩
  · have g' := sub a (.inr g)
    rcases f with f | f | f
    · exact g'.elim (fun z => d1 a f (b3 a z)) fun z => nG a z (s1 a f)
    · exact g'.elim f.2 fun z => nG a z (s2 a f.1)
    · exact dj a f g
  · have aux : G' a ∨ Gr a → FU F Gx a ∨ H a = none := fun z => (sub a z).elim (fun z => .inl (.inl (s2 a (b3 a z)))) fun z => .inl (.inr z)
    rcases z with (z | z | z) | z
    · exact .inl (.inl (s1 a z))
    · exact .inl (.inl (s2 a z.1))
    · exact aux (.inl z)
    · exact aux (.inr z)
/-- a node is written -/
theorem node_upd {H : Hp} {a : Addr} {o' ob : HO} {k' : Kd} {vs' : List V} {ts' : List T} {Fs' : Nat → FP} (ha : H a = some ob) (nim : ¬ Im ob) (hat' : At Γ (upd H a o') k' a vs') (hl : vs'.length = ts'.length)
    (kd : ∀ (j : Nat) (v : V) (t : T), vs'[j]? = some v → ts'[j]? = some t → Rep Γ H v t (Fs' j)) (hd : ∀ i j a, i ≠ j → Fs' i a → Fs' j a → False) (na : ∀ j, ¬ Fs' j a) : Rep Γ (upd H a o') (.ref a) (.nd k' ts') (fun x => x = a ∨ ∃ j, Fs' j x) := by
  refine .nd (Fs := Fs') hat' hl (fun _ => ⟨.inl rfl, na⟩) (fun j v t e1 e2 => (kd j v t e1 e2).frame (fun b u f q => ?_) fun b u im q => ?_) hd fun j x z => .inr ⟨j, z⟩
  · have nb : b ≠ a := fun z => na j (by rw [← z]; exact f)
    rw [upd_ne nb]; exact q
  · have nb : b ≠ a := fun z => by rw [z, ha] at q; cases q; exact nim im
    rw [upd_ne nb]; exact q
theorem ke_upd {H : Hp} {a : Addr} {o' ob : HO} {G : FP} (ha : H a = some ob) (nim : ¬ Im ob) (g : G a) : Ke H (upd H a o') G :=
  ⟨fun b u q n => by
    have nb : b ≠ a := fun z => n (by rw [z]; exact g)
    rw [upd_ne nb]; exact q, fun b u im q => by
    have nb : b ≠ a := fun z => by rw [z, ha] at q; cases q; exact nim im
    rw [upd_ne nb]; exact q⟩
theorem al_upd {H : Hp} {a : Addr} {o' : HO} (b : Addr) (h : H b ≠ none) : upd H a o' b ≠ none := by
  by_cases e : b = a
  · rw [e, upd_same]; exact fun z => nomatch z
  · rw [upd_ne e]; exact h

/-! ### lists -/
def appM : MuF
  | .nd .lst ts, [t] => if ts.length < 100000 then some (.nd .lst (ts ++ [t]), .non) else none
  | _, _ => none
theorem appM_ok : MutT Γ rAppend appM := by
  intro H x u us u' res G Gx Gs vs Q r hl hg hd hs dj e k
  unfold appM at e
  split at e
  · rename_i ts t
    by_cases hz : ts.length < 100000
    · rw [if_pos hz] at e
      cases e
      cases r with
      | @nd _ _ a ws _ Fs hat hlw hm hc hdd hss =>
        have hat : H a = some (.lst ws) := hat
        match vs, hl with
        | [y], _ =>
          have ry := hg 0 y t rfl rfl
          have hlw : ws.length = ts.length := hlw
          refine ⟨a, ws, y, rfl, rfl, hat, sz5' (by omega), ?_⟩
          refine k _ _ (fun x => x = a ∨ ∃ j, (if j < ts.length then Fs j else if j = ts.length then Gs 0 else FE) x) FE (ke_upd hat (fun z => z) (hm rfl).1) (fun b z => ?_) (fun _ _ z => z) al_upd
            (node_upd hat (fun z => z) upd_same (by simp [hlw]) (fun j v t' q1 q2 => ?_) (fun i j b ne z z' => ?_) fun j z => ?_) .non
          · rcases z with (z | ⟨j, z⟩) | z
            · rw [z]; exact .inl (hm rfl).1
            · by_cases c1 : j < ts.length
              · rw [if_pos c1] at z; exact .inl (hss j b z)
              · rw [if_neg c1] at z
                by_cases c2 : j = ts.length
                · rw [if_pos c2] at z; exact .inr (hs 0 b z)
                · rw [if_neg c2] at z; exact z.elim
            · exact z.elim
          · by_cases c1 : j < ts.length
            · rw [if_pos c1]
              rw [List.getElem?_append_left (by omega)] at q1 q2
              exact hc j v t' q1 q2
            · have hj : j = ts.length := by
                have := (List.getElem?_eq_some_iff.mp q2).1
                simp at this
                omega
              subst hj
              rw [if_neg c1, if_pos rfl]
              simp at q2
              subst q2
              rw [← hlw] at q1
              simp at q1
              subst q1
              exact ry
          · have aux : ∀ m, m < ts.length → Fs m b → Gs 0 b → False := fun m _ f g => dj b (hss m b f) (hs 0 b g)
            by_cases c1 : i < ts.length
            · rw [if_pos c1] at z
              by_cases c2 : j < ts.length
              · rw [if_pos c2] at z'; exact hdd i j b ne z z'
              · rw [if_neg c2] at z'
                by_cases c3 : j = ts.length
                · rw [if_pos c3] at z'; exact aux i c1 z z'
                · rw [if_neg c3] at z'; exact z'
            · rw [if_neg c1] at z
              by_cases c3 : i = ts.length
              · rw [if_pos c3] at z
                by_cases c2 : j < ts.length
                · rw [if_pos c2] at z'; exact aux j c2 z' z
                · rw [if_neg c2, if_neg (by omega)] at z'; exact z'
              · rw [if_neg c3] at z; exact z
          · by_cases c1 : j < ts.length
            · rw [if_pos c1] at z; exact (hm rfl).2 j z
            · rw [if_neg c1] at z
              by_cases c2 : j = ts.length
              · rw [if_pos c2] at z; exact dj a (hm rfl).1 (hs 0 a z)
              · rw [if_neg c2] at z; exact z
    · rw [if_neg hz] at e; cases e
  · cases e
def popM : MuF
  | .nd .lst ts, [.int i] => if 0 ≤ i ∧ i < 100000 then (ts[i.toNat]?).bind fun t => some (.nd .lst (ts.eraseIdx i.toNat), t) else none
  | _, _ => none
theorem seqIx_nat {i : Int} {n : Nat} (h0 : 0 ≤ i) (h1 : i.toNat < n) : seqIndex? i n = some i.toNat := by
  unfold seqIndex?
  have e : (if i < 0 then i + (n : Int) else i) = i := if_neg (by omega)
  simp only [e]
  rw [if_pos (by simp; omega)]
theorem popM_ok : MutT Γ rPopAt popM := by
  intro H x u us u' res G Gx Gs vs Q r hl hg hd hs dj e k
  unfold popM at e
  split at e
  · rename_i ts i
    by_cases hz : 0 ≤ i ∧ i < 100000
    · rw [if_pos hz] at e
      cases e1 : ts[i.toNat]? with
      | none => rw [e1] at e; cases e
      | some t =>
        rw [e1] at e
        cases e
        cases r with
        | @nd _ _ a ws _ Fs hat hlw hm hc hdd hss =>
          have hat : H a = some (.lst ws) := hat
          have hlw : ws.length = ts.length := hlw
          have hi : i.toNat < ts.length := (List.getElem?_eq_some_iff.mp e1).1
          match vs, hl with
          | [y], _ =>
            have ry := hg 0 y _ rfl rfl
            cases ry
            have ew : ws[i.toNat]? = some (ws[i.toNat]'(by omega)) := List.getElem?_eq_getElem (by omega)
            have rr := hc _ _ _ ew e1
            refine ⟨a, ws, i, i.toNat, _, rfl, rfl, hat, by omega, by omega, seqIx_nat hz.1 (by omega), ew, ?_⟩
            refine k _ _ (fun x => x = a ∨ ∃ j, (if j < i.toNat then Fs j else Fs (j + 1)) x) (Fs i.toNat) (ke_upd hat (fun z => z) (hm rfl).1) (fun b z => ?_) (fun b z z' => ?_) al_upd
              (node_upd hat (fun z => z) upd_same (by rw [List.length_eraseIdx, List.length_eraseIdx, hlw]) (fun j v t' q1 q2 => ?_) (fun i' j b ne z z' => ?_) fun j z => ?_)
              (rr.frame (fun b u f q => by
                have nb : b ≠ a := fun z => (hm rfl).2 _ (by rw [← z]; exact f)
                rw [upd_ne nb]; exact q) fun b u im q => by
                have nb : b ≠ a := fun z => by rw [z, hat] at q; cases q; exact im
                rw [upd_ne nb]; exact q)
            · rcases z with (z | ⟨j, z⟩) | z
              · rw [z]; exact .inl (hm rfl).1
              · by_cases c1 : j < i.toNat
                · rw [if_pos c1] at z; exact .inl (hss j b z)
                · rw [if_neg c1] at z; exact .inl (hss _ b z)
              · exact .inl (hss _ b z)
            · rcases z with z | ⟨j, z⟩
              · rw [z] at z'; exact (hm rfl).2 _ z'
              · by_cases c1 : j < i.toNat
                · rw [if_pos c1] at z; exact hdd j _ b (by omega) z z'
                · rw [if_neg c1] at z; exact hdd (j + 1) _ b (by omega) z z'
            · rw [List.getElem?_eraseIdx] at q1 q2
              by_cases c1 : j < i.toNat
              · rw [if_pos c1] at q1 q2 ⊢; exact hc j v t' q1 q2
              · rw [if_neg c1] at q1 q2 ⊢; exact hc (j + 1) v t' q1 q2
            · by_cases c1 : i' < i.toNat
              · rw [if_pos c1] at z
                by_cases c2 : j < i.toNat
                · rw [if_pos c2] at z'; exact hdd i' j b ne z z'
                · rw [if_neg c2] at z'; exact hdd i' (j + 1) b (by omega) z z'
              · rw [if_neg c1] at z
                by_cases c2 : j < i.toNat
                · rw [if_pos c2] at z'; exact hdd (i' + 1) j b (by omega) z z'
                · rw [if_neg c2] at z'; exact hdd (i' + 1) (j + 1) b (by omega) z z'
            · by_cases c1 : j < i.toNat
              · rw [if_pos c1] at z; exact (hm rfl).2 j z
              · rw [if_neg c1] at z; exact (hm rfl).2 _ z
    · rw [if_neg hz] at e; cases e
  · cases e
end
end VT

/-! VT8: more stores and list methods; calls of built-ins; slices. -/
namespace VT
open PySem L2
section
variable {Γ : Gx} {ar : Fx} {W : WX} {X : Cx} {a b e o : Expr} {pos p apos cpos : Pos} {ga gb g : BF} {fa fb : EF} {es : List Expr} {pl : PF}

/-! ### xs.remove(x) of data -/
def rRemD (K : PySem.W.Frag) : V → List V → Hp → VK → Prop := fun x vs H Q => ∃ (l : Addr) (xs : List V) (y : V) (ds : List PyData) (d : PyData) (j : Nat), x = .ref l ∧ vs = [y] ∧ H l = some (.lst xs) ∧ DpAll K H xs ds ∧ Dp K H y d ∧
  PyData.canLayAll0 ds = true ∧ SeqAt.shaped d = true ∧ SeqAt.dataPlace ds d = some j ∧ xs.length ≤ sizeLine ∧ Q .non (upd H l (.lst (xs.eraseIdx j)))
theorem mt_remD (hu : X.A.units + 65 < cLine) : MtM X "list.remove" (rRemD X.K) := by
  intro pins s σ H x vs v us Q I rx rv h
  obtain ⟨l, xs, y, ds, d, j, rfl, rfl, hH, hds, hd, c1, c2, hp, hz, q⟩ := h
  cases rx
  obtain ⟨u, rfl, ru⟩ := rv.one
  obtain ⟨z, its, n, r, hl, ee⟩ := I.lstM hH
  obtain ⟨as, r1⟩ := Dp.readsAll I ds xs its hds r
  obtain ⟨bs, r2⟩ := Dp.reads I d y u hd ru
  refine SeqAt.remove_list_data (vs := its.toArray) ⟨_, ee, rfl, n, rfl⟩ (by simpa using r1) r2 (PyData.plainAll_of_canLay0 ds c1) (PyData.plain_of_canLay0 d (SeqAt.canLay_of_shaped c2)) (PyProof.Rows.room_in_shaped c2 hu) hp (by rw [List.size_toArray, ← hl]; exact hz) ?_
  refine ⟨.non, _, I.lset (its' := its.eraseIdx j) hH ee ?_ (r.eraseIdx j) ?_, rfl, q⟩
  · show its.toArray.eraseIdxIfInBounds j = (its.eraseIdx j).toArray
    rw [List.eraseIdxIfInBounds_toArray]
  · have hle : (xs.eraseIdx j).length ≤ xs.length := by rw [List.length_eraseIdx]; split <;> omega
    omega
def remM : MuF
  | .nd .lst ts, [t] => if ts.length ≤ 100000 ∧ PyData.canLayAll0 (datAll ts) = true ∧ shT t = true then (SeqAt.dataPlace (datAll ts) (dat t)).bind fun j => some (.nd .lst (ts.eraseIdx j), .non) else none
  | _, _ => none
theorem remM_ok : MutT Γ (rRemD Γ.K) remM := by
  intro H x u us u' res G Gx Gs vs Q r hl hg hd hs dj e k
  unfold remM at e
  split at e
  · rename_i ts t
    by_cases hz : ts.length ≤ 100000 ∧ PyData.canLayAll0 (datAll ts) = true ∧ shT t = true
    · rw [if_pos hz] at e
      cases e1 : SeqAt.dataPlace (datAll ts) (dat t) with
      | none => rw [e1] at e; cases e
      | some i =>
        rw [e1] at e
        cases e
        cases r with
        | @nd _ _ a ws _ Fs hat hlw hm hc hdd hss =>
          have hat : H a = some (.lst ws) := hat
          have hlw : ws.length = ts.length := hlw
          match vs, hl with
          | [y], _ =>
            have ry := hg 0 y _ rfl rfl
            refine ⟨a, ws, y, datAll ts, dat t, i, rfl, rfl, hat, dpAll hlw fun j v t' q1 q2 => (hc j v t' q1 q2).dp (layAll_get hz.2.1 q2), ry.dp (shT_lay hz.2.2), hz.2.1, hz.2.2, e1, sz5 (by omega), ?_⟩
            refine k _ _ (fun x => x = a ∨ ∃ j, (if j < i then Fs j else Fs (j + 1)) x) FE (ke_upd hat (fun z => z) (hm rfl).1) (fun b z => ?_) (fun _ _ z => z) al_upd
              (node_upd hat (fun z => z) upd_same (by rw [List.length_eraseIdx, List.length_eraseIdx, hlw]) (fun j v t' q1 q2 => ?_) (fun i' j b ne z z' => ?_) fun j z => ?_) .non
            · rcases z with (z | ⟨j, z⟩) | z
              · rw [z]; exact .inl (hm rfl).1
              · by_cases c1 : j < i
                · rw [if_pos c1] at z; exact .inl (hss j b z)
                · rw [if_neg c1] at z; exact .inl (hss _ b z)
              · exact z.elim
            · rw [List.getElem?_eraseIdx] at q1 q2
              by_cases c1 : j < i
              · rw [if_pos c1] at q1 q2 ⊢; exact hc j v t' q1 q2
              · rw [if_neg c1] at q1 q2 ⊢; exact hc (j + 1) v t' q1 q2
            · by_cases c1 : i' < i
              · rw [if_pos c1] at z
                by_cases c2 : j < i
                · rw [if_pos c2] at z'; exact hdd i' j b ne z z'
                · rw [if_neg c2] at z'; exact hdd i' (j + 1) b (by omega) z z'
              · rw [if_neg c1] at z
                by_cases c2 : j < i
                · rw [if_pos c2] at z'; exact hdd (i' + 1) j b (by omega) z z'
                · rw [if_neg c2] at z'; exact hdd (i' + 1) (j + 1) b (by omega) z z'
            · by_cases c1 : j < i
              · rw [if_pos c1] at z; exact (hm rfl).2 j z
              · rw [if_neg c1] at z; exact (hm rfl).2 _ z
    · rw [if_neg hz] at e; cases e
  · cases e

/-! ### the rules for methods of lists -/
def isLst : T → Bool
  | .nd .lst _ => true
  | _ => false
theorem Rep.tyL {H : Hp} {x : V} {u : T} {G : FP} (h : Rep Γ H x u G) (hl : isLst u = true) : tyV Γ.K "list" x H := by
  unfold isLst at hl
  split at hl
  · obtain ⟨a, vs, rfl, ha, _, _⟩ := h.lstAt
    exact .inl ⟨rfl, vs, .inl (.inl ha)⟩
  · cases hl
def eMutP (m : MuF) (pl : PF) (gs : BAF) : EF := fun S => (pl S).bind fun ip => (sl S ip.1).bind fun t => (tAt ip.2 t).bind fun u => if isLst u = true then (gs S).bind fun as => (valsOf as).bind fun us => (m u us).bind fun ur => some (.ok ur.2, S.set ip.1 (some (tPut ip.2 t ur.1))) else none
theorem e_lmP {r : V → List V → Hp → VK → Prop} {m : MuF} {id : String} {name : Str} {gs : BAF} (hm : MutT Γ r m) (slot : Slot "list" name id) (hty : typeOf (.builtin id) = pure (.type "method_descriptor")) (mt : MtM X id r) (ho : PE X o (rdP Γ ar pl)) (ha : PA X (e :: es) (rdBA Γ ar gs)) (hK : X.K = Γ.K := by rfl)
    (hbase : attributeBase o name X.env (eval o X.env) = eval o X.env := by rfl)
    (hfew : ((backTo cpos (starEach (e :: es) X.env)).all (fun x => !x.1) && (backToKw cpos (keywordEach [] X.env)).all (fun x => x.1.isSome) && decide ((e :: es).length + ([] : List Keyword).length + (if ([] : List Keyword).isEmpty then 0 else 1) < 30)) = true := by rfl)
    (hline : (apos.endLine == cpos.line) = true := by rfl)
    (hst : starEach (e :: es) X.env = (false, eval e X.env) :: starEach es X.env := by rfl)
    (hpl : (backTo cpos (starEach es X.env)).any (·.1) = false := by rfl) :
    PE X (.Call (.Attribute o name apos) (e :: es) [] cpos) (rdE Γ ar W (eMutP m pl gs)) := by
  refine PE.imp (pe_bm PySem.F.plainAttrs_list slot hty mt ho ha hbase hfew hline hst hpl) fun σ H Q q => ?_
  obtain ⟨S, F, rr, S', R, ee, kk⟩ := q
  unfold eMutP at ee
  cases q1 : pl S with
  | none => rw [q1] at ee; cases ee
  | some ip =>
    obtain ⟨i, p⟩ := ip
    rw [q1] at ee
    simp only [Option.bind_some] at ee
    cases q2 : sl S i with
    | none => rw [q2] at ee; cases ee
    | some t =>
      rw [q2] at ee
      simp only [Option.bind_some] at ee
      cases q3 : tAt p t with
      | none => rw [q3] at ee; cases ee
      | some u =>
        rw [q3] at ee
        simp only [Option.bind_some] at ee
        by_cases hl : isLst u = true
        · rw [if_pos hl] at ee
          cases q4 : gs S with
          | none => rw [q4] at ee; cases ee
          | some as =>
            rw [q4] at ee
            simp only [Option.bind_some] at ee
            cases q5 : valsOf as with
            | none => rw [q5] at ee; cases ee
            | some us =>
              rw [q5] at ee
              simp only [Option.bind_some] at ee
              cases q6 : m u us with
              | none => rw [q6] at ee; cases ee
              | some ur =>
                obtain ⟨u', res⟩ := ur
                rw [q6] at ee
                cases ee
                refine ⟨S, F, i, p, t, u, R, q1, q2, q3, fun v0 v H1 h1 h2 s1 => ?_⟩
                obtain ⟨v0', v', G0, ev, b1, b2⟩ := R.place q2 q3
                have z0 : v0 = v0' := Option.some.inj (Option.some.inj (h1.symm.trans ev))
                subst z0
                have z1 : v = v' := Option.some.inj (h2.symm.trans b1)
                subst z1
                refine ⟨hK ▸ (b2.same s1).tyL hl, S, F, as, R.same s1, q4, fun vs H2 G2 s2 A2 n2 => ?_⟩
                have s12 := s1.trans s2
                refine mut_core hm (R.same s12) A2 q5 (fun a f g => same_al s1 (R.al a f) (n2.1 a g)) n2.2 q2 q3 q6 h1 (vAt_same s12 h2) fun w H' F' G R' rw' d al u => ?_
                exact kk w H' F' G ⟨R', rw', d, al, Upd.trans (F1 := FU F G2) ⟨Ke.of_same F s12, fun a z => z.elim .inl fun z => .inr (s1.free (n2.1 a z))⟩ u⟩
        · rw [if_neg hl] at ee; cases ee
/-- the list is a name's; the arguments with effects -/
def eMutV (m : MuF) (i : Nat) (fs : AF) : EF := fun S => (sl S i).bind fun t => if isLst t = true then (fs S).bind fun rx => match rx with
  | (.ex c, S1) => some (.ex c, S1)
  | (.ok as, S1) => (sl S1 i).bind fun u => (valsOf as).bind fun us => (m u us).bind fun ur => some (.ok ur.2, S1.set i (some ur.1)) else none
theorem e_lmV {r : V → List V → Hp → VK → Prop} {m : MuF} {id : String} {name y : Str} {fs : AF} {pos' : Pos} (i : Nat) (hm : MutT Γ r m) (slot : Slot "list" name id) (hty : typeOf (.builtin id) = pure (.type "method_descriptor")) (mt : MtM X id r) (ha : PA X (e :: es) (rdA Γ ar W fs)) (hK : X.K = Γ.K := by rfl)
    (hN : X.N[i]? = some y := by rfl) (hv : Vis X.env.scope y := by first | exact Or.inl rfl | exact Or.inr (Or.inl rfl) | exact Or.inr (Or.inr rfl)) (hd : (y == ("__debug__" : Str)) = false := by decide) (hcd : (y == ("__classdict__" : Str)) = false := by decide)
    (hbase : attributeBase (.Name y pos') name X.env (eval (.Name y pos') X.env) = eval (.Name y pos') X.env := by rfl)
    (hfew : ((backTo cpos (starEach (e :: es) X.env)).all (fun x => !x.1) && (backToKw cpos (keywordEach [] X.env)).all (fun x => x.1.isSome) && decide ((e :: es).length + ([] : List Keyword).length + (if ([] : List Keyword).isEmpty then 0 else 1) < 30)) = true := by rfl)
    (hline : (apos.endLine == cpos.line) = true := by rfl)
    (hst : starEach (e :: es) X.env = (false, eval e X.env) :: starEach es X.env := by rfl)
    (hpl : (backTo cpos (starEach es X.env)).any (·.1) = false := by rfl) :
    PE X (.Call (.Attribute (.Name y pos') name apos) (e :: es) [] cpos) (rdE Γ ar W (eMutV m i fs)) := by
  refine PE.imp (pe_bm PySem.F.plainAttrs_list slot hty mt (pe_var hN hv hd hcd) ha hbase hfew hline hst hpl) fun σ H Q q => ?_
  obtain ⟨S, F, rr, S', R, ee, kk⟩ := q
  unfold eMutV at ee
  cases q2 : sl S i with
  | none => rw [q2] at ee; cases ee
  | some t =>
    rw [q2] at ee
    simp only [Option.bind_some] at ee
    by_cases hl : isLst t = true
    · rw [if_pos hl] at ee
      obtain ⟨v, ev, rv⟩ := R.slot (sl_some.mp q2)
      refine ⟨v, ev, hK ▸ rv.tyL hl, ?_⟩
      cases q4 : fs S with
      | none => rw [q4] at ee; cases ee
      | some o1 =>
        obtain ⟨r1, S1⟩ := o1
        rw [q4] at ee
        simp only [Option.bind_some] at ee
        cases r1 with
        | ex c => cases ee; exact ⟨S, F, _, _, R, q4, kk⟩
        | ok as =>
          simp only at ee
          cases q3 : sl S1 i with
          | none => rw [q3] at ee; cases ee
          | some u =>
            rw [q3] at ee
            simp only [Option.bind_some] at ee
            cases q5 : valsOf as with
            | none => rw [q5] at ee; cases ee
            | some us =>
              rw [q5] at ee
              simp only [Option.bind_some] at ee
              cases q6 : m u us with
              | none => rw [q6] at ee; cases ee
              | some ur =>
                obtain ⟨u', res⟩ := ur
                rw [q6] at ee
                cases ee
                refine ⟨S, F, _, _, R, q4, fun vs H1 F1 G1 R1 A1 d1 al1 u1 => ?_⟩
                refine mut_core (p := []) hm R1 A1 q5 d1 al1 q3 rfl q6 ev rfl fun w H' F' G R' rw' d al u2 => ?_
                exact kk w H' F' G ⟨R', rw', d, al, u1.trans u2⟩
    · rw [if_neg hl] at ee; cases ee

/-! ### stores -/
def rPutF (K : PySem.W.Frag) (f : Str) : V → List V → Hp → VK → Prop := fun x vs H Q => ∃ a C dx fs y, x = .ref a ∧ vs = [y] ∧ H a = some (.ins C dx fs) ∧ Cls K C ∧ NoAttr K C f ∧ fs.length < 1000 ∧ Q .non (upd H a (.ins C dx (putF f y fs)))
def putFM (ct : Nat → List Str) (f : Str) : MuF
  | .nd (.obj c ns) ts, [t] => if (ct c).contains f = true ∧ ns.length < 1000 then (match ixOf f ns with
    | some j => some (.nd (.obj c ns) (ts.set j t), .non)
    | none => some (.nd (.obj c (ns ++ [f])) (ts ++ [t]), .non)) else none
  | _, _ => none
theorem putF_some {f : Str} {y : V} : ∀ {ns : List Str} {vs : List V} {j : Nat}, ns.length = vs.length → ixOf f ns = some j → putF f y (ns.zip vs) = ns.zip (vs.set j y)
  | [], _, _, _, e => by cases e
  | n :: ns, [], _, hl, _ => by simp at hl
  | n :: ns, v :: vs, j, hl, e => by
    unfold ixOf at e
    show (if n = f then _ else _) = _
    by_cases h : n = f
    · rw [if_pos h] at e
      cases e
      rw [if_pos h]
      subst h
      rfl
    · rw [if_neg h] at e
      cases e3 : ixOf f ns with
      | none => rw [e3] at e; cases e
      | some j' =>
        rw [e3] at e
        cases e
        rw [if_neg h]
        show (n, v) :: putF f y (ns.zip vs) = _
        rw [putF_some (by simpa using hl) e3]
        rfl
theorem putF_none {f : Str} {y : V} : ∀ {ns : List Str} {vs : List V}, ns.length = vs.length → ixOf f ns = none → putF f y (ns.zip vs) = (ns ++ [f]).zip (vs ++ [y])
  | [], [], _, _ => rfl
  | [], _ :: _, hl, _ => by simp at hl
  | n :: ns, [], hl, _ => by simp at hl
  | n :: ns, v :: vs, hl, e => by
    unfold ixOf at e
    show (if n = f then _ else _) = _
    by_cases h : n = f
    · rw [if_pos h] at e; cases e
    · rw [if_neg h] at e
      cases e3 : ixOf f ns with
      | some j' => rw [e3] at e; cases e
      | none =>
        rw [if_neg h]
        show (n, v) :: putF f y (ns.zip vs) = _
        rw [putF_none (by simpa using hl) e3]
        rfl
theorem ixOf_lt {f : Str} : ∀ {ns : List Str} {j : Nat}, ixOf f ns = some j → j < ns.length
  | [], _, e => by cases e
  | n :: ns, j, e => by
    unfold ixOf at e
    by_cases h : n = f
    · rw [if_pos h] at e; cases e; simp
    · rw [if_neg h] at e
      cases e3 : ixOf f ns with
      | none => rw [e3] at e; cases e
      | some j' =>
        rw [e3] at e
        cases e
        have := ixOf_lt e3
        simp
        omega
/-- one child is another one now -/
theorem set_kids {H : Hp} {ws : List V} {ts : List T} {Fs : Nat → FP} {G1 : FP} {j : Nat} {y : V} {t : T} (hc : ∀ (i : Nat) (v : V) (t : T), ws[i]? = some v → ts[i]? = some t → Rep Γ H v t (Fs i)) (ry : Rep Γ H y t G1) (hj : j < ts.length) (hlw : ws.length = ts.length) :
    ∀ (i : Nat) (v : V) (t' : T), (ws.set j y)[i]? = some v → (ts.set j t)[i]? = some t' → Rep Γ H v t' ((fun m => if m = j then G1 else Fs m) i) := fun i v t' q1 q2 => by
  by_cases c : i = j
  · subst c
    simp only [if_true]
    rw [List.getElem?_set_self (by omega)] at q1 q2
    cases q1
    cases q2
    exact ry
  · simp only [if_neg c]
    rw [List.getElem?_set_ne (Ne.symm c)] at q1 q2
    exact hc i v t' q1 q2
theorem set_dj {Fs : Nat → FP} {G G1 : FP} {j : Nat} (hdd : ∀ i j a, i ≠ j → Fs i a → Fs j a → False) (hss : ∀ i a, Fs i a → G a) (dj : ∀ a, G a → G1 a → False) : ∀ i k a, i ≠ k → (fun m => if m = j then G1 else Fs m) i a → (fun m => if m = j then G1 else Fs m) k a → False := fun i k a ne z z' => by
  by_cases c : i = j
  · simp only [if_pos c] at z
    simp only [if_neg (fun q => ne (c.trans q.symm) : ¬ k = j)] at z'
    exact dj a (hss k a z') z
  · simp only [if_neg c] at z
    by_cases c' : k = j
    · simp only [if_pos c'] at z'
      exact dj a (hss i a z) z'
    · simp only [if_neg c'] at z'
      exact hdd i k a ne z z'
theorem putFM_ok {f : Str} : MutT Γ (rPutF Γ.K f) (putFM Γ.ct f) := by
  intro H x u us u' res G Gx Gs vs Q r hl hg hd hs dj e k
  unfold putFM at e
  split at e
  · rename_i c ns ts t
    by_cases hz : (Γ.ct c).contains f = true ∧ ns.length < 1000
    · rw [if_pos hz] at e
      obtain ⟨o1, o2⟩ := Γ.ok c f (List.contains_iff_mem.mp hz.1)
      cases r with
      | @nd _ _ a ws _ Fs hat hlw hm hc hdd hss =>
        obtain ⟨hln, dx, ha⟩ := hat
        match vs, hl with
        | [y], _ =>
          have ry := hg 0 y _ rfl rfl
          have lz : (ns.zip ws).length < 1000 := by rw [List.length_zip]; omega
          have dj1 : ∀ a, G a → Gs 0 a → False := fun a g z => dj a g (hs 0 a z)
          refine ⟨a, _, dx, _, y, rfl, rfl, ha, o1, o2, lz, ?_⟩
          split at e
          · rename_i j ej
            cases e
            have hj : j < ts.length := by have := ixOf_lt ej; omega
            rw [putF_some hln ej]
            refine k _ _ (fun x => x = a ∨ ∃ i, (fun m => if m = j then Gs 0 else Fs m) i x) FE (ke_upd ha (fun z => z) (hm rfl).1) (fun b z => ?_) (fun _ _ z => z) al_upd
              (node_upd ha (fun z => z) ⟨by rw [List.length_set]; exact hln, dx, upd_same⟩ (by rw [List.length_set, List.length_set]; exact hlw) (set_kids hc ry hj hlw) (set_dj hdd hss dj1) fun i z => ?_) .non
            · rcases z with (z | ⟨i, z⟩) | z
              · rw [z]; exact .inl (hm rfl).1
              · by_cases c1 : i = j
                · simp only [if_pos c1] at z; exact .inr (hs 0 b z)
                · simp only [if_neg c1] at z; exact .inl (hss i b z)
              · exact z.elim
            · by_cases c1 : i = j
              · simp only [if_pos c1] at z; exact dj1 a (hm rfl).1 z
              · simp only [if_neg c1] at z; exact (hm rfl).2 i z
          · rename_i ej
            cases e
            rw [putF_none hln ej]
            have kk : ∀ (i : Nat) (v : V) (t' : T), (ws ++ [y])[i]? = some v → (ts ++ [t])[i]? = some t' → Rep Γ H v t' ((fun m => if m = ts.length then Gs 0 else Fs m) i) := fun i v t' q1 q2 => by
              by_cases c1 : i < ts.length
              · simp only [if_neg (show ¬ i = ts.length by omega)]
                rw [List.getElem?_append_left (by omega)] at q1 q2
                exact hc i v t' q1 q2
              · have hj : i = ts.length := by
                  have := (List.getElem?_eq_some_iff.mp q2).1
                  simp at this
                  omega
                subst hj
                simp only [if_true]
                simp at q2
                subst q2
                rw [← hlw] at q1
                simp at q1
                subst q1
                exact ry
            refine k _ _ (fun x => x = a ∨ ∃ i, (fun m => if m = ts.length then Gs 0 else Fs m) i x) FE (ke_upd ha (fun z => z) (hm rfl).1) (fun b z => ?_) (fun _ _ z => z) al_upd
              (node_upd ha (fun z => z) ⟨by simp [hln], dx, upd_same⟩ (by simp [hlw]) kk (set_dj hdd hss dj1) fun i z => ?_) .non
            · rcases z with (z | ⟨i, z⟩) | z
              · rw [z]; exact .inl (hm rfl).1
              · by_cases c1 : i = ts.length
                · simp only [if_pos c1] at z; exact .inr (hs 0 b z)
                · simp only [if_neg c1] at z; exact .inl (hss i b z)
              · exact z.elim
            · by_cases c1 : i = ts.length
              · simp only [if_pos c1] at z; exact dj1 a (hm rfl).1 z
              · simp only [if_neg c1] at z; exact (hm rfl).2 i z
    · rw [if_neg hz] at e; cases e
  · cases e
/-- the value, then the place: what is stored there -/
def sMut (m : MuF) (pl : PF) (f : EF) : SF := fun S => (f S).bind fun rx => match rx with
  | (.ex c, S1) => some (.ex c, S1)
  | (.ok t, S1) => (pl S1).bind fun ip => (sl S1 ip.1).bind fun t0 => (tAt ip.2 t0).bind fun u => (m u [t]).bind fun ur => some (.nx, S1.set ip.1 (some (tPut ip.2 t0 ur.1)))
theorem sMut_ok {r : V → List V → Hp → VK → Prop} {m : MuF} (hm : MutT Γ r m) {D : Ends} {σ : St} {H : Hp} (q : rdS Γ ar W (sMut m pl fa) D σ H) : rdE Γ ar W fa σ H fun y H1 => rdP Γ ar pl σ H1 fun x H2 => r x [y] H2 fun _ H3 => D.nx σ H3 := by
  obtain ⟨S, F, fl, S', R, ee, kk⟩ := q
  unfold sMut at ee
  cases q0 : fa S with
  | none => rw [q0] at ee; cases ee
  | some o1 =>
    obtain ⟨r1, S1⟩ := o1
    rw [q0] at ee
    simp only [Option.bind_some] at ee
    cases r1 with
    | ex c => cases ee; exact ⟨S, F, _, _, R, q0, fun H' F' R' u => kk σ H' F' R' u⟩
    | ok t =>
      simp only at ee
      cases q1 : pl S1 with
      | none => rw [q1] at ee; cases ee
      | some ip =>
        obtain ⟨i, p⟩ := ip
        rw [q1] at ee
        simp only [Option.bind_some] at ee
        cases q2 : sl S1 i with
        | none => rw [q2] at ee; cases ee
        | some t0 =>
          rw [q2] at ee
          simp only [Option.bind_some] at ee
          cases q3 : tAt p t0 with
          | none => rw [q3] at ee; cases ee
          | some u =>
            rw [q3] at ee
            simp only [Option.bind_some] at ee
            cases q4 : m u [t] with
            | none => rw [q4] at ee; cases ee
            | some ur =>
              obtain ⟨u', res⟩ := ur
              rw [q4] at ee
              cases ee
              refine ⟨S, F, _, _, R, q0, fun y H1 F1 G1 o1 => ⟨S1, F1, i, p, t0, u, o1.rs, q1, q2, q3, fun v0 v H2 h1 h2 s => ?_⟩⟩
              have o2 := o1.same s
              have A : ArgsP Γ H2 σ [y] [.val t] (FU G1 FE) := argsP_nil.val o2.r fun _ _ z => z
              refine mut_core hm o2.rs A rfl (fun a f g => g.elim (o2.d a f) fun z => z) (fun a g => g.elim (o2.al a) fun z => z.elim) q2 q3 q4 h1 (vAt_same s h2) fun w H' F' G R' rw' d al u2 => ?_
              exact kk σ H' F' R' ((o2.u.sub fun a z => z.elim .inl fun z => z.elim .inr fun z => z.elim).trans (u2.sub fun a z => .inl z))
theorem s_fld {f : Str} {value : Expr} {pos' : Pos} (ho : PE X o (rdP Γ ar pl)) (hv : PE X value (rdE Γ ar W fa)) (hs : swapsWith value (some (.Attribute o f pos')) pos.line X.env = pure false := by rfl) (hK : X.K = Γ.K := by rfl) : PS X (.Assign [.Attribute o f pos'] value pos) (rdS Γ ar W (sMut (putFM Γ.ct f) pl fa)) := by
  refine PS.imp (ps_fld ho hv hs) fun D σ H q => rdE_mono (sMut_ok putFM_ok q) fun y H1 h => ?_
  obtain ⟨S, F, i, p, t0, t1, R, q1, q2, q3, k⟩ := h
  refine ⟨S, F, i, p, t0, t1, R, q1, q2, q3, fun v0 v H' h1 h2 s => ?_⟩
  obtain ⟨a, C, dx, fs, y', ex, ey, ha, c1, c2, hl, fin⟩ := k v0 v H' h1 h2 s
  cases ey
  rw [hK]
  exact ⟨a, C, dx, fs, ex, ha, c1, c2, hl, fin⟩
end
end VT

/-! VT9: loops and comprehensions. -/
namespace VT
open PySem L2
section
variable {Γ : Gx} {ar : Fx} {W : WX} {X : Cx} {a b e o : Expr} {pos p apos cpos : Pos} {ga gb g : BF} {fa fb : EF} {es : List Expr} {pl : PF}

/-! ### targets -/
abbrev GF := T → TSt → Option TSt
def TgOk (Γ : Gx) (ar : Fx) (g : TG) (tf : GF) : Prop := ∀ (H : Hp) (σ : St) (S : TSt) (F G : FP) (v : V) (t : T) (S1 : TSt) (Q : St → Hp → Prop), RepS Γ ar H σ S F → Rep Γ H v t G → tf t S = some S1 → (∀ σ1, RepS Γ ar H σ1 S1 F → Q σ1 H) → g v σ H Q
def tgN (i : Nat) : GF := fun t S => if t.im = true then some (S.set i (some t)) else none
theorem RepS.putIm {H : Hp} {σ : St} {S : TSt} {F G : FP} {i : Nat} {v : V} {t : T} (h : RepS Γ ar H σ S F) (hi : ar i = none) (r : Rep Γ H v t G) (im : t.im = true) : RepS Γ ar H (σ.set i (some v)) (S.set i (some t)) F :=
  (h.put hi (r.im im FE) (fun _ _ z => z) fun _ z => z.elim).mono (fun a z => z.elim id fun z => z.elim) h.al
theorem tgN_ok {i : Nat} (hi : ar i = none) : TgOk Γ ar (gName i) (tgN i) := by
  intro H σ S F G v t S1 Q R r e k
  unfold tgN at e
  by_cases im : t.im = true
  · rw [if_pos im] at e
    cases e
    exact k _ (R.putIm hi r im)
  · rw [if_neg im] at e; cases e
def gNames : List Nat → TGs
  | [] => gNil
  | i :: is => gCons (gName i) (gNames is)
def setAll : List Nat → List T → TSt → Option TSt
  | [], [], S => some S
  | i :: is, t :: ts, S => setAll is ts (S.set i (some t))
  | _, _, _ => none
def tgT (is : List Nat) : GF := fun t S => match t with
  | .nd .tup ts => if T.imAll ts = true then setAll is ts S else none
  | _ => none
theorem setAll_ok {H : Hp} {F G : FP} {Q : St → Hp → Prop} : ∀ {is : List Nat} {ts : List T} {vs : List V} {σ : St} {S S1 : TSt}, (∀ i ∈ is, ar i = none) → RepS Γ ar H σ S F → vs.length = ts.length → (∀ (i : Nat) (v : V) (t : T), vs[i]? = some v → ts[i]? = some t → Rep Γ H v t G) → T.imAll ts = true → setAll is ts S = some S1 →
    (∀ σ1, RepS Γ ar H σ1 S1 F → Q σ1 H) → gNames is vs σ H Q
  | [], [], vs, σ, S, S1, hi, R, hl, hc, im, e, k => by
    cases e
    match vs, hl with
    | [], _ => exact ⟨rfl, k σ R⟩
  | i :: is, t :: ts, vs, σ, S, S1, hi, R, hl, hc, im, e, k => by
    match vs, hl with
    | v :: vs, hl =>
      rw [T.imAll, Bool.and_eq_true] at im
      refine ⟨v, vs, rfl, ?_⟩
      exact setAll_ok (fun j hj => hi j (List.mem_cons_of_mem _ hj)) (R.putIm (hi i List.mem_cons_self) (hc 0 v t rfl rfl) im.1) (by simpa using hl) (fun j w u q1 q2 => hc (j + 1) w u (by simpa using q1) (by simpa using q2)) im.2 e k
  | [], _ :: _, _, _, _, _, _, _, _, _, _, e, _ => by cases e
  | _ :: _, [], _, _, _, _, _, _, _, _, _, e, _ => by cases e
theorem setAll_len : ∀ {is : List Nat} {ts : List T} {S S1 : TSt}, setAll is ts S = some S1 → is.length = ts.length
  | [], [], _, _, _ => rfl
  | i :: is, t :: ts, S, S1, e => by rw [List.length_cons, List.length_cons, setAll_len (is := is) (ts := ts) e]
  | [], _ :: _, _, _, e => by cases e
  | _ :: _, [], _, _, e => by cases e
theorem tgT_ok {is : List Nat} (hi : ∀ i ∈ is, ar i = none) : TgOk Γ ar (gTup Γ.K is.length (gNames is)) (tgT is) := by
  intro H σ S F G v t S1 Q R r e k
  unfold tgT at e
  split at e
  · rename_i ts
    by_cases im : T.imAll ts = true
    · rw [if_pos im] at e
      obtain ⟨a, vs, rfl, hq, hl, hc⟩ := r.tupl
      exact ⟨a, vs, rfl, hq, by rw [hl]; exact (setAll_len e).symm, setAll_ok hi R hl hc im e k⟩
    · rw [if_neg im] at e; cases e
  · cases e

/-! ### loops -/
def runL (tf : GF) (body : SF) : List T → SF
  | [] => fun S => some (.nx, S)
  | t :: ts => fun S => (tf t S).bind fun S1 => (body S1).bind fun rx => match rx with
    | (.nx, S2) => runL tf body ts S2
    | (.ct, S2) => runL tf body ts S2
    | (.bk, S2) => some (.nx, S2)
    | (fl, S2) => some (fl, S2)
theorem loop_step {body : SF} {tf : GF} {g : TG} (tk : TgOk Γ ar g tf) {D : Ends} {H : Hp} {σ : St} {S : TSt} {F G : FP} {v : V} {t : T} {ts : List T} {fl : Fl} {SN : TSt} (R : RepS Γ ar H σ S F) (r : Rep Γ H v t G) (ee : runL tf body (t :: ts) S = some (fl, SN))
    (P : St → Hp → Prop) (hP : ∀ σ' H' S' F', RepS Γ ar H' σ' S' F' → Upd H H' F F' → runL tf body ts S' = some (fl, SN) → P σ' H') (k : FlP Γ ar W D H F fl SN) {tb : TS} (hb : ∀ D σ H, rdS Γ ar W body D σ H → tb D σ H) : g v σ H fun σ2 H2 => tb { D with nx := P, ct := P, bk := D.nx } σ2 H2 := by
  unfold runL at ee
  cases e1 : tf t S with
  | none => rw [e1] at ee; cases ee
  | some S1 =>
    rw [e1] at ee
    simp only [Option.bind_some] at ee
    cases e2 : body S1 with
    | none => rw [e2] at ee; cases ee
    | some rx =>
      obtain ⟨fl1, S2⟩ := rx
      rw [e2] at ee
      simp only [Option.bind_some] at ee
      refine tk H σ S F G v t S1 _ R r e1 fun σ1 R1 => hb _ _ _ ⟨S1, F, fl1, S2, R1, e2, ?_⟩
      cases fl1 with
      | nx => exact fun σ' H' F' R' u => hP σ' H' S2 F' R' u ee
      | ct => exact fun σ' H' F' R' u => hP σ' H' S2 F' R' u ee
      | bk => cases ee; exact k
      | rt t => cases ee; exact k
      | ex c => cases ee; exact k
theorem flp_after {D : Ends} {H H1 : Hp} {F F1 : FP} {fl : Fl} {SN : TSt} (u : Upd H H1 F F1) (k : FlP Γ ar W D H F fl SN) : FlP Γ ar W D H1 F1 fl SN := by
  cases fl with
  | nx => exact fun σ' H' F' R' u' => k σ' H' F' R' (u.trans u')
  | bk => exact fun σ' H' F' R' u' => k σ' H' F' R' (u.trans u')
  | ct => exact fun σ' H' F' R' u' => k σ' H' F' R' (u.trans u')
  | ex c => exact fun σ' H' F' R' u' => k σ' H' F' R' (u.trans u')
  | rt t => exact fun v σ' H' F' G o => k v σ' H' F' G ⟨o.rs, o.r, o.d, o.al, u.trans o.u⟩
def LoopR (g : TG) (tb : TS) (D : Ends) (σ : St) : It → Hp → Prop := fun J H1 => ∃ Wv : Nat → Nat → St → Hp → Prop, (∃ m, Wv 0 m σ H1) ∧ ∀ i m σ H, Wv i m σ H →
  (J.stop i H ∧ D.nx σ H) ∨ (J.go i H ∧ ∃ N : St → Hp → Prop, (∀ σ' H', N σ' H' → ∃ m', m' < m ∧ Wv (i + 1) m' σ' H') ∧ ∀ x H', J.yld i H x H' → g x σ H' fun σ2 H2 => tb { D with nx := N, ct := N, bk := D.nx } σ2 H2)
def ItX (K : PySem.W.Frag) (a : Addr) : Kd → It
  | .tup => Itt K a
  | _ => Itl K a
def isSq : Kd → Bool
  | .lst => true
  | .fz => true
  | .tup => true
  | _ => false
def SqX (K : PySem.W.Frag) (H : Hp) (k : Kd) (a : Addr) (vs : List V) : Prop := match k with
  | .tup => SqT K H a vs
  | _ => SqL K H a vs
theorem At.sqx {H : Hp} {k : Kd} {a : Addr} {vs : List V} (h : At Γ H k a vs) (hk : isSq k = true) : SqX Γ.K H k a vs := by
  cases k with
  | lst => exact .inl (.inl h)
  | fz => exact RoL.sq h
  | tup => exact .inl (.inl h)
  | dK _ => cases hk
  | dT _ => cases hk
  | obj _ _ => cases hk
/-- what is walked stays as it is, while other things change -/
theorem iter_ok {H1 : Hp} {F1 G : FP} {x : V} {k : Kd} {ts : List T} (r : Rep Γ H1 x (.nd k ts) G) (dj : ∀ a, F1 a → G a → False) (im : T.imAll ts = true) : ∃ a vs, x = .ref a ∧ vs.length = ts.length ∧
    ∀ H' F', Upd H1 H' F1 F' → At Γ H' k a vs ∧ ∀ (i : Nat) (v : V) (t : T), vs[i]? = some v → ts[i]? = some t → Rep Γ H' v t FE := by
  cases r with
  | @nd _ _ a vs _ Fs hat hl hm hc hd hs =>
    refine ⟨a, vs, rfl, hl, fun H' F' u => ⟨hat.keep (fun m o q => u.keep a o q fun f => dj a f (hm m).1) u.imm, fun i v t q1 q2 => ?_⟩⟩
    exact ((hc i v t q1 q2).im (imAll_iff.mp im i t q2) FE).ke u.toKe fun _ z => z.elim
theorem drop_get {α : Type} {l : List α} {i : Nat} {x : α} (h : l[i]? = some x) : l.drop i = x :: l.drop (i + 1) := by
  have hi : i < l.length := (List.getElem?_eq_some_iff.mp h).1
  have e : l[i] = x := (List.getElem?_eq_some_iff.mp h).2
  rw [List.drop_eq_getElem_cons hi, e]
theorem for_core {body : SF} {tf : GF} {g : TG} (tk : TgOk Γ ar g tf) {D : Ends} {H1 : Hp} {σ : St} {S1 : TSt} {F1 G : FP} {x : V} {k : Kd} {ts : List T} {fl : Fl} {SN : TSt} (r : Rep Γ H1 x (.nd k ts) G) (hk : isSq k = true) (dj : ∀ a, F1 a → G a → False) (im : T.imAll ts = true) (R : RepS Γ ar H1 σ S1 F1)
    (ee : runL tf body ts S1 = some (fl, SN)) (kk : FlP Γ ar W D H1 F1 fl SN) {tb : TS} (hb : ∀ D σ H, rdS Γ ar W body D σ H → tb D σ H) :
    ∃ a vs, x = .ref a ∧ SqX Γ.K H1 k a vs ∧ LoopR g tb D σ (ItX Γ.K a k) H1 := by
  obtain ⟨a, vs, rfl, hl, st⟩ := iter_ok r dj im
  have sq : ∀ H' F', Upd H1 H' F1 F' → SqX Γ.K H' k a vs := fun H' F' u => (st H' F' u).1.sqx hk
  have h0 : ∃ S' F', RepS Γ ar H1 σ S' F' ∧ Upd H1 H1 F1 F' ∧ runL tf body (ts.drop 0) S' = some (fl, SN) := ⟨S1, F1, R, Upd.refl H1 F1, ee⟩
  have hs : ∀ (i : Nat) (y : V) (σ' : St) (H' : Hp), vs[i]? = some y → (∃ S' F', RepS Γ ar H' σ' S' F' ∧ Upd H1 H' F1 F' ∧ runL tf body (ts.drop i) S' = some (fl, SN)) →
      g y σ' H' fun σ2 H2 => tb { D with nx := fun σ' H' => ∃ S' F', RepS Γ ar H' σ' S' F' ∧ Upd H1 H' F1 F' ∧ runL tf body (ts.drop (i + 1)) S' = some (fl, SN), ct := fun σ' H' => ∃ S' F', RepS Γ ar H' σ' S' F' ∧ Upd H1 H' F1 F' ∧ runL tf body (ts.drop (i + 1)) S' = some (fl, SN), bk := D.nx } σ2 H2 := by
    rintro i y σ' H' hy ⟨S', F', R', u', e'⟩
    have hi : i < ts.length := by rw [← hl]; exact (List.getElem?_eq_some_iff.mp hy).1
    have et : ts[i]? = some ts[i] := List.getElem?_eq_getElem hi
    rw [drop_get et] at e'
    exact loop_step tk R' ((st H' F' u').2 i y _ hy et) e' _ (fun σ2 H2 S2 F2 R2 u2 e2 => ⟨S2, F2, R2, u'.trans u2, e2⟩) (flp_after u' kk) hb
  have hd : ∀ (σ' : St) (H' : Hp), (∃ S' F', RepS Γ ar H' σ' S' F' ∧ Upd H1 H' F1 F' ∧ runL tf body (ts.drop vs.length) S' = some (fl, SN)) → D.nx σ' H' := by
    rintro σ' H' ⟨S', F', R', u', e'⟩
    rw [hl, List.drop_length] at e'
    cases e'
    exact kk σ' H' F' R' u'
  refine ⟨a, vs, rfl, sq H1 F1 (Upd.refl H1 F1), ?_⟩
  cases k with
  | tup => exact for_tup (K := Γ.K) (a := a) (xs := vs) (fun i σ' H' => ∃ S' F', RepS Γ ar H' σ' S' F' ∧ Upd H1 H' F1 F' ∧ runL tf body (ts.drop i) S' = some (fl, SN)) h0 (fun i σ' H' _ ⟨_, F', _, u', _⟩ => sq H' F' u') hs hd
  | lst => exact for_list (K := Γ.K) (a := a) (xs := vs) (fun i σ' H' => ∃ S' F', RepS Γ ar H' σ' S' F' ∧ Upd H1 H' F1 F' ∧ runL tf body (ts.drop i) S' = some (fl, SN)) h0 (fun i σ' H' _ ⟨_, F', _, u', _⟩ => sq H' F' u') hs hd
  | fz => exact for_list (K := Γ.K) (a := a) (xs := vs) (fun i σ' H' => ∃ S' F', RepS Γ ar H' σ' S' F' ∧ Upd H1 H' F1 F' ∧ runL tf body (ts.drop i) S' = some (fl, SN)) h0 (fun i σ' H' _ ⟨_, F', _, u', _⟩ => sq H' F' u') hs hd
  | dK _ => cases hk
  | dT _ => cases hk
  | obj _ _ => cases hk
def iSeq (K : PySem.W.Frag) (tl : TE) : TI := fun σ H R => iList K tl σ H R ∨ iTup K tl σ H R
theorem pi_seq {tg l : Expr} {tl : TE} (hl : PE X l tl) : PI X tg l (iSeq X.K tl) := ⟨fun pins s σ H R I h => h.elim (fun h => (pi_list hl).run pins s σ H R I h) fun h => (pi_tup hl).run pins s σ H R I h⟩
def seqO : T → Option (Kd × List T)
  | .nd k ts => if isSq k = true ∧ T.imAll ts = true then some (k, ts) else none
  | _ => none
theorem seqO_some {t : T} {k : Kd} {ts : List T} (h : seqO t = some (k, ts)) : t = .nd k ts ∧ isSq k = true ∧ T.imAll ts = true := by
  unfold seqO at h
  split at h
  · rename_i k' ts'
    by_cases c : isSq k' = true ∧ T.imAll ts' = true
    · rw [if_pos c] at h; cases h; exact ⟨rfl, c⟩
    · rw [if_neg c] at h; cases h
  · cases h
/-- over a thing made anew (or never changed) -/
def sForE (tf : GF) (f : EF) (body : SF) : SF := fun S => (f S).bind fun rx => match rx with
  | (.ex c, S1) => some (.ex c, S1)
  | (.ok t, S1) => (seqO t).bind fun kt => runL tf body kt.2 S1
theorem forE_ok {tf : GF} {g : TG} {body : SF} (tk : TgOk Γ ar g tf) {D : Ends} {σ : St} {H : Hp} (q : rdS Γ ar W (sForE tf fa body) D σ H) : tFor (iSeq Γ.K (rdE Γ ar W fa)) g (rdS Γ ar W body) D σ H := by
  obtain ⟨S, F, fl, SN, R, ee, kk⟩ := q
  unfold sForE at ee
  cases e1 : fa S with
  | none => rw [e1] at ee; cases ee
  | some o1 =>
    obtain ⟨r1, S1⟩ := o1
    rw [e1] at ee
    simp only [Option.bind_some] at ee
    cases r1 with
    | ex c =>
      cases ee
      exact .inl ⟨S, F, _, _, R, e1, fun H' F' R' u => kk σ H' F' R' u⟩
    | ok t =>
      simp only at ee
      cases e2 : seqO t with
      | none => rw [e2] at ee; cases ee
      | some kt =>
        obtain ⟨k, ts⟩ := kt
        rw [e2] at ee
        simp only [Option.bind_some] at ee
        obtain ⟨rfl, hk, im⟩ := seqO_some e2
        have main : ∀ v H' F' G, Own Γ ar H F σ S1 v (.nd k ts) H' F' G → ∃ a vs, v = .ref a ∧ SqX Γ.K H' k a vs ∧ LoopR g (rdS Γ ar W body) D σ (ItX Γ.K a k) H' := fun v H' F' G ow =>
          for_core tk ow.r hk ow.d im ow.rs ee (flp_after (ow.u.sub fun a z => .inl z) kk) fun _ _ _ z => z
        cases k with
        | tup =>
          refine .inr ⟨S, F, _, _, R, e1, fun v H' F' G ow => ?_⟩
          obtain ⟨a, vs, ev, hq, lp⟩ := main v H' F' G ow
          exact ⟨a, ev, ⟨vs, hq⟩, lp⟩
        | lst =>
          refine .inl ⟨S, F, _, _, R, e1, fun v H' F' G ow => ?_⟩
          obtain ⟨a, vs, ev, hq, lp⟩ := main v H' F' G ow
          exact ⟨a, ev, ⟨vs, hq⟩, lp⟩
        | fz =>
          refine .inl ⟨S, F, _, _, R, e1, fun v H' F' G ow => ?_⟩
          obtain ⟨a, vs, ev, hq, lp⟩ := main v H' F' G ow
          exact ⟨a, ev, ⟨vs, hq⟩, lp⟩
        | dK _ => cases hk
        | dT _ => cases hk
        | obj _ _ => cases hk
theorem s_forE {tg iter : Expr} {body : List Stmt} {sb : SF} {tf : GF} {g : TG} (hp : PassesOwn (model X.prog X.w) X.A X.env X.xe) (hc : X.calm = true) (tk : TgOk Γ ar g tf) (hi : PE X iter (rdE Γ ar W fa)) (hg : PG X tg g) (hb : PSs X body (rdS Γ ar W sb)) (hK : X.K = Γ.K := by rfl)
    (hs : ∀ x, foldedSetIterable iter X.env x = pure x := by intro _; rfl) : PS X (.For tg iter body [] pos) (rdS Γ ar W (sForE tf fa sb)) := by
  refine PS.imp (ps_for hp hc (pi_seq hi) hg hb hs) fun D σ H q => ?_
  rw [hK]
  exact forE_ok tk q
/-- over what stands at a place of the name i: meanwhile the name is not to be read (but a thing that never changes may be) -/
def sForP (i : Nat) (tf : GF) (pl : PF) (body : SF) : SF := fun S => (pl S).bind fun ip => if ip.1 = i then (sl S i).bind fun t0 => (tAt ip.2 t0).bind fun u => (seqO u).bind fun kt => if u.im = true then runL tf body kt.2 S
  else (runL tf body kt.2 (S.set i none)).bind fun rx => some (rx.1, rx.2.set i (some t0)) else none
def fixAt (ar : Fx) (i : Nat) (v : V) : Fx := fun j => if j = i then some v else ar j
theorem forP_ok {i : Nat} {tf : GF} {g : TG} {body : SF} (tk : TgOk Γ ar g tf) (tk' : ∀ v, ar i = none ∨ ar i = some v → TgOk Γ (fixAt ar i v) g tf) {tb : TS} (hb0 : ∀ D σ H, rdS Γ ar W body D σ H → tb D σ H) (hb : ∀ v, ar i = none ∨ ar i = some v → ∀ D σ H, rdS Γ (fixAt ar i v) W body D σ H → tb D σ H)
    {D : Ends} {σ : St} {H : Hp} (q : rdS Γ ar W (sForP i tf pl body) D σ H) : tFor (iSeq Γ.K (rdP Γ ar pl)) g tb D σ H := by
  obtain ⟨S, F, fl, SN, R, ee, kk⟩ := q
  unfold sForP at ee
  cases q1 : pl S with
  | none => rw [q1] at ee; cases ee
  | some ip =>
    obtain ⟨i', p⟩ := ip
    rw [q1] at ee
    simp only [Option.bind_some] at ee
    by_cases hii : i' = i
    · subst hii
      rw [if_pos rfl] at ee
      cases q2 : sl S i' with
      | none => rw [q2] at ee; cases ee
      | some t0 =>
        rw [q2] at ee
        simp only [Option.bind_some] at ee
        cases q3 : tAt p t0 with
        | none => rw [q3] at ee; cases ee
        | some u =>
          rw [q3] at ee
          simp only [Option.bind_some] at ee
          cases q4 : seqO u with
          | none => rw [q4] at ee; cases ee
          | some kt =>
            obtain ⟨k, ts⟩ := kt
            rw [q4] at ee
            simp only [Option.bind_some] at ee
            obtain ⟨rfl, hk, im⟩ := seqO_some q4
            have main : ∀ v0 v H1, σ[i']? = some (some v0) → vAt H p v0 = some v → Same H H1 → ∃ a vs, v = .ref a ∧ SqX Γ.K H1 k a vs ∧ LoopR g tb D σ (ItX Γ.K a k) H1 := fun v0 v H1 h1 h2 s => by
              by_cases imu : (T.nd k ts).im = true
              · rw [if_pos imu] at ee
                obtain ⟨v0', v', G0, ev, b1, b2⟩ := R.place q2 q3
                have z0 : v0 = v0' := Option.some.inj (Option.some.inj (h1.symm.trans ev))
                subst z0
                have z1 : v = v' := Option.some.inj (h2.symm.trans b1)
                subst z1
                obtain ⟨a, vs, e1, e2, e3⟩ := for_core tk ((b2.im imu FE).same s) hk (fun _ _ z => z) im (R.same s) ee (flp_after (Upd.of_same s) kk) hb0
                exact ⟨a, vs, e1, e2, e3⟩
              · rw [if_neg imu] at ee
                cases q5 : runL tf body ts (S.set i' none) with
                | none => rw [q5] at ee; cases ee
                | some rx =>
                  obtain ⟨fl1, S2⟩ := rx
                  rw [q5] at ee
                  cases ee
                  obtain ⟨w0, F1, Gi, ev0, rv, R1, d1, s1, s2⟩ := R.take (sl_some.mp q2)
                  have z0 : v0 = w0 := Option.some.inj (Option.some.inj (h1.symm.trans ev0))
                  subst z0
                  obtain ⟨v1, G, b1, b2, b3, _⟩ := VT.focus p rv q3
                  have z1 : v = v1 := Option.some.inj (h2.symm.trans b1)
                  subst z1
                  have har : ar i' = none ∨ ar i' = some v0 := by
                    cases q6 : ar i' with
                    | none => exact .inl rfl
                    | some w =>
                      have := R.arg i' w q6
                      rw [h1] at this
                      exact .inr (by rw [Option.some.inj (Option.some.inj this)])
                  have R2 : RepS Γ (fixAt ar i' v0) H1 σ (S.set i' none) F1 := (R1.same s).fix fun j w qj => by
                    unfold fixAt at qj
                    by_cases hj : j = i'
                    · rw [if_pos hj] at qj
                      cases qj
                      rw [hj]
                      exact h1
                    · rw [if_neg hj] at qj
                      exact R1.arg j w qj
                  have give : ∀ {σ' : St} {H' : Hp} {S' : TSt} {F' : FP}, RepS Γ (fixAt ar i' v0) H' σ' S' F' → Upd H1 H' F1 F' → RepS Γ ar H' σ' (S'.set i' (some t0)) (FU F' Gi) ∧ Upd H H' F (FU F' Gi) ∧ (∀ a, F' a → Gi a → False) ∧ ∀ a, Gi a → H' a ≠ none := fun {σ' H' S' F'} R' u' => by
                    have djF : ∀ a, F' a → Gi a → False := fun a f gi => (u'.new a f).elim (fun z => d1 a z gi) fun z => same_al s (R.al a (s2 a gi)) z
                    have rv' := (rv.same s).ke u'.toKe fun a gi f => d1 a f gi
                    have alG : ∀ a, Gi a → H' a ≠ none := fun a gi => u'.toKe.al (same_al s (R.al a (s2 a gi))) fun f => d1 a f gi
                    have hv' : σ'[i']? = some (some v0) := R'.arg i' v0 (by unfold fixAt; rw [if_pos rfl])
                    refine ⟨(R'.give hv' rv' djF alG).fix fun j w qj => R'.arg j w ?_, ?_, djF, alG⟩
                    · unfold fixAt
                      by_cases hj : j = i'
                      · rw [if_pos hj]
                        rw [hj] at qj
                        rcases har with z | z
                        · rw [z] at qj; cases qj
                        · rw [z] at qj; exact qj
                      · rw [if_neg hj]; exact qj
                    · exact Upd.trans (F1 := FU F1 Gi) ⟨Ke.of_same F s, fun a z => .inl (z.elim (s1 a) (s2 a))⟩ u'.more
                  have kk2 : FlP Γ (fixAt ar i' v0) W D H1 F1 fl1 S2 := by
                    cases fl1 with
                    | nx => exact fun σ' H' F' R' u' => kk σ' H' _ (give R' u').1 (give R' u').2.1
                    | bk => exact fun σ' H' F' R' u' => kk σ' H' _ (give R' u').1 (give R' u').2.1
                    | ct => exact fun σ' H' F' R' u' => kk σ' H' _ (give R' u').1 (give R' u').2.1
                    | ex c => exact fun σ' H' F' R' u' => kk σ' H' _ (give R' u').1 (give R' u').2.1
                    | rt t =>
                      intro v σ' H' F' G2 ow
                      have u0 : Upd H1 H' F1 F' := ow.u.sub fun a z => .inl z
                      obtain ⟨g1, g2, g3, g4⟩ := give ow.rs u0
                      refine kk v σ' H' _ G2 ⟨g1, ow.r, fun a f gg => f.elim (fun f => ow.d a f gg) fun f => (ow.u.new a (.inr gg)).elim (fun z => d1 a z f) fun z => same_al s (R.al a (s2 a f)) z, ow.al, ?_⟩
                      have u1 := ow.u.more (G := Gi)
                      exact (Upd.trans (F1 := FU F1 Gi) ⟨Ke.of_same F s, fun a z => .inl (z.elim (s1 a) (s2 a))⟩ u1).sub fun a z => z.elim (fun z => z.elim (fun z => .inl (.inl z)) .inr) fun z => .inl (.inr z)
                  obtain ⟨a, vs, e1, e2, e3⟩ := for_core (tk' v0 har) (b2.same s) hk (fun a f gg => d1 a f (b3 a gg)) im R2 q5 kk2 (hb v0 har)
                  exact ⟨a, vs, e1, e2, e3⟩
            have fin : ∀ {J : Addr → It} {Z : Hp → Addr → Prop}, (∀ v0 v H1, σ[i']? = some (some v0) → vAt H p v0 = some v → Same H H1 → ∃ a, v = .ref a ∧ Z H1 a ∧ LoopR g tb D σ (J a) H1) →
                rdP Γ ar pl σ H fun x H1 => ∃ a, x = .ref a ∧ Z H1 a ∧ LoopR g tb D σ (J a) H1 := fun h => ⟨S, F, i', p, t0, _, R, q1, q2, q3, h⟩
            cases k with
            | tup => exact .inr (fin (J := fun a => Itt Γ.K a) (Z := fun H1 a => ∃ xs, SqT Γ.K H1 a xs) fun v0 v H1 h1 h2 s => let ⟨a, vs, e1, e2, e3⟩ := main v0 v H1 h1 h2 s; ⟨a, e1, ⟨vs, e2⟩, e3⟩)
            | lst => exact .inl (fin (J := fun a => Itl Γ.K a) (Z := fun H1 a => ∃ xs, SqL Γ.K H1 a xs) fun v0 v H1 h1 h2 s => let ⟨a, vs, e1, e2, e3⟩ := main v0 v H1 h1 h2 s; ⟨a, e1, ⟨vs, e2⟩, e3⟩)
            | fz => exact .inl (fin (J := fun a => Itl Γ.K a) (Z := fun H1 a => ∃ xs, SqL Γ.K H1 a xs) fun v0 v H1 h1 h2 s => let ⟨a, vs, e1, e2, e3⟩ := main v0 v H1 h1 h2 s; ⟨a, e1, ⟨vs, e2⟩, e3⟩)
            | dK _ => cases hk
            | dT _ => cases hk
            | obj _ _ => cases hk
    · rw [if_neg hii] at ee; cases ee
/-- the body's rule for all ways in which names are held -/
def rdSX (Γ : Gx) (W : WX) (C : Fx → Prop) (s : SF) : TS := fun D σ H => ∃ ar', C ar' ∧ rdS Γ ar' W s D σ H
theorem ss_all {body : List Stmt} {C : Fx → Prop} {sb : SF} (h : ∀ ar', C ar' → PSs X body (rdS Γ ar' W sb)) : PSs X body (rdSX Γ W C sb) := ⟨fun pins s σ H D I ⟨ar', c, q⟩ => (h ar' c).run pins s σ H D I q⟩
abbrev Loc' (L : List Nat) (ar : Fx) : Prop := ∀ j ∈ L, ar j = none
theorem fix_loc {L L' : List Nat} {i : Nat} {v : V} (h : Loc' L ar) (hs : ∀ j ∈ L', j ≠ i ∧ j ∈ L) : Loc' L' (fixAt ar i v) := fun j hj => by
  unfold fixAt
  rw [if_neg (hs j hj).1]
  exact h j (hs j hj).2
theorem s_forP {L : List Nat} (i : Nat) (L' : List Nat) {tg iter : Expr} {body : List Stmt} {sb : SF} {tf : GF} {g : TG} (hp : PassesOwn (model X.prog X.w) X.A X.env X.xe) (hc : X.calm = true) (hL : Loc' L ar) (hi : PE X iter (rdP Γ ar pl)) (tk : ∀ ar', Loc' L' ar' → TgOk Γ ar' g tf) (hg : PG X tg g)
    (hb : ∀ ar', Loc' L' ar' → PSs X body (rdS Γ ar' W sb)) (hs' : ∀ j ∈ L', j ≠ i ∧ j ∈ L := by decide) (hK : X.K = Γ.K := by rfl) (hs : ∀ x, foldedSetIterable iter X.env x = pure x := by intro _; rfl) : PS X (.For tg iter body [] pos) (rdS Γ ar W (sForP i tf pl sb)) := by
  refine PS.imp (ps_for hp hc (pi_seq hi) hg (ss_all hb) hs) fun D σ H q => ?_
  rw [hK]
  have h0 : Loc' L' ar := fun j hj => hL j (hs' j hj).2
  exact forP_ok (tk ar h0) (fun v _ => tk _ (fix_loc hL hs')) (fun D σ H z => ⟨ar, h0, z⟩) (fun v _ D σ H z => ⟨_, fix_loc hL hs', z⟩) q
/-- 0, 1, .. -/
def rgT (n : Int) : List T := (List.range n.toNat).map fun (k : Nat) => T.int (k : Int)
/-- for x in range(e) -/
def sForR (tf : GF) (f : EF) (body : SF) : SF := fun S => (f S).bind fun rx => match rx with
  | (.ex c, S1) => some (.ex c, S1)
  | (.ok (.int n), S1) => if 0 ≤ n ∧ n < 100000 then runL tf body (rgT n) S1 else none
  | _ => none
theorem forR_ok {tf : GF} {g : TG} {body : SF} (tk : TgOk Γ ar g tf) {D : Ends} {σ : St} {H : Hp} (q : rdS Γ ar W (sForR tf fa body) D σ H) : tFor (iRng1 (tCons (rdE Γ ar W fa) tNil)) g (rdS Γ ar W body) D σ H := by
  obtain ⟨S, F, fl, SN, R, ee, kk⟩ := q
  unfold sForR at ee
  cases e1 : fa S with
  | none => rw [e1] at ee; cases ee
  | some o1 =>
    rw [e1] at ee
    simp only [Option.bind_some] at ee
    split at ee
    · cases ee
      exact ⟨S, F, _, _, R, e1, fun H' F' R' u => kk σ H' F' R' u⟩
    · rename_i n S1
      by_cases hn : 0 ≤ n ∧ n < 100000
      · rw [if_pos hn] at ee
        refine ⟨S, F, _, _, R, e1, fun v H1 F1 G ow => ?_⟩
        obtain ⟨R1, rv, _, _, u1⟩ := ow
        have u1 : Upd H H1 F F1 := u1.sub fun a z => .inl z
        generalize hnn : (T.int n) = tn at rv
        cases rv with
        | int i =>
          cases hnn
          refine ⟨n, rfl, by omega, by omega, ?_⟩
          refine for_range (lo := 0) (n := n.toNat) (fun i σ' H' => ∃ S' F', RepS Γ ar H' σ' S' F' ∧ Upd H1 H' F1 F' ∧ runL tf body ((rgT n).drop i) S' = some (fl, SN)) ⟨S1, F1, R1, Upd.refl H1 F1, ee⟩ ?_ ?_
          · rintro i σ' H' hi ⟨S', F', R', u', e'⟩
            have et : (rgT n)[i]? = some (.int (i : Int)) := by simp [rgT, hi]
            rw [drop_get et] at e'
            rw [Int.zero_add]
            exact loop_step tk R' (.int (F := FE) (i : Int)) e' _ (fun σ2 H2 S2 F2 R2 u2 e2 => ⟨S2, F2, R2, u'.trans u2, e2⟩) (flp_after (u1.trans u') kk) fun _ _ _ z => z
          · rintro σ' H' ⟨S', F', R', u', e'⟩
            rw [List.drop_eq_nil_of_le (by simp [rgT])] at e'
            cases e'
            exact kk σ' H' F' R' (u1.trans u')
        | nd => cases hnn
        | _ => cases hnn
      · rw [if_neg hn] at ee; cases ee
    · cases ee
theorem s_forR {tg e1 : Expr} {p1 pos1 : Pos} {body : List Stmt} {sb : SF} {tf : GF} {g : TG} (hp : PassesOwn (model X.prog X.w) X.A X.env X.xe) (hc : X.calm = true) (tk : TgOk Γ ar g tf) (hm : X.mg "range" = none) (hi : PE X e1 (rdE Γ ar W fa)) (hg : PG X tg g) (hb : PSs X body (rdS Γ ar W sb)) (hgl : Gl X "range" := by rfl)
    (hst : starEach [e1] X.env = (false, eval e1 X.env) :: starEach [] X.env := by rfl) (hs : ∀ x, foldedSetIterable (.Call (.Name "range" p1) [e1] [] pos1) X.env x = pure x := by intro _; rfl) : PS X (.For tg (.Call (.Name "range" p1) [e1] [] pos1) body [] pos) (rdS Γ ar W (sForR tf fa sb)) :=
  PS.imp (ps_for hp hc (pi_range1 hgl hm (pa_cons hi pa_nil hst) hst) hg hb hs) fun D σ H q => forR_ok tk q
end
end VT

/-! VTA: comprehensions. -/
namespace VT
open PySem L2
section
variable {Γ : Gx} {ar : Fx} {W : WX} {X : Cx} {a b e o : Expr} {pos p apos cpos : Pos} {ga gb g : BF} {fa fb : EF} {es : List Expr} {pl : PF}
abbrev W0 : WX := fun _ _ _ _ => False
def wipeS (S : TSt) : List Nat → TSt
  | [] => S
  | v :: vs => (wipeS S vs).set v none
/-- names that are held no more -/
def freeAt (ar : Fx) (vs : List Nat) : Fx := fun j => if j ∈ vs then none else ar j
theorem wipeS_length (S : TSt) : ∀ vs : List Nat, (wipeS S vs).length = S.length
  | [] => rfl
  | v :: vs => by unfold wipeS; rw [List.length_set, wipeS_length S vs]
theorem wipeS_some {S : TSt} {i : Nat} {t : T} : ∀ {vs : List Nat}, (wipeS S vs)[i]? = some (some t) → S[i]? = some (some t) ∧ i ∉ vs
  | [], h => ⟨h, by simp⟩
  | v :: vs, h => by
    unfold wipeS at h
    by_cases hi : v = i
    · subst hi
      by_cases hv : v < (wipeS S vs).length
      · rw [List.getElem?_set_self hv] at h; cases h
      · rw [List.getElem?_eq_none (by simpa using hv)] at h; cases h
    · rw [List.getElem?_set_ne hi] at h
      obtain ⟨h1, h2⟩ := wipeS_some h
      exact ⟨h1, by simp only [List.mem_cons, not_or]; exact ⟨fun e => hi e.symm, h2⟩⟩
theorem wipe_other {σ : St} {i : Nat} : ∀ {vs : List Nat}, i ∉ vs → (wipe σ vs)[i]? = σ[i]?
  | [], _ => rfl
  | v :: vs, h => by
    unfold wipe
    rw [List.getElem?_set_ne fun z => h (by rw [z]; exact List.mem_cons_self)]
    exact wipe_other fun z => h (List.mem_cons_of_mem _ z)
theorem RepS.wiped {H : Hp} {σ : St} {S : TSt} {F : FP} {ar' : Fx} (R : RepS Γ ar H σ S F) (vs : List Nat) (har : ∀ (j : Nat) (v : V), ar' j = some v → j ∉ vs ∧ ar j = some v) : RepS Γ ar' H (L2.wipe σ vs) (wipeS S vs) F := by
  obtain ⟨len, arg, ⟨Fs, h1, h2, h3⟩, al⟩ := R
  refine ⟨by rw [wipeS_length, wipe_length]; exact len, fun j v q => ?_, ⟨Fs, fun j t q => ?_, h2, h3⟩, al⟩
  · rw [wipe_other (har j v q).1]; exact arg j v (har j v q).2
  · obtain ⟨q1, q2⟩ := wipeS_some q
    obtain ⟨v, ev, r⟩ := h1 j t q1
    exact ⟨v, by rw [wipe_other q2]; exact ev, r⟩
/-- back from the block -/
theorem RepS.unwipe {H H' : Hp} {σ : St} {S SN : TSt} {F F' : FP} {ar' : Fx} {vs : List Nat} (R : RepS Γ ar H σ S F) (R' : RepS Γ ar' H' (L2.wipe σ vs) SN F') (hw : wipeS SN vs = SN) : RepS Γ ar H' σ SN F' := by
  obtain ⟨len, arg, _, _⟩ := R
  obtain ⟨len', _, ⟨Fs, h1, h2, h3⟩, al⟩ := R'
  refine ⟨by rw [len', wipe_length], arg, ⟨Fs, fun j t q => ?_, h2, h3⟩, al⟩
  obtain ⟨v, ev, r⟩ := h1 j t q
  rw [← hw] at q
  exact ⟨v, by rw [← wipe_other (wipeS_some q).2]; exact ev, r⟩
/-- what never changes is as it was -/
def restS (S S' : TSt) : List Nat → TSt
  | [] => S'
  | v :: vs => match sl S v with
    | some t => if t.im = true then (restS S S' vs).set v (some t) else restS S S' vs
    | none => restS S S' vs
theorem RepS.rest {H H' : Hp} {σ : St} {S S' : TSt} {F F' : FP} (R : RepS Γ ar H σ S F) (im : ∀ b o, Im o → H b = some o → H' b = some o) (R' : RepS Γ ar H' σ S' F') : ∀ vs : List Nat, RepS Γ ar H' σ (restS S S' vs) F'
  | [] => R'
  | v :: vs => by
    have ih := RepS.rest R im R' vs
    unfold restS
    split
    · rename_i t e
      by_cases hi : t.im = true
      · rw [if_pos hi]
        obtain ⟨w, ew, r⟩ := R.slot (sl_some.mp e)
        have r2 := (r.im hi FE).frame (H' := H') (fun _ _ z => z.elim) im
        exact (ih.give ew r2 (fun _ _ z => z) fun _ z => z.elim).mono (fun a z => z.elim id fun z => z.elim) ih.al
      · rw [if_neg hi]; exact ih
    · exact ih
theorem wipe_set {σ : St} {x : Option V} : ∀ {vs : List Nat} {j : Nat}, j ∈ vs → L2.wipe ((L2.wipe σ vs).set j x) vs = L2.wipe σ vs := fun {vs j} hj => by
  apply List.ext_getElem?
  intro i
  by_cases hi : i ∈ vs
  · have z : ∀ τ : St, τ.length = σ.length → i < σ.length → (L2.wipe τ vs)[i]? = some none := fun τ hτ hl => by
      have hlt : i < (L2.wipe τ vs).length := by rw [wipe_length, hτ]; exact hl
      cases q : (L2.wipe τ vs)[i]? with
      | none => rw [List.getElem?_eq_none_iff] at q; omega
      | some o =>
        cases o with
        | none => rfl
        | some v => exact absurd hi (wipe_some q).2
    by_cases hl : i < σ.length
    · rw [z _ (by rw [List.length_set, wipe_length]) hl, z σ rfl hl]
    · rw [List.getElem?_eq_none (by rw [wipe_length, List.length_set, wipe_length]; omega), List.getElem?_eq_none (by rw [wipe_length]; omega)]
  · rw [wipe_other hi, List.getElem?_set_ne fun z => hi (by rw [← z]; exact hj)]
theorem wipeS_idem {S : TSt} (vs : List Nat) : wipeS (wipeS S vs) vs = wipeS S vs := by
  apply List.ext_getElem?
  intro i
  by_cases hi : i ∈ vs
  · have z : ∀ τ : TSt, τ.length = S.length → i < S.length → (wipeS τ vs)[i]? = some none := fun τ hτ hl => by
      have hlt : i < (wipeS τ vs).length := by rw [wipeS_length, hτ]; exact hl
      cases q : (wipeS τ vs)[i]? with
      | none => rw [List.getElem?_eq_none_iff] at q; omega
      | some o =>
        cases o with
        | none => rfl
        | some v => exact absurd hi (wipeS_some q).2
    by_cases hl : i < S.length
    · rw [z _ (by rw [wipeS_length]) hl, z S rfl hl]
    · rw [List.getElem?_eq_none (by rw [wipeS_length, wipeS_length]; omega), List.getElem?_eq_none (by rw [wipeS_length]; omega)]
  · have wo : ∀ {τ : TSt} {us : List Nat}, i ∉ us → (wipeS τ us)[i]? = τ[i]? := fun {τ us} => by
      induction us with
      | nil => intro _; rfl
      | cons v us ih =>
        intro h
        unfold wipeS
        rw [List.getElem?_set_ne fun z => h (by rw [z]; exact List.mem_cons_self)]
        exact ih fun z => h (List.mem_cons_of_mem _ z)
    rw [wo hi]
def runC (j : Nat) (vs : List Nat) (cond elt : EF) : List T → TSt → List T → Option (List T × TSt)
  | [], S, acc => some (acc, S)
  | t :: ts, S, acc => (tgN j t S).bind fun S1 => (cond S1).bind fun rb => match rb with
    | (.ok (.bl true), S2) => (elt S2).bind fun ru => match ru with
      | (.ok u, S3) => runC j vs cond elt ts (wipeS S3 vs) (acc ++ [u])
      | _ => none
    | (.ok (.bl false), S2) => runC j vs cond elt ts (wipeS S2 vs) acc
    | _ => none
/-- the list that is made, at Dl: what is in it so far -/
structure Acc (Γ : Gx) (ar : Fx) (H0 : Hp) (F0 : FP) (σ : St) (Dl : Addr) (H : Hp) (S : TSt) (F : FP) (tacc : List T) (Ga : FP) : Prop where
  rs : RepS Γ ar H σ S F
  up : Upd H0 H F0 (FU F (FU Ga (fun a => a = Dl)))
  at_ : ∃ acc : List V, H Dl = some (.lst acc) ∧ acc.length = tacc.length ∧ ∃ Gs : Nat → FP, (∀ (i : Nat) (v : V) (t : T), acc[i]? = some v → tacc[i]? = some t → Rep Γ H v t (Gs i)) ∧ (∀ i j a, i ≠ j → Gs i a → Gs j a → False) ∧ ∀ i a, Gs i a → Ga a
  dj : ∀ a, F a → Ga a → False
  nF : ¬ F Dl
  nG : ¬ Ga Dl
  al : ∀ a, Ga a → H a ≠ none
theorem Acc.step {H0 H H' : Hp} {F0 F F' Ga : FP} {σ σ' : St} {Dl : Addr} {S S' : TSt} {tacc : List T} {ar' : Fx} (A : Acc Γ ar H0 F0 σ Dl H S F tacc Ga) (R : RepS Γ ar' H' σ' S' F') (u : Upd H H' F F') : Acc Γ ar' H0 F0 σ' Dl H' S' F' tacc Ga := by
  obtain ⟨acc, hD, hl, Gs, h1, h2, h3⟩ := A.at_
  have nw : ∀ a, F' a → F a ∨ H a = none := u.new
  refine ⟨R, A.up.trans u.more, ⟨acc, u.keep _ _ hD A.nF, hl, Gs, fun i v t q1 q2 => (h1 i v t q1 q2).ke u.toKe fun a z f => A.dj a f (h3 i a z), h2, h3⟩, fun a f z => (nw a f).elim (fun f => A.dj a f z) (A.al a z), fun f => (nw _ f).elim A.nF (fun z => by rw [hD] at z; cases z), A.nG, fun a z => u.toKe.al (A.al a z) fun f => A.dj a f z⟩
theorem Acc.add {H0 H : Hp} {F0 F Ga G : FP} {σ : St} {Dl : Addr} {S : TSt} {tacc : List T} {v : V} {t : T} (A : Acc Γ ar H0 F0 σ Dl H S F tacc Ga) (r : Rep Γ H v t G) (dF : ∀ a, F a → G a → False) (dG : ∀ a, Ga a → G a → False) (nG : ¬ G Dl) (al : ∀ a, G a → H a ≠ none) (nw : ∀ a, G a → F0 a ∨ H0 a = none) :
    ∃ acc, H Dl = some (.lst acc) ∧ acc.length = tacc.length ∧ Acc Γ ar H0 F0 σ Dl (upd H Dl (.lst (acc ++ [v]))) S F (tacc ++ [t]) (FU Ga G) := by
  obtain ⟨acc, hD, hl, Gs, h1, h2, h3⟩ := A.at_
  have ke : ∀ {E : FP}, E Dl → Ke H (upd H Dl (.lst (acc ++ [v]))) E := fun z => ke_upd hD (fun z => z) z
  have fr : ∀ {w : V} {s : T} {E : FP}, Rep Γ H w s E → ¬ E Dl → Rep Γ (upd H Dl (.lst (acc ++ [v]))) w s E := fun {w s E} r nE => r.ke (ke (E := fun a => a = Dl) rfl) fun a z q => nE (by rw [← q]; exact z)
  refine ⟨acc, hD, hl, A.rs.ke (ke (E := fun a => a = Dl) rfl) fun a f q => A.nF (by rw [← q]; exact f), ?_, ⟨acc ++ [v], upd_same, by simp [hl], fun i => if i = tacc.length then G else Gs i, fun i w s q1 q2 => ?_, fun i j a ne z z' => ?_, fun i a z => ?_⟩, fun a f z => z.elim (A.dj a f) (dF a f), A.nF, fun z => z.elim A.nG nG, fun a z => al_upd a (z.elim (A.al a) (al a))⟩
  · refine ⟨⟨fun b o q n => ?_, fun b o im q => (ke (E := fun a => a = Dl) rfl).imm b o im (A.up.imm b o im q)⟩, fun a z => ?_⟩
    · have q2 := A.up.keep b o q n
      have nb : b ≠ Dl := fun z => by
        rcases A.up.new b (.inr (.inr z)) with y | y
        · exact n y
        · rw [q] at y; cases y
      rw [upd_ne nb]; exact q2
    · rcases z with z | (z | z) | z
      · exact A.up.new a (.inl z)
      · exact A.up.new a (.inr (.inl z))
      · exact nw a z
      · exact A.up.new a (.inr (.inr z))
  · by_cases c : i < tacc.length
    · simp only [if_neg (show ¬ i = tacc.length by omega)]
      rw [List.getElem?_append_left (by omega)] at q1 q2
      exact fr (h1 i w s q1 q2) fun z => A.nG (h3 i _ z)
    · have hi : i = tacc.length := by
        have := (List.getElem?_eq_some_iff.mp q2).1
        simp at this
        omega
      subst hi
      simp only [if_true]
      simp at q2
      subst q2
      rw [← hl] at q1
      simp at q1
      subst q1
      exact fr r nG
  · by_cases c : i = tacc.length
    · simp only [if_pos c] at z
      simp only [if_neg (fun q => ne (c.trans q.symm) : ¬ j = tacc.length)] at z'
      exact dG a (h3 j a z') z
    · simp only [if_neg c] at z
      by_cases c' : j = tacc.length
      · simp only [if_pos c'] at z'
        exact dG a (h3 i a z) z'
      · simp only [if_neg c'] at z'
        exact h2 i j a ne z z'
  · by_cases c : i = tacc.length
    · simp only [if_pos c] at z; exact .inr z
    · simp only [if_neg c] at z; exact .inl (h3 i a z)
/-- one turn of a comprehension -/
theorem comp_turn {j : Nat} {vs : List Nat} {cond elt : EF} {ar' : Fx} (hj : j ∈ vs) (haj : ar' j = none) (hfr : ∀ v ∈ vs, ar' v = none) {tt : TT} {te : TE} (ht : ∀ σ H Q, rdT Γ ar' W0 cond σ H Q → tt σ H Q) (he : ∀ σ H Q, rdE Γ ar' W0 elt σ H Q → te σ H Q)
    {H0 H : Hp} {F0 F Ga G : FP} {σ : St} {Dl : Addr} {S : TSt} {tacc : List T} {x : V} {t : T} {ts : List T} {fin : List T × TSt} (A : Acc Γ ar' H0 F0 (wipe σ vs) Dl H S F tacc Ga) (hacc : tacc.length < 100000) (r : Rep Γ H x t G) (ee : runC j vs cond elt (t :: ts) S tacc = some fin)
    (P : Hp → Prop) (hP : ∀ H' S' F' tacc' Ga', Acc Γ ar' H0 F0 (wipe σ vs) Dl H' S' F' tacc' Ga' → tacc'.length ≤ tacc.length + 1 → runC j vs cond elt ts S' tacc' = some fin → P H') :
    gName j x (wipe σ vs) H fun σ2 H2 => wipe σ2 vs = wipe σ vs ∧ tt σ2 H2 fun b H3 => if b = true then te σ2 H3 fun y H4 => ∃ acc, H4 Dl = some (.lst acc) ∧ acc.length < sizeLine ∧ P (upd H4 Dl (.lst (acc ++ [y]))) else P H3 := by
  unfold runC at ee
  cases e1 : tgN j t S with
  | none => rw [e1] at ee; cases ee
  | some S1 =>
    rw [e1] at ee
    simp only [Option.bind_some] at ee
    unfold tgN at e1
    by_cases im : t.im = true
    · rw [if_pos im] at e1
      cases e1
      have R1 := A.rs.putIm haj r im
      refine ⟨wipe_set hj, ht _ _ _ ?_⟩
      have A1 := A.step R1 (Upd.refl H F)
      cases e2 : cond (S.set j (some t)) with
      | none => rw [e2] at ee; cases ee
      | some rb =>
        rw [e2] at ee
        simp only [Option.bind_some] at ee
        have back : ∀ {H' : Hp} {S' : TSt} {F' : FP} {ta : List T} {Gb : FP}, Acc Γ ar' H0 F0 ((wipe σ vs).set j (some x)) Dl H' S' F' ta Gb → Acc Γ ar' H0 F0 (wipe σ vs) Dl H' (wipeS S' vs) F' ta Gb := fun {H' S' F' ta Gb} B => by
          have R3 := B.rs.wiped (ar' := ar') vs fun i w q => ⟨fun z => (by rw [hfr i z] at q; cases q), q⟩
          rw [wipe_set hj] at R3
          exact B.step R3 (Upd.refl H' F')
        split at ee
        · rename_i S2
          cases e3 : elt S2 with
          | none => rw [e3] at ee; cases ee
          | some ru =>
            obtain ⟨r3, S3⟩ := ru
            rw [e3] at ee
            simp only [Option.bind_some] at ee
            cases r3 with
            | ex c => cases ee
            | ok u =>
              simp only at ee
              refine bool_then R1 e2 fun H3 F3 R3 u3 => iteT (he _ _ _ ⟨S2, F3, _, _, R3, e3, fun v H4 F4 G4 ow => ?_⟩)
              have A3 := A1.step R3 u3
              have A4 := A3.step ow.rs (ow.u.sub fun a z => .inl z)
              obtain ⟨acc3, hD3, _⟩ := A3.at_
              have nwG : ∀ a, G4 a → F3 a ∨ H3 a = none := fun a z => ow.u.new a (.inr z)
              obtain ⟨acc, q1, q2, A5⟩ := A4.add ow.r ow.d (fun a z z' => (nwG a z').elim (fun f => A3.dj a f z) (A3.al a z)) (fun z => (nwG _ z).elim A3.nF fun y => by rw [hD3] at y; cases y) ow.al
                (fun a z => (nwG a z).elim (fun f => A3.up.new a (.inl f)) fun y => by
                  by_cases f0 : F0 a
                  · exact .inl f0
                  · exact .inr (A3.up.toKe.free y f0))
              exact ⟨acc, q1, sz5' (by omega), hP _ _ _ _ _ (back A5) (by simp) ee⟩
        · refine bool_then R1 e2 fun H3 F3 R3 u3 => iteF ?_
          exact hP _ _ _ _ _ (back (A1.step R3 u3)) (by omega) ee
        · cases ee
    · rw [if_neg im] at e1; cases e1
/-- the whole comprehension, from the list that is walked -/
def eCond (c : Option EF) : EF := match c with
  | none => fun S => some (.ok (.bl true), S)
  | some f => f
def eLcFrom (j : Nat) (vs : List Nat) (cond elt : EF) (ts : List T) (S : TSt) : Option (Rs T × TSt) := if ts.length < 100000 then (runC j vs cond elt ts (wipeS S vs) []).bind fun r => some (.ok (.nd .lst r.1), wipeS r.2 vs) else none
def CompR (g : TG) (tt : TT) (te : TE) (vs : List Nat) (σ : St) (Q : VK) : It → Hp → Prop := fun J H1 => ∀ D, H1 D = none → ∃ Wv : Nat → Nat → Hp → Prop, (∃ m, Wv 0 m (upd H1 D (.lst []))) ∧ ∀ i m H, Wv i m H →
  (J.stop i H ∧ Q (.ref D) H) ∨ (J.go i H ∧ ∃ Nx : Hp → Prop, (∀ H', Nx H' → ∃ m', m' < m ∧ Wv (i + 1) m' H') ∧ ∀ x H', J.yld i H x H' → g x (wipe σ vs) H' fun σ2 H2 => wipe σ2 vs = wipe σ vs ∧ tt σ2 H2 fun b H3 =>
    if b = true then te σ2 H3 fun y H4 => ∃ acc, H4 D = some (.lst acc) ∧ acc.length < sizeLine ∧ Nx (upd H4 D (.lst (acc ++ [y]))) else Nx H3)
theorem Acc.done {H0 H : Hp} {F0 F Ga : FP} {σ : St} {Dl : Addr} {S : TSt} {tacc : List T} (A : Acc Γ ar H0 F0 σ Dl H S F tacc Ga) : Rep Γ H (.ref Dl) (.nd .lst tacc) (FU Ga (fun a => a = Dl)) ∧ (∀ a, F a → FU Ga (fun a => a = Dl) a → False) ∧ ∀ a, FU Ga (fun a => a = Dl) a → H a ≠ none := by
  obtain ⟨acc, hD, hl, Gs, h1, h2, h3⟩ := A.at_
  exact ⟨.nd (Fs := Gs) hD hl (fun _ => ⟨.inr rfl, fun i z => A.nG (h3 i _ z)⟩) h1 h2 fun i a z => .inl (h3 i a z), fun a f z => z.elim (A.dj a f) fun q => A.nF (by rw [← q]; exact f), fun a z => z.elim (A.al a) fun q => by rw [q, hD]; exact fun y => nomatch y⟩
theorem acc_start {H1 : Hp} {F1 : FP} {σ : St} {S : TSt} {Dl : Addr} {vs : List Nat} {ar' : Fx} (R : RepS Γ ar H1 σ S F1) (hD : H1 Dl = none) (har : ∀ (j : Nat) (v : V), ar' j = some v → j ∉ vs ∧ ar j = some v) : Acc Γ ar' H1 F1 (wipe σ vs) Dl (upd H1 Dl (.lst [])) (wipeS S vs) F1 [] FE :=
  ⟨(R.wiped vs har).same (upd_new hD), ⟨Ke.of_same _ (upd_new hD), fun a z => z.elim .inl fun z => z.elim (fun z => z.elim) fun z => .inr (by rw [z]; exact hD)⟩, ⟨[], upd_same, rfl, fun _ => FE, fun i v t q => by simp at q, fun _ _ _ _ z => z.elim, fun _ _ z => z⟩, fun _ _ z => z, fun f => R.al Dl f hD, fun z => z, fun _ z => z.elim⟩
/-- over a list or tuple that stays as it is -/
theorem comp_core {j : Nat} {vs : List Nat} {cond elt : EF} {ar' : Fx} (hj : j ∈ vs) (hfr : ∀ v ∈ vs, ar' v = none) {tt : TT} {te : TE} (ht : ∀ σ H Q, rdT Γ ar' W0 cond σ H Q → tt σ H Q) (he : ∀ σ H Q, rdE Γ ar' W0 elt σ H Q → te σ H Q)
    {H1 : Hp} {σ : St} {S1 : TSt} {F1 G : FP} {x : V} {k : Kd} {ts : List T} {rt : Rs T} {SN : TSt} {Q : VK} (r : Rep Γ H1 x (.nd k ts) G) (hk : isSq k = true) (dj : ∀ a, F1 a → G a → False) (im : T.imAll ts = true) (R : RepS Γ ar H1 σ S1 F1) (har : ∀ (j : Nat) (v : V), ar' j = some v → j ∉ vs ∧ ar j = some v)
    (ee : eLcFrom j vs cond elt ts S1 = some (rt, SN)) (kk : ∀ t, rt = .ok t → ∀ v H' F' G, RepS Γ ar' H' (wipe σ vs) SN F' → wipeS SN vs = SN → Rep Γ H' v t G → (∀ a, F' a → G a → False) → (∀ a, G a → H' a ≠ none) → Upd H1 H' F1 (FU F' G) → Q v H') :
    ∃ a ws, x = .ref a ∧ SqX Γ.K H1 k a ws ∧ CompR (gName j) tt te vs σ Q (ItX Γ.K a k) H1 := by
  unfold eLcFrom at ee
  by_cases hz : ts.length < 100000
  · rw [if_pos hz] at ee
    cases e1 : runC j vs cond elt ts (wipeS S1 vs) [] with
    | none => rw [e1] at ee; cases ee
    | some fin =>
      rw [e1] at ee
      cases ee
      obtain ⟨a, ws, rfl, hl, st⟩ := iter_ok r dj im
      refine ⟨a, ws, rfl, (st H1 F1 (Upd.refl H1 F1)).1.sqx hk, fun Dl hD => ?_⟩
      have upG : ∀ {H' : Hp} {S' : TSt} {F' Ga : FP} {tacc : List T}, Acc Γ ar' H1 F1 (wipe σ vs) Dl H' S' F' tacc Ga → Upd H1 H' F1 F' := fun A => A.up.sub fun a z => .inl z
      have h0 : ∃ S' F' tacc Ga, Acc Γ ar' H1 F1 (wipe σ vs) Dl (upd H1 Dl (.lst [])) S' F' tacc Ga ∧ tacc.length ≤ 0 ∧ runC j vs cond elt (ts.drop 0) S' tacc = some fin := ⟨_, F1, [], FE, acc_start R hD har, Nat.le_refl _, e1⟩
      have hs : ∀ (i : Nat) (y : V) (H' : Hp), ws[i]? = some y → (∃ S' F' tacc Ga, Acc Γ ar' H1 F1 (wipe σ vs) Dl H' S' F' tacc Ga ∧ tacc.length ≤ i ∧ runC j vs cond elt (ts.drop i) S' tacc = some fin) →
          gName j y (wipe σ vs) H' fun σ2 H2 => wipe σ2 vs = wipe σ vs ∧ tt σ2 H2 fun b H3 => if b = true then te σ2 H3 fun y H4 => ∃ acc, H4 Dl = some (.lst acc) ∧ acc.length < sizeLine ∧ (∃ S' F' tacc Ga, Acc Γ ar' H1 F1 (wipe σ vs) Dl (upd H4 Dl (.lst (acc ++ [y]))) S' F' tacc Ga ∧ tacc.length ≤ i + 1 ∧ runC j vs cond elt (ts.drop (i + 1)) S' tacc = some fin)
            else ∃ S' F' tacc Ga, Acc Γ ar' H1 F1 (wipe σ vs) Dl H3 S' F' tacc Ga ∧ tacc.length ≤ i + 1 ∧ runC j vs cond elt (ts.drop (i + 1)) S' tacc = some fin := by
        rintro i y H' hy ⟨S', F', tacc, Ga, A, hta, e'⟩
        have hi : i < ts.length := by rw [← hl]; exact (List.getElem?_eq_some_iff.mp hy).1
        have et : ts[i]? = some ts[i] := List.getElem?_eq_getElem hi
        rw [drop_get et] at e'
        exact comp_turn hj (hfr j hj) hfr ht he A (by omega) ((st H' F' (upG A)).2 i y _ hy et) e' (fun H' => ∃ S' F' tacc Ga, Acc Γ ar' H1 F1 (wipe σ vs) Dl H' S' F' tacc Ga ∧ tacc.length ≤ i + 1 ∧ runC j vs cond elt (ts.drop (i + 1)) S' tacc = some fin)
          fun H2 S2 F2 ta2 Ga2 A2 hl2 e2 => ⟨S2, F2, ta2, Ga2, A2, by omega, e2⟩
      have hd : ∀ H' : Hp, (∃ S' F' tacc Ga, Acc Γ ar' H1 F1 (wipe σ vs) Dl H' S' F' tacc Ga ∧ tacc.length ≤ ws.length ∧ runC j vs cond elt (ts.drop ws.length) S' tacc = some fin) → Q (.ref Dl) H' := by
        rintro H' ⟨S', F', tacc, Ga, A, _, e'⟩
        rw [hl, List.drop_length] at e'
        cases e'
        obtain ⟨d1, d2, d3⟩ := A.done
        have R3 := A.rs.wiped (ar' := ar') vs fun i w q => ⟨fun z => (by rw [hfr i z] at q; cases q), q⟩
        have ww : wipe (wipe σ vs) vs = wipe σ vs := by
          have := wipe_set (σ := σ) (x := ((wipe σ vs)[j]?).getD none) hj
          by_cases hjl : j < (wipe σ vs).length
          · have e4 : (wipe σ vs).set j (((wipe σ vs)[j]?).getD none) = wipe σ vs := by
              apply List.ext_getElem?
              intro i
              by_cases hi : j = i
              · subst hi
                rw [List.getElem?_set_self hjl, List.getElem?_eq_getElem hjl]
                rfl
              · rw [List.getElem?_set_ne hi]
            rw [e4] at this
            exact this
          · rw [List.set_eq_of_length_le (by omega)] at this
            exact this
        rw [ww] at R3
        exact kk _ rfl _ H' F' _ R3 (wipeS_idem vs) d1 d2 d3 A.up
      have sq : ∀ (i : Nat) (H' : Hp), i ≤ ws.length → (∃ S' F' tacc Ga, Acc Γ ar' H1 F1 (wipe σ vs) Dl H' S' F' tacc Ga ∧ tacc.length ≤ i ∧ runC j vs cond elt (ts.drop i) S' tacc = some fin) → SqX Γ.K H' k a ws := fun i H' _ ⟨_, F', _, _, A, _⟩ => (st H' F' (upG A)).1.sqx hk
      cases k with
      | tup => exact lc_tup (K := Γ.K) (a := a) (xs := ws) (Qd := fun H' => Q (.ref Dl) H') (fun i H' => ∃ S' F' tacc Ga, Acc Γ ar' H1 F1 (wipe σ vs) Dl H' S' F' tacc Ga ∧ tacc.length ≤ i ∧ runC j vs cond elt (ts.drop i) S' tacc = some fin) h0 sq hs hd
      | lst => exact lc_list (K := Γ.K) (a := a) (xs := ws) (Qd := fun H' => Q (.ref Dl) H') (fun i H' => ∃ S' F' tacc Ga, Acc Γ ar' H1 F1 (wipe σ vs) Dl H' S' F' tacc Ga ∧ tacc.length ≤ i ∧ runC j vs cond elt (ts.drop i) S' tacc = some fin) h0 sq hs hd
      | fz => exact lc_list (K := Γ.K) (a := a) (xs := ws) (Qd := fun H' => Q (.ref Dl) H') (fun i H' => ∃ S' F' tacc Ga, Acc Γ ar' H1 F1 (wipe σ vs) Dl H' S' F' tacc Ga ∧ tacc.length ≤ i ∧ runC j vs cond elt (ts.drop i) S' tacc = some fin) h0 sq hs hd
      | dK _ => cases hk
      | dT _ => cases hk
      | obj _ _ => cases hk
  · rw [if_neg hz] at ee; cases ee
/-! ### the rules for comprehensions -/
def lcEnd (vs : List Nat) (S : TSt) (r : Option (Rs T × TSt)) : Option (Rs T × TSt) := r.bind fun x => some (x.1, restS S x.2 vs)
def eLcE (j : Nat) (vs : List Nat) (f cond elt : EF) : EF := fun S => (f S).bind fun rx => match rx with
  | (.ex c, S1) => some (.ex c, S1)
  | (.ok t, S1) => (seqO t).bind fun kt => lcEnd vs S1 (eLcFrom j vs cond elt kt.2 S1)
theorem eLcFrom_ok {j : Nat} {vs : List Nat} {cond elt : EF} {ts : List T} {S SN : TSt} {rt : Rs T} (h : eLcFrom j vs cond elt ts S = some (rt, SN)) : ∃ t, rt = .ok t := by
  unfold eLcFrom at h
  by_cases hz : ts.length < 100000
  · rw [if_pos hz] at h
    cases e1 : runC j vs cond elt ts (wipeS S vs) [] with
    | none => rw [e1] at h; cases h
    | some fin => rw [e1] at h; cases h; exact ⟨_, rfl⟩
  · rw [if_neg hz] at h; cases h
def rdTX (Γ : Gx) (C : Fx → Prop) (f : EF) : TT := fun σ H Q => ∃ ar', C ar' ∧ rdT Γ ar' W0 f σ H Q
def rdEX (Γ : Gx) (C : Fx → Prop) (f : EF) : TE := fun σ H Q => ∃ ar', C ar' ∧ rdE Γ ar' W0 f σ H Q
theorem ee_all {C : Fx → Prop} {f : EF} (h : ∀ ar', C ar' → PE X e (rdE Γ ar' W0 f)) : PE X e (rdEX Γ C f) := ⟨fun pins s σ H Q I ⟨ar', c, q⟩ => (h ar' c).run pins s σ H Q I q⟩
theorem tt_one {C : Fx → Prop} {f : EF} {c : Expr} (h : ∀ ar', C ar' → PT X c (rdT Γ ar' W0 f)) : PTs X [c] (rdTX Γ C f) := pts_one ⟨fun pins s σ H Q I ⟨ar', c, q⟩ => (h ar' c).run pins s σ H Q I q⟩
def eYes : EF := fun S => some (.ok (.bl true), S)
theorem tt_nil {C : Fx → Prop} : PTs X [] (rdTX Γ C eYes) := ⟨fun pins s σ H Q I ⟨ar', c, q⟩ => pts_nil.run pins s σ H Q I (by
  obtain ⟨S, F, r, S', R, e, k⟩ := q
  cases e
  obtain ⟨b, eb, hb⟩ := k (.bl true) H F FE ⟨R, .bl true, fun _ _ z => z, fun _ z => z.elim, (Upd.refl H F).sub fun a z => z.elim id fun z => z.elim⟩
  cases eb
  exact hb)⟩
theorem free_ok {vs : List Nat} : (∀ v ∈ vs, freeAt ar vs v = none) ∧ ∀ (j : Nat) (v : V), freeAt ar vs j = some v → j ∉ vs ∧ ar j = some v := by
  refine ⟨fun v hv => if_pos hv, fun j v q => ?_⟩
  unfold freeAt at q
  by_cases hj : j ∈ vs
  · rw [if_pos hj] at q; cases q
  · rw [if_neg hj] at q; exact ⟨hj, q⟩
theorem lcE_ok {j : Nat} {vs : List Nat} {cond elt : EF} {C : Fx → Prop} (hj : j ∈ vs) (hC : C (freeAt ar vs)) {σ : St} {H : Hp} {Q : VK} (q : rdE Γ ar W (eLcE j vs fa cond elt) σ H Q) : tLc (iSeq Γ.K (rdE Γ ar W fa)) (gName j) (rdTX Γ C cond) (rdEX Γ C elt) vs σ H Q := by
  obtain ⟨S, F, r, S', R, ee, kk⟩ := q
  unfold eLcE at ee
  cases e1 : fa S with
  | none => rw [e1] at ee; cases ee
  | some o1 =>
    obtain ⟨r1, S1⟩ := o1
    rw [e1] at ee
    simp only [Option.bind_some] at ee
    cases r1 with
    | ex c => cases ee; exact .inl ⟨S, F, _, _, R, e1, kk⟩
    | ok t =>
      simp only at ee
      cases e2 : seqO t with
      | none => rw [e2] at ee; cases ee
      | some kt =>
        obtain ⟨k, ts⟩ := kt
        rw [e2] at ee
        simp only [Option.bind_some] at ee
        obtain ⟨rfl, hk, im⟩ := seqO_some e2
        unfold lcEnd at ee
        cases e3 : eLcFrom j vs cond elt ts S1 with
        | none => rw [e3] at ee; cases ee
        | some fin =>
          obtain ⟨rt, SN⟩ := fin
          rw [e3] at ee
          cases ee
          have main : ∀ v H' F' G, Own Γ ar H F σ S1 v (.nd k ts) H' F' G → ∃ a ws, v = .ref a ∧ SqX Γ.K H' k a ws ∧ CompR (gName j) (rdTX Γ C cond) (rdEX Γ C elt) vs σ Q (ItX Γ.K a k) H' := fun v H' F' G ow => by
            refine comp_core hj free_ok.1 (fun σ H Q z => ⟨_, hC, z⟩) (fun σ H Q z => ⟨_, hC, z⟩) ow.r hk ow.d im ow.rs free_ok.2 e3 fun t et w H2 F2 G2 R2 hw r2 d2 al2 u2 => ?_
            subst et
            exact kk w H2 F2 G2 ⟨(ow.rs.rest u2.imm (ow.rs.unwipe R2 hw) vs), r2, d2, al2, (ow.u.sub fun a z => .inl z).trans u2⟩
          cases k with
          | tup =>
            refine .inr ⟨S, F, _, _, R, e1, fun v H' F' G ow => ?_⟩
            obtain ⟨a, ws, ev, hq, lp⟩ := main v H' F' G ow
            exact ⟨a, ev, ⟨ws, hq⟩, lp⟩
          | lst =>
            refine .inl ⟨S, F, _, _, R, e1, fun v H' F' G ow => ?_⟩
            obtain ⟨a, ws, ev, hq, lp⟩ := main v H' F' G ow
            exact ⟨a, ev, ⟨ws, hq⟩, lp⟩
          | fz =>
            refine .inl ⟨S, F, _, _, R, e1, fun v H' F' G ow => ?_⟩
            obtain ⟨a, ws, ev, hq, lp⟩ := main v H' F' G ow
            exact ⟨a, ev, ⟨ws, hq⟩, lp⟩
          | dK _ => cases hk
          | dT _ => cases hk
          | obj _ _ => cases hk
/-- over what stands at a place of the name i -/
def eLcP (i j : Nat) (vs : List Nat) (pl : PF) (cond elt : EF) : EF := fun S => (pl S).bind fun ip => if ip.1 = i then (sl S i).bind fun t0 => (tAt ip.2 t0).bind fun u => (seqO u).bind fun kt => if u.im = true then lcEnd vs S (eLcFrom j vs cond elt kt.2 S)
  else (lcEnd vs (S.set i none) (eLcFrom j vs cond elt kt.2 (S.set i none))).bind fun x => some (x.1, x.2.set i (some t0)) else none
theorem lcP_ok {i j : Nat} {vs : List Nat} {cond elt : EF} {C : Fx → Prop} (hj : j ∈ vs) (hC : C (freeAt ar vs)) {σ : St} {H : Hp} {Q : VK} (q : rdE Γ ar W (eLcP i j vs pl cond elt) σ H Q) : tLc (iSeq Γ.K (rdP Γ ar pl)) (gName j) (rdTX Γ C cond) (rdEX Γ C elt) vs σ H Q := by
  obtain ⟨S, F, r, S', R, ee, kk⟩ := q
  unfold eLcP at ee
  cases q1 : pl S with
  | none => rw [q1] at ee; cases ee
  | some ip =>
    obtain ⟨i', p⟩ := ip
    rw [q1] at ee
    simp only [Option.bind_some] at ee
    by_cases hii : i' = i
    · subst hii
      rw [if_pos rfl] at ee
      cases q2 : sl S i' with
      | none => rw [q2] at ee; cases ee
      | some t0 =>
        rw [q2] at ee
        simp only [Option.bind_some] at ee
        cases q3 : tAt p t0 with
        | none => rw [q3] at ee; cases ee
        | some u =>
          rw [q3] at ee
          simp only [Option.bind_some] at ee
          cases q4 : seqO u with
          | none => rw [q4] at ee; cases ee
          | some kt =>
            obtain ⟨k, ts⟩ := kt
            rw [q4] at ee
            simp only [Option.bind_some] at ee
            obtain ⟨rfl, hk, im⟩ := seqO_some q4
            have main : ∀ v0 v H1, σ[i']? = some (some v0) → vAt H p v0 = some v → Same H H1 → ∃ a ws, v = .ref a ∧ SqX Γ.K H1 k a ws ∧ CompR (gName j) (rdTX Γ C cond) (rdEX Γ C elt) vs σ Q (ItX Γ.K a k) H1 := fun v0 v H1 h1 h2 s => by
              by_cases imu : (T.nd k ts).im = true
              · rw [if_pos imu] at ee
                unfold lcEnd at ee
                cases e3 : eLcFrom j vs cond elt ts S with
                | none => rw [e3] at ee; cases ee
                | some fin =>
                  obtain ⟨rt, SN⟩ := fin
                  rw [e3] at ee
                  cases ee
                  obtain ⟨v0', v', G0, ev, b1, b2⟩ := R.place q2 q3
                  have z0 : v0 = v0' := Option.some.inj (Option.some.inj (h1.symm.trans ev))
                  subst z0
                  have z1 : v = v' := Option.some.inj (h2.symm.trans b1)
                  subst z1
                  refine comp_core hj free_ok.1 (fun σ H Q z => ⟨_, hC, z⟩) (fun σ H Q z => ⟨_, hC, z⟩) ((b2.im imu FE).same s) hk (fun _ _ z => z) im (R.same s) free_ok.2 e3 fun t et w H2 F2 G2 R2 hw r2 d2 al2 u2 => ?_
                  subst et
                  exact kk w H2 F2 G2 ⟨((R.same s).rest u2.imm ((R.same s).unwipe R2 hw) vs), r2, d2, al2, (Upd.of_same s).trans u2⟩
              · rw [if_neg imu] at ee
                unfold lcEnd at ee
                cases e3 : eLcFrom j vs cond elt ts (S.set i' none) with
                | none => rw [e3] at ee; cases ee
                | some fin =>
                  obtain ⟨rt, SN⟩ := fin
                  rw [e3] at ee
                  cases ee
                  obtain ⟨w0, F1, Gi, ev0, rv, R1, d1, s1, s2⟩ := R.take (sl_some.mp q2)
                  have z0 : v0 = w0 := Option.some.inj (Option.some.inj (h1.symm.trans ev0))
                  subst z0
                  obtain ⟨v1, G, b1, b2, b3, _⟩ := VT.focus p rv q3
                  have z1 : v = v1 := Option.some.inj (h2.symm.trans b1)
                  subst z1
                  have Rs := R1.same s
                  refine comp_core hj free_ok.1 (fun σ H Q z => ⟨_, hC, z⟩) (fun σ H Q z => ⟨_, hC, z⟩) (b2.same s) hk (fun a f gg => d1 a f (b3 a gg)) im Rs free_ok.2 e3 fun t et w H2 F2 G2 R2 hw r2 d2 al2 u2 => ?_
                  subst et
                  have Rr := Rs.rest u2.imm (Rs.unwipe R2 hw) vs
                  have alG : ∀ a, Gi a → H1 a ≠ none := fun a gi => same_al s (R.al a (s2 a gi))
                  have djF : ∀ a, F2 a → Gi a → False := fun a f gi => (u2.new a (.inl f)).elim (fun z => d1 a z gi) (alG a gi)
                  have rv' := (rv.same s).ke u2.toKe fun a gi f => d1 a f gi
                  refine kk w H2 (FU F2 Gi) G2 ⟨Rr.give h1 rv' djF (fun a gi => u2.toKe.al (alG a gi) fun f => d1 a f gi), r2, fun a f gg => f.elim (fun f => d2 a f gg) fun f => (u2.new a (.inr gg)).elim (fun z => d1 a z f) (alG a f), al2, ?_⟩
                  exact (Upd.trans (F1 := FU F1 Gi) ⟨Ke.of_same F s, fun a z => .inl (z.elim (s1 a) (s2 a))⟩ u2.more).sub fun a z => z.elim (fun z => z.elim (fun z => .inl (.inl z)) .inr) fun z => .inl (.inr z)
            have fin : ∀ {J : Addr → It} {Z : Hp → Addr → Prop}, (∀ v0 v H1, σ[i']? = some (some v0) → vAt H p v0 = some v → Same H H1 → ∃ a, v = .ref a ∧ Z H1 a ∧ CompR (gName j) (rdTX Γ C cond) (rdEX Γ C elt) vs σ Q (J a) H1) →
                rdP Γ ar pl σ H fun x H1 => ∃ a, x = .ref a ∧ Z H1 a ∧ CompR (gName j) (rdTX Γ C cond) (rdEX Γ C elt) vs σ Q (J a) H1 := fun h => ⟨S, F, i', p, t0, _, R, q1, q2, q3, h⟩
            cases k with
            | tup => exact .inr (fin (J := fun a => Itt Γ.K a) (Z := fun H1 a => ∃ xs, SqT Γ.K H1 a xs) fun v0 v H1 h1 h2 s => let ⟨a, vs, e1, e2, e3⟩ := main v0 v H1 h1 h2 s; ⟨a, e1, ⟨vs, e2⟩, e3⟩)
            | lst => exact .inl (fin (J := fun a => Itl Γ.K a) (Z := fun H1 a => ∃ xs, SqL Γ.K H1 a xs) fun v0 v H1 h1 h2 s => let ⟨a, vs, e1, e2, e3⟩ := main v0 v H1 h1 h2 s; ⟨a, e1, ⟨vs, e2⟩, e3⟩)
            | fz => exact .inl (fin (J := fun a => Itl Γ.K a) (Z := fun H1 a => ∃ xs, SqL Γ.K H1 a xs) fun v0 v H1 h1 h2 s => let ⟨a, vs, e1, e2, e3⟩ := main v0 v H1 h1 h2 s; ⟨a, e1, ⟨vs, e2⟩, e3⟩)
            | dK _ => cases hk
            | dT _ => cases hk
            | obj _ _ => cases hk
    · rw [if_neg hii] at ee; cases ee
end
end VT

/-! VTB: the rules for comprehensions; built-ins; slices; items stored. -/
namespace VT
open PySem L2
section
variable {Γ : Gx} {ar : Fx} {W : WX} {X : Cx} {a b e o : Expr} {pos p apos cpos : Pos} {ga gb g : BF} {fa fb : EF} {es : List Expr} {pl : PF}
abbrev CT : Fx → Prop := fun _ => True
/-- over range(e) -/
def eLcR (j : Nat) (vs : List Nat) (f cond elt : EF) : EF := fun S => (f S).bind fun rx => match rx with
  | (.ex c, S1) => some (.ex c, S1)
  | (.ok (.int n), S1) => if 0 ≤ n ∧ n < 100000 then lcEnd vs S1 (eLcFrom j vs cond elt (rgT n) S1) else none
  | _ => none
theorem lcR_ok {j : Nat} {vs : List Nat} {cond elt : EF} {C : Fx → Prop} (hj : j ∈ vs) (hC : C (freeAt ar vs)) {σ : St} {H : Hp} {Q : VK} (q : rdE Γ ar W (eLcR j vs fa cond elt) σ H Q) : tLc (iRng1 (tCons (rdE Γ ar W fa) tNil)) (gName j) (rdTX Γ C cond) (rdEX Γ C elt) vs σ H Q := by
  obtain ⟨S, F, r, S', R, ee, kk⟩ := q
  unfold eLcR at ee
  cases e1 : fa S with
  | none => rw [e1] at ee; cases ee
  | some o1 =>
    rw [e1] at ee
    simp only [Option.bind_some] at ee
    split at ee
    · cases ee
      exact ⟨S, F, _, _, R, e1, kk⟩
    · rename_i n S1
      by_cases hn : 0 ≤ n ∧ n < 100000
      · rw [if_pos hn] at ee
        unfold lcEnd at ee
        cases e3 : eLcFrom j vs cond elt (rgT n) S1 with
        | none => rw [e3] at ee; cases ee
        | some fin0 =>
          obtain ⟨rt, SN⟩ := fin0
          rw [e3] at ee
          cases ee
          refine ⟨S, F, _, _, R, e1, fun v H1 F1 G ow => ?_⟩
          have u1 : Upd H H1 F F1 := ow.u.sub fun a z => .inl z
          have R1 := ow.rs
          have rv := ow.r
          generalize hnn : (T.int n) = tn at rv
          cases rv with
          | int i =>
            cases hnn
            refine ⟨n, rfl, by omega, by omega, fun Dl hD => ?_⟩
            unfold eLcFrom at e3
            by_cases hz : (rgT n).length < 100000
            · rw [if_pos hz] at e3
              cases e4 : runC j vs cond elt (rgT n) (wipeS S1 vs) [] with
              | none => rw [e4] at e3; cases e3
              | some fin =>
                rw [e4] at e3
                cases e3
                have hl : (rgT n).length = n.toNat := by simp [rgT]
                refine lc_range (lo := 0) (n := n.toNat) (Qd := fun H' => Q (.ref Dl) H') (fun i H' => ∃ S' F' tacc Ga, Acc Γ (freeAt ar vs) H1 F1 (wipe σ vs) Dl H' S' F' tacc Ga ∧ tacc.length ≤ i ∧ runC j vs cond elt ((rgT n).drop i) S' tacc = some fin) ⟨_, F1, [], FE, acc_start R1 hD free_ok.2, Nat.le_refl _, e4⟩ ?_ ?_
                · rintro i H' hi ⟨S', F', tacc, Ga, A, hta, e'⟩
                  have et : (rgT n)[i]? = some (.int (i : Int)) := by simp [rgT, hi]
                  rw [drop_get et] at e'
                  rw [Int.zero_add]
                  exact comp_turn hj (free_ok.1 j hj) free_ok.1 (fun σ H Q z => ⟨_, hC, z⟩) (fun σ H Q z => ⟨_, hC, z⟩) A (by omega) (.int (F := FE) (i : Int)) e' (fun H' => ∃ S' F' tacc Ga, Acc Γ (freeAt ar vs) H1 F1 (wipe σ vs) Dl H' S' F' tacc Ga ∧ tacc.length ≤ i + 1 ∧ runC j vs cond elt ((rgT n).drop (i + 1)) S' tacc = some fin)
                    fun H2 S2 F2 ta2 Ga2 A2 hl2 e2 => ⟨S2, F2, ta2, Ga2, A2, by omega, e2⟩
                · rintro H' ⟨S', F', tacc, Ga, A, _, e'⟩
                  rw [List.drop_eq_nil_of_le (by omega)] at e'
                  cases e'
                  obtain ⟨d1, d2, d3⟩ := A.done
                  have R3 := A.rs.wiped (ar' := freeAt ar vs) vs fun i w q => ⟨(free_ok.2 i w q).1, q⟩
                  have ww : wipe (wipe σ vs) vs = wipe σ vs := by
                    have hw := wipe_set (σ := wipe σ vs) (x := none) hj
                    apply List.ext_getElem?
                    intro i
                    by_cases hi : i ∈ vs
                    · by_cases hlt : i < σ.length
                      · have z : ∀ τ : St, τ.length = σ.length → (wipe τ vs)[i]? = some none := fun τ hτ => by
                          cases q : (wipe τ vs)[i]? with
                          | none => rw [List.getElem?_eq_none_iff, wipe_length] at q; omega
                          | some o =>
                            cases o with
                            | none => rfl
                            | some v => exact absurd hi (wipe_some q).2
                        rw [z _ (wipe_length σ vs), z σ rfl]
                      · rw [List.getElem?_eq_none (by rw [wipe_length, wipe_length]; omega), List.getElem?_eq_none (by rw [wipe_length]; omega)]
                    · rw [wipe_other hi]
                  rw [ww] at R3
                  exact kk _ H' F' _ ⟨(R1.rest A.up.imm (R1.unwipe R3 (wipeS_idem vs)) vs), d1, d2, d3, u1.trans A.up⟩
            · rw [if_neg hz] at e3; cases e3
          | nd => cases hnn
          | _ => cases hnn
      · rw [if_neg hn] at ee; cases ee
    · cases ee
section
variable {elt tg iter : Expr} {ifs : List Expr} {scope : Scope} {own : List (Str × Nat)} {cond el : EF} {j : Nat}
theorem e_lcE (hc : X.calm = true) (hN : X.N.Nodup) (hi : PE X iter (rdE Γ ar W fa)) (ok : BlkOk X.N X.env.scope scope own) (hg : ∀ (s : Shared) (H : Hp) (C : Addr) (cl : List (Str × Addr)) (fp : List Addr), PG (X.blk s H scope (compEnvC scope cl C X.env) fp) tg (gName j))
    (ht : ∀ (s : Shared) (H : Hp) (C : Addr) (cl : List (Str × Addr)) (fp : List Addr), PTs (X.blk s H scope (compEnvC scope cl C X.env) fp) ifs (rdTX Γ CT cond)) (he : ∀ (s : Shared) (H : Hp) (C : Addr) (cl : List (Str × Addr)) (fp : List Addr), PE (X.blk s H scope (compEnvC scope cl C X.env) fp) elt (rdEX Γ CT el))
    (hj : j ∈ own.map (·.2) := by decide) (hK : X.K = Γ.K := by rfl) (hs : ∀ x, foldedSetIterable iter X.env x = pure x := by intro _; rfl) : PE X (.ListComp elt [⟨tg, iter, ifs, 0⟩] scope pos) (rdE Γ ar W (eLcE j (own.map (·.2)) fa cond el)) := by
  refine PE.imp (pe_lc hc hN (pi_seq hi) ok hg ht he hs) fun σ H Q q => ?_
  rw [hK]
  exact lcE_ok hj trivial q
theorem e_lcP (i : Nat) (hc : X.calm = true) (hN : X.N.Nodup) (hi : PE X iter (rdP Γ ar pl)) (ok : BlkOk X.N X.env.scope scope own) (hg : ∀ (s : Shared) (H : Hp) (C : Addr) (cl : List (Str × Addr)) (fp : List Addr), PG (X.blk s H scope (compEnvC scope cl C X.env) fp) tg (gName j))
    (ht : ∀ (s : Shared) (H : Hp) (C : Addr) (cl : List (Str × Addr)) (fp : List Addr), PTs (X.blk s H scope (compEnvC scope cl C X.env) fp) ifs (rdTX Γ CT cond)) (he : ∀ (s : Shared) (H : Hp) (C : Addr) (cl : List (Str × Addr)) (fp : List Addr), PE (X.blk s H scope (compEnvC scope cl C X.env) fp) elt (rdEX Γ CT el))
    (hj : j ∈ own.map (·.2) := by decide) (hK : X.K = Γ.K := by rfl) (hs : ∀ x, foldedSetIterable iter X.env x = pure x := by intro _; rfl) : PE X (.ListComp elt [⟨tg, iter, ifs, 0⟩] scope pos) (rdE Γ ar W (eLcP i j (own.map (·.2)) pl cond el)) := by
  refine PE.imp (pe_lc hc hN (pi_seq hi) ok hg ht he hs) fun σ H Q q => ?_
  rw [hK]
  exact lcP_ok hj trivial q
theorem e_lcR {e1 : Expr} {p1 pos1 : Pos} (hc : X.calm = true) (hN : X.N.Nodup) (hm : X.mg "range" = none) (hi : PE X e1 (rdE Γ ar W fa)) (ok : BlkOk X.N X.env.scope scope own) (hg : ∀ (s : Shared) (H : Hp) (C : Addr) (cl : List (Str × Addr)) (fp : List Addr), PG (X.blk s H scope (compEnvC scope cl C X.env) fp) tg (gName j))
    (ht : ∀ (s : Shared) (H : Hp) (C : Addr) (cl : List (Str × Addr)) (fp : List Addr), PTs (X.blk s H scope (compEnvC scope cl C X.env) fp) ifs (rdTX Γ CT cond)) (he : ∀ (s : Shared) (H : Hp) (C : Addr) (cl : List (Str × Addr)) (fp : List Addr), PE (X.blk s H scope (compEnvC scope cl C X.env) fp) elt (rdEX Γ CT el))
    (hj : j ∈ own.map (·.2) := by decide) (hgl : Gl X "range" := by rfl) (hst : starEach [e1] X.env = (false, eval e1 X.env) :: starEach [] X.env := by rfl) (hs : ∀ x, foldedSetIterable (.Call (.Name "range" p1) [e1] [] pos1) X.env x = pure x := by intro _; rfl) :
    PE X (.ListComp elt [⟨tg, .Call (.Name "range" p1) [e1] [] pos1, ifs, 0⟩] scope pos) (rdE Γ ar W (eLcR j (own.map (·.2)) fa cond el)) :=
  PE.imp (pe_lc hc hN (pi_range1 hgl hm (pa_cons hi pa_nil hst) hst) ok hg ht he hs) fun σ H Q q => lcR_ok hj trivial q
/-- y = [..] -/
theorem s_lcE (i : Nat) {y : Str} {py spos : Pos} (hi' : ar i = none) (hc : X.calm = true) (hN : X.N.Nodup) (hsw : swapsWith (.ListComp elt [⟨tg, iter, ifs, 0⟩] scope pos) (some (.Name y py)) spos.line X.env = pure true) (hi : PE X iter (rdE Γ ar W fa)) (ok : BlkOk X.N X.env.scope scope own) (hg : ∀ (s : Shared) (H : Hp) (C : Addr) (cl : List (Str × Addr)) (fp : List Addr), PG (X.blk s H scope (compEnvC scope cl C X.env) fp) tg (gName j))
    (ht : ∀ (s : Shared) (H : Hp) (C : Addr) (cl : List (Str × Addr)) (fp : List Addr), PTs (X.blk s H scope (compEnvC scope cl C X.env) fp) ifs (rdTX Γ CT cond)) (he : ∀ (s : Shared) (H : Hp) (C : Addr) (cl : List (Str × Addr)) (fp : List Addr), PE (X.blk s H scope (compEnvC scope cl C X.env) fp) elt (rdEX Γ CT el))
    (hy : X.N[i]? = some y := by rfl) (hyl : X.env.scope.names.lookup y = some .local := by rfl) (hj : j ∈ own.map (·.2) := by decide) (hK : X.K = Γ.K := by rfl) (hs : ∀ x, foldedSetIterable iter X.env x = pure x := by intro _; rfl) :
    PS X (.Assign [.Name y py] (.ListComp elt [⟨tg, iter, ifs, 0⟩] scope pos) spos) (rdS Γ ar W (sSet i (eLcE j (own.map (·.2)) fa cond el))) := by
  refine PS.imp (ps_setLc hc hN hy hyl hsw (pi_seq hi) ok hg ht he hs) fun D σ H q => ?_
  rw [hK]
  exact lcE_ok hj trivial (set_ok hi' q)
theorem s_lcP (i k : Nat) {y : Str} {py spos : Pos} (hi' : ar i = none) (hc : X.calm = true) (hN : X.N.Nodup) (hsw : swapsWith (.ListComp elt [⟨tg, iter, ifs, 0⟩] scope pos) (some (.Name y py)) spos.line X.env = pure true) (hi : PE X iter (rdP Γ ar pl)) (ok : BlkOk X.N X.env.scope scope own) (hg : ∀ (s : Shared) (H : Hp) (C : Addr) (cl : List (Str × Addr)) (fp : List Addr), PG (X.blk s H scope (compEnvC scope cl C X.env) fp) tg (gName j))
    (ht : ∀ (s : Shared) (H : Hp) (C : Addr) (cl : List (Str × Addr)) (fp : List Addr), PTs (X.blk s H scope (compEnvC scope cl C X.env) fp) ifs (rdTX Γ CT cond)) (he : ∀ (s : Shared) (H : Hp) (C : Addr) (cl : List (Str × Addr)) (fp : List Addr), PE (X.blk s H scope (compEnvC scope cl C X.env) fp) elt (rdEX Γ CT el))
    (hy : X.N[i]? = some y := by rfl) (hyl : X.env.scope.names.lookup y = some .local := by rfl) (hj : j ∈ own.map (·.2) := by decide) (hK : X.K = Γ.K := by rfl) (hs : ∀ x, foldedSetIterable iter X.env x = pure x := by intro _; rfl) :
    PS X (.Assign [.Name y py] (.ListComp elt [⟨tg, iter, ifs, 0⟩] scope pos) spos) (rdS Γ ar W (sSet i (eLcP k j (own.map (·.2)) pl cond el))) := by
  refine PS.imp (ps_setLc hc hN hy hyl hsw (pi_seq hi) ok hg ht he hs) fun D σ H q => ?_
  rw [hK]
  exact lcP_ok hj trivial (set_ok hi' q)
theorem s_lcR (i : Nat) {y : Str} {e1 : Expr} {p1 pos1 py spos : Pos} (hi' : ar i = none) (hc : X.calm = true) (hN : X.N.Nodup) (hm : X.mg "range" = none) (hsw : swapsWith (.ListComp elt [⟨tg, .Call (.Name "range" p1) [e1] [] pos1, ifs, 0⟩] scope pos) (some (.Name y py)) spos.line X.env = pure true) (hi : PE X e1 (rdE Γ ar W fa)) (ok : BlkOk X.N X.env.scope scope own) (hg : ∀ (s : Shared) (H : Hp) (C : Addr) (cl : List (Str × Addr)) (fp : List Addr), PG (X.blk s H scope (compEnvC scope cl C X.env) fp) tg (gName j))
    (ht : ∀ (s : Shared) (H : Hp) (C : Addr) (cl : List (Str × Addr)) (fp : List Addr), PTs (X.blk s H scope (compEnvC scope cl C X.env) fp) ifs (rdTX Γ CT cond)) (he : ∀ (s : Shared) (H : Hp) (C : Addr) (cl : List (Str × Addr)) (fp : List Addr), PE (X.blk s H scope (compEnvC scope cl C X.env) fp) elt (rdEX Γ CT el))
    (hy : X.N[i]? = some y := by rfl) (hyl : X.env.scope.names.lookup y = some .local := by rfl) (hj : j ∈ own.map (·.2) := by decide) (hgl : Gl X "range" := by rfl) (hst : starEach [e1] X.env = (false, eval e1 X.env) :: starEach [] X.env := by rfl) (hs : ∀ x, foldedSetIterable (.Call (.Name "range" p1) [e1] [] pos1) X.env x = pure x := by intro _; rfl) :
    PS X (.Assign [.Name y py] (.ListComp elt [⟨tg, .Call (.Name "range" p1) [e1] [] pos1, ifs, 0⟩] scope pos) spos) (rdS Γ ar W (sSet i (eLcR j (own.map (·.2)) fa cond el))) :=
  PS.imp (ps_setLc hc hN hy hyl hsw (pi_range1 hgl hm (pa_cons hi pa_nil hst) hst) ok hg ht he hs) fun D σ H q => lcR_ok hj trivial (set_ok hi' q)
end

/-! ### built-ins of one value -/
section
variable {r : List V → Hp → VK → Prop} {f : T → Option T} {x : Str} {id tn : String}
theorem nCallB (hf : UnT Γ (fun x => r [x]) f) (hc : CallR X (.builtin id) r) (hm : X.mg x = none) (hv : bootBuiltins x = some (.builtin id)) (ha : PE X e (rdB Γ ar ga)) (hg : Gl X x := by rfl) (hn : x ≠ "__name__" := by decide) (hdb : (x == ("__debug__" : Str)) = false := by decide) (he : starEach [e] X.env = (false, eval e X.env) :: starEach [] X.env := by rfl)
    (hpl : (backTo pos (starEach [] X.env)).any (·.1) = false := by rfl) : PE X (.Call (.Name x p) [e] [] pos) (rdN Γ ar (bUn f ga)) := PE.imp (pe_callB hc hg hm hv (pa_cons ha pa_nil he) hn hdb he hpl) fun σ H Q q => tUn_b hf σ H Q q
theorem eCallB (hf : UnT Γ (fun x => r [x]) f) (hc : CallR X (.builtin id) r) (hm : X.mg x = none) (hv : bootBuiltins x = some (.builtin id)) (ha : PE X e (rdE Γ ar W fa)) (hg : Gl X x := by rfl) (hn : x ≠ "__name__" := by decide) (hdb : (x == ("__debug__" : Str)) = false := by decide) (he : starEach [e] X.env = (false, eval e X.env) :: starEach [] X.env := by rfl)
    (hpl : (backTo pos (starEach [] X.env)).any (·.1) = false := by rfl) : PE X (.Call (.Name x p) [e] [] pos) (rdE Γ ar W (eUn f fa)) := PE.imp (pe_callB hc hg hm hv (pa_cons ha pa_nil he) hn hdb he hpl) fun σ H Q q => tUn_e hf σ H Q q
theorem nCallT (hf : UnT Γ (fun x => r [x]) f) (hc : CallR X (.type tn) r) (hm : X.mg x = none) (hv : bootBuiltins x = some (.type tn)) (ha : PE X e (rdB Γ ar ga)) (hg : Gl X x := by rfl) (hn : x ≠ "__name__" := by decide) (hdb : (x == ("__debug__" : Str)) = false := by decide) (he : starEach [e] X.env = (false, eval e X.env) :: starEach [] X.env := by rfl)
    (hpl : (backTo pos (starEach [] X.env)).any (·.1) = false := by rfl) : PE X (.Call (.Name x p) [e] [] pos) (rdN Γ ar (bUn f ga)) := PE.imp (pe_callTy hc hg hm hv (pa_cons ha pa_nil he) hn hdb he hpl) fun σ H Q q => tUn_b hf σ H Q q
theorem eCallT (hf : UnT Γ (fun x => r [x]) f) (hc : CallR X (.type tn) r) (hm : X.mg x = none) (hv : bootBuiltins x = some (.type tn)) (ha : PE X e (rdE Γ ar W fa)) (hg : Gl X x := by rfl) (hn : x ≠ "__name__" := by decide) (hdb : (x == ("__debug__" : Str)) = false := by decide) (he : starEach [e] X.env = (false, eval e X.env) :: starEach [] X.env := by rfl)
    (hpl : (backTo pos (starEach [] X.env)).any (·.1) = false := by rfl) : PE X (.Call (.Name x p) [e] [] pos) (rdE Γ ar W (eUn f fa)) := PE.imp (pe_callTy hc hg hm hv (pa_cons ha pa_nil he) hn hdb he hpl) fun σ H Q q => tUn_e hf σ H Q q
end
def lenT : T → Option T
  | .nd k ts => if isSq k = true then some (.int (ts.length : Int)) else none
  | .str z => if z.length ≤ 100000 then some (.int (z.length : Int)) else none
  | _ => none
theorem Rep.sq {H : Hp} {x : V} {k : Kd} {ts : List T} {G : FP} (h : Rep Γ H x (.nd k ts) G) (hk : isSq k = true) :
    ∃ a vs, x = .ref a ∧ (SqL Γ.K H a vs ∨ SqT Γ.K H a vs) ∧ vs.length = ts.length ∧ ∀ (i : Nat) (v : V) (t : T), vs[i]? = some v → ts[i]? = some t → Rep Γ H v t G := by
  cases k with
  | lst => obtain ⟨a, vs, e, q, hl, hc⟩ := h.list (.inl rfl); exact ⟨a, vs, e, .inl q, hl, hc⟩
  | fz => obtain ⟨a, vs, e, q, hl, hc⟩ := h.list (.inr rfl); exact ⟨a, vs, e, .inl q, hl, hc⟩
  | tup => obtain ⟨a, vs, e, q, hl, hc⟩ := h.tupl; exact ⟨a, vs, e, .inr q, hl, hc⟩
  | dK _ => cases hk
  | dT _ => cases hk
  | obj _ _ => cases hk
def rLenT (K : PySem.W.Frag) : List V → Hp → VK → Prop := fun xs H Q => (∃ p ys, xs = [.ref p] ∧ (SqL K H p ys ∨ SqT K H p ys) ∧ Q (.int ys.length) H) ∨ ∃ x n, xs = [x] ∧ LenV K x H n ∧ Q (.int n) H
theorem call_lenT : CallR X (.builtin "len") (rLenT X.K) := or_CallR call_len_seq call_len
theorem lenT_ok : UnT Γ (fun x => rLenT Γ.K [x]) lenT := by
  intro H x t1 t G1 Q r1 e k
  unfold lenT at e
  split at e
  · rename_i kd ts
    by_cases hk : isSq kd = true
    · rw [if_pos hk] at e
      cases e
      obtain ⟨a, vs, rfl, q, hl, _⟩ := r1.sq hk
      exact .inl ⟨a, vs, rfl, q, by rw [hl]; exact k _ H FE (Same.refl H) (.int _) new_FE⟩
    · rw [if_neg hk] at e; cases e
  · rename_i z
    by_cases hz : z.length ≤ 100000
    · rw [if_pos hz] at e
      cases e
      cases r1
      exact .inr ⟨_, z.length, rfl, ⟨sz5 hz, rfl⟩, k _ H FE (Same.refl H) (.int _) new_FE⟩
    · rw [if_neg hz] at e; cases e
  · cases e
theorem n_len (hm : X.mg "len" = none) (ha : PE X e (rdB Γ ar ga)) (hK : X.K = Γ.K := by rfl) (hg : Gl X "len" := by rfl) (he : starEach [e] X.env = (false, eval e X.env) :: starEach [] X.env := by rfl) : PE X (.Call (.Name "len" p) [e] [] pos) (rdN Γ ar (bUn lenT ga)) := nCallB lenT_ok (hK ▸ call_lenT) hm PySem.boot_len ha hg (he := he)
theorem e_len (hm : X.mg "len" = none) (ha : PE X e (rdE Γ ar W fa)) (hK : X.K = Γ.K := by rfl) (hg : Gl X "len" := by rfl) (he : starEach [e] X.env = (false, eval e X.env) :: starEach [] X.env := by rfl) : PE X (.Call (.Name "len" p) [e] [] pos) (rdE Γ ar W (eUn lenT fa)) := eCallB lenT_ok (hK ▸ call_lenT) hm PySem.boot_len ha hg (he := he)
/-- list(x), tuple(x) -/
def listT : T → Option T
  | .nd k ts => if isSq k = true ∧ T.imAll ts = true then some (.nd .lst ts) else none
  | _ => none
def tupleT : T → Option T
  | .nd k ts => if isSq k = true ∧ T.imAll ts = true then some (.nd .tup ts) else none
  | _ => none
theorem listT_ok : UnT Γ (fun x => (fun xs H Q => ∃ p ys, xs = [V.ref p] ∧ (SqL Γ.K H p ys ∨ SqT Γ.K H p ys) ∧ ∀ l, H l = none → Q (.ref l) (upd H l (.lst ys))) [x]) listT := by
  intro H x t1 t G1 Q r1 e k
  unfold listT at e
  split at e
  · rename_i kd ts
    by_cases hk : isSq kd = true ∧ T.imAll ts = true
    · rw [if_pos hk] at e
      cases e
      obtain ⟨a, vs, rfl, q, hl, hc⟩ := r1.sq hk.1
      refine ⟨a, vs, rfl, q, fun l hl0 => ?_⟩
      obtain ⟨s, r, n⟩ := new_lst (Γ := Γ) hl0 hl hc hk.2
      exact k _ _ _ s r n
    · rw [if_neg hk] at e; cases e
  · cases e
theorem tupleT_ok : UnT Γ (fun x => (fun xs H Q => ∃ p ys, xs = [V.ref p] ∧ ((SqL Γ.K H p ys ∧ ∀ l, H l = none → Q (.ref l) (upd H l (.tup ys))) ∨ (SqT Γ.K H p ys ∧ Q (.ref p) H))) [x]) tupleT := by
  intro H x t1 t G1 Q r1 e k
  unfold tupleT at e
  split at e
  · rename_i kd ts
    by_cases hk : isSq kd = true ∧ T.imAll ts = true
    · rw [if_pos hk] at e
      cases e
      have mk : ∀ {G : FP} {vs : List V}, vs.length = ts.length → (∀ (i : Nat) (v : V) (t : T), vs[i]? = some v → ts[i]? = some t → Rep Γ H v t G) → ∀ l, H l = none → Q (.ref l) (upd H l (.tup vs)) := fun hl hc l hl0 => by
        obtain ⟨s, r, n⟩ := new_tup (Γ := Γ) hl0 hl hc hk.2
        exact k _ _ _ s r n
      cases kd with
      | tup =>
        obtain ⟨a, vs, rfl, q, hl, hc⟩ := r1.tupl
        exact ⟨a, vs, rfl, .inr ⟨q, k _ H FE (Same.refl H) (r1.im (by simp [T.im, hk.2]) FE) new_FE⟩⟩
      | lst =>
        obtain ⟨a, vs, rfl, q, hl, hc⟩ := r1.list (.inl rfl)
        exact ⟨a, vs, rfl, .inl ⟨q, mk hl hc⟩⟩
      | fz =>
        obtain ⟨a, vs, rfl, q, hl, hc⟩ := r1.list (.inr rfl)
        exact ⟨a, vs, rfl, .inl ⟨q, mk hl hc⟩⟩
      | dK _ => cases hk.1
      | dT _ => cases hk.1
      | obj _ _ => cases hk.1
    · rw [if_neg hk] at e; cases e
  · cases e
end
end VT

/-! VTC: more built-ins, slices, items stored. -/
namespace VT
open PySem L2
section
variable {Γ : Gx} {ar : Fx} {W : WX} {X : Cx} {a b e o : Expr} {pos p apos cpos : Pos} {ga gb g : BF} {fa fb : EF} {es : List Expr} {pl : PF}
theorem n_list (hm : X.mg "list" = none) (ha : PE X e (rdB Γ ar ga)) (hK : X.K = Γ.K := by rfl) (hg : Gl X "list" := by rfl) (he : starEach [e] X.env = (false, eval e X.env) :: starEach [] X.env := by rfl) : PE X (.Call (.Name "list" p) [e] [] pos) (rdN Γ ar (bUn listT ga)) := nCallT listT_ok (hK ▸ call_list_of) hm PyProof.Rows.boot_list ha hg (he := he)
theorem e_list (hm : X.mg "list" = none) (ha : PE X e (rdE Γ ar W fa)) (hK : X.K = Γ.K := by rfl) (hg : Gl X "list" := by rfl) (he : starEach [e] X.env = (false, eval e X.env) :: starEach [] X.env := by rfl) : PE X (.Call (.Name "list" p) [e] [] pos) (rdE Γ ar W (eUn listT fa)) := eCallT listT_ok (hK ▸ call_list_of) hm PyProof.Rows.boot_list ha hg (he := he)
theorem n_tuple (hm : X.mg "tuple" = none) (ha : PE X e (rdB Γ ar ga)) (hK : X.K = Γ.K := by rfl) (hg : Gl X "tuple" := by rfl) (he : starEach [e] X.env = (false, eval e X.env) :: starEach [] X.env := by rfl) : PE X (.Call (.Name "tuple" p) [e] [] pos) (rdN Γ ar (bUn tupleT ga)) := nCallT tupleT_ok (hK ▸ call_tuple_of) hm PyProof.Rows.boot_tuple ha hg (he := he)
theorem e_tuple (hm : X.mg "tuple" = none) (ha : PE X e (rdE Γ ar W fa)) (hK : X.K = Γ.K := by rfl) (hg : Gl X "tuple" := by rfl) (he : starEach [e] X.env = (false, eval e X.env) :: starEach [] X.env := by rfl) : PE X (.Call (.Name "tuple" p) [e] [] pos) (rdE Γ ar W (eUn tupleT fa)) := eCallT tupleT_ok (hK ▸ call_tuple_of) hm PyProof.Rows.boot_tuple ha hg (he := he)
def intT : T → Option T
  | .int i => some (.int i)
  | .bl b => some (.int (if b then 1 else 0))
  | _ => none
theorem intT_ok : UnT Γ (fun x => (fun xs H Q => (∃ i, xs = [V.int i] ∧ Q (.int i) H) ∨ ∃ k, xs = [V.bl k] ∧ Q (.int (if k then 1 else 0)) H) [x]) intT := by
  intro H x t1 t G1 Q r1 e k
  unfold intT at e
  split at e
  · cases e; cases r1; exact .inl ⟨_, rfl, k _ H FE (Same.refl H) (.int _) new_FE⟩
  · cases e; cases r1; exact .inr ⟨_, rfl, k _ H FE (Same.refl H) (.int _) new_FE⟩
  · cases e
theorem n_intc (hm : X.mg "int" = none) (ha : PE X e (rdB Γ ar ga)) (hg : Gl X "int" := by rfl) (he : starEach [e] X.env = (false, eval e X.env) :: starEach [] X.env := by rfl) : PE X (.Call (.Name "int" p) [e] [] pos) (rdN Γ ar (bUn intT ga)) := nCallT intT_ok call_int1 hm PyProof.Rows.boot_int ha hg (he := he)
theorem e_intc (hm : X.mg "int" = none) (ha : PE X e (rdE Γ ar W fa)) (hg : Gl X "int" := by rfl) (he : starEach [e] X.env = (false, eval e X.env) :: starEach [] X.env := by rfl) : PE X (.Call (.Name "int" p) [e] [] pos) (rdE Γ ar W (eUn intT fa)) := eCallT intT_ok call_int1 hm PyProof.Rows.boot_int ha hg (he := he)
def minT : T → T → Option T
  | .int i, .int j => some (.int (if j < i then j else i))
  | _, _ => none
theorem minT_ok : OpT Γ (fun x y H Q => (fun xs H Q => ∃ i j, xs = [V.int i, V.int j] ∧ Q (.int (if j < i then j else i)) H) [x, y] H Q) minT := opT_int (C := fun _ _ => True) (gt := fun i j => .int (if j < i then j else i)) (fun i j H Q _ q => ⟨i, j, rfl, q⟩) (fun i j H => .int _) fun t1 t2 t e => by
  unfold minT at e
  split at e
  · cases e; exact ⟨_, _, rfl, rfl, trivial, rfl⟩
  · cases e
theorem n_min (hc : X.calm = true) (hm : X.mg "min" = none) (ha : PE X a (rdB Γ ar ga)) (hb : PE X b (rdB Γ ar gb)) (hg : Gl X "min" := by rfl) (he : starEach [a, b] X.env = (false, eval a X.env) :: starEach [b] X.env := by rfl) (he2 : starEach [b] X.env = (false, eval b X.env) :: starEach [] X.env := by rfl) (hpl : (backTo pos (starEach [b] X.env)).any (·.1) = false := by rfl) : PE X (.Call (.Name "min" p) [a, b] [] pos) (rdN Γ ar (bOp minT ga gb)) :=
  PE.imp (pe_callB (call_min2 hc) hg hm PyProof.Rows.boot_min (pa_cons ha (pa_cons hb pa_nil he2) he) (by decide) (by decide) he hpl) fun σ H Q q => tOp_b minT_ok σ H Q q
theorem e_min (hc : X.calm = true) (hm : X.mg "min" = none) (ha : PE X a (rdE Γ ar W fa)) (hb : PE X b (rdE Γ ar W fb)) (hg : Gl X "min" := by rfl) (he : starEach [a, b] X.env = (false, eval a X.env) :: starEach [b] X.env := by rfl) (he2 : starEach [b] X.env = (false, eval b X.env) :: starEach [] X.env := by rfl) (hpl : (backTo pos (starEach [b] X.env)).any (·.1) = false := by rfl) : PE X (.Call (.Name "min" p) [a, b] [] pos) (rdE Γ ar W (eOp minT fa fb)) :=
  PE.imp (pe_callB (call_min2 hc) hg hm PyProof.Rows.boot_min (pa_cons ha (pa_cons hb pa_nil he2) he) (by decide) (by decide) he hpl) fun σ H Q q => tOp_e minT_ok σ H Q q

/-! ### isinstance -/
def tyN : T → Option String
  | .non => some "NoneType"
  | .bl _ => some "bool"
  | .int _ => some "int"
  | .str _ => some "str"
  | .nd .lst _ => some "list"
  | .nd .fz _ => some "list"
  | .nd .tup _ => some "tuple"
  | .nd (.dK _) _ => some "dict"
  | .nd (.dT _) _ => some "dict"
  | .nd (.obj _ _) _ => none
def isiB (a n : String) : Bool := a == n || (a == "bool" && n == "int")
def isiT (n : String) (t : T) : Option T := (tyN t).bind fun a => some (.bl (isiB a n))
theorem kitB_all : (["NoneType", "bool", "int", "str", "list", "tuple", "dict"].all fun a => ["int", "bool", "list", "tuple", "str"].all fun n => kitB a n == some (isiB a n)) = true := by decide +kernel
theorem Rep.tyN {H : Hp} {x : V} {t : T} {G : FP} {s : String} (h : Rep Γ H x t G) (e : VT.tyN t = some s) : TyX Γ.K H x (.type s) ∧ s ∈ ["NoneType", "bool", "int", "str", "list", "tuple", "dict"] := by
  cases h with
  | non => cases e; exact ⟨.base .non, by simp⟩
  | bl b => cases e; exact ⟨.base (.bl b), by simp⟩
  | int i => cases e; exact ⟨.base (.int i), by simp⟩
  | str x => cases e; exact ⟨.base (.str x), by simp⟩
  | @nd _ k a vs ts Fs hat _ _ _ _ _ =>
    cases k with
    | lst => cases e; exact ⟨.base (.lst hat), by simp⟩
    | tup => cases e; exact ⟨.base (.tup hat), by simp⟩
    | fz =>
      cases e
      refine ⟨?_, by simp⟩
      rcases hat with ⟨o, q⟩ | q
      · exact .base (.frz q)
      · rcases q (fun _ => none) with (z | ⟨o, z⟩) | ⟨o, its, n, z1, z2, _⟩
        · cases z
        · cases z
        · exact .kList z1 z2
    | dK ks => cases e; exact ⟨.base (.dK hat.2), by simp⟩
    | dT ks => cases e; exact ⟨.base (.dT hat.2), by simp⟩
    | obj c ns => cases e
theorem isiT_ok {n : String} (hn : n ∈ ["int", "bool", "list", "tuple", "str"]) : UnT Γ (fun x => rIsi Γ.K [x, .ty n]) (isiT n) := by
  intro H x t1 t G1 Q r1 e k
  unfold isiT at e
  cases e1 : tyN t1 with
  | none => rw [e1] at e; cases e
  | some s =>
    rw [e1] at e
    cases e
    obtain ⟨ty, hs⟩ := r1.tyN e1
    have kb : kitB s n = some (isiB s n) := by
      have h := List.all_eq_true.mp kitB_all s hs
      exact beq_iff_eq.mp (List.all_eq_true.mp h n hn)
    exact ⟨x, .ty n, _, _, _, rfl, .ty n, ty, kit_ty kb, k _ H FE (Same.refl H) (.bl _) new_FE⟩
theorem n_isi {n : String} {x : Str} {p1 : Pos} (hn : n ∈ ["int", "bool", "list", "tuple", "str"]) (hm : X.mg "isinstance" = none) (hmT : X.mg x = none) (hvT : bootBuiltins x = some (.type n)) (ha : PE X e (rdB Γ ar ga)) (hK : X.K = Γ.K := by rfl) (hg : Gl X "isinstance" := by rfl) (hgT : Gl X x := by rfl) (hnn : x ≠ "__name__" := by decide) (hdb : (x == ("__debug__" : Str)) = false := by decide)
    (he : starEach [e, .Name x p1] X.env = (false, eval e X.env) :: starEach [.Name x p1] X.env := by rfl) : PE X (.Call (.Name "isinstance" p) [e, .Name x p1] [] pos) (rdN Γ ar (bUn (isiT n) ga)) :=
  PE.imp (pe_callB (r := rIsi Γ.K) (hK ▸ call_isi) hg hm PyProof.Rows.boot_isinstance (pa_cons ha (pa_cons (pe_bltn (v := .ty n) hgT hmT hvT rfl hnn hdb) pa_nil) he) (by decide) (by decide) he) fun σ H Q q => tUn_b (isiT_ok hn) σ H Q q

/-! ### list(range(n)) -/
def lrgT : T → Option T
  | .int n => if 0 ≤ n ∧ n ≤ 100000 then some (.nd .lst (rgT n)) else none
  | _ => none
theorem rgT_im (n : Int) : T.imAll (rgT n) = true := imAll_mem.mpr fun t ht => by
  obtain ⟨k, _, rfl⟩ := List.mem_map.mp ht
  rfl
theorem lrgT_ok : UnT Γ (fun x H Q => ∃ n, x = V.int n ∧ RgOk 0 n ∧ ∀ q, H q = none → Q (.ref q) (upd H q (.lst (rgV 0 n)))) lrgT := by
  intro H x t1 t G1 Q r1 e k
  unfold lrgT at e
  split at e
  · rename_i n
    by_cases hn : 0 ≤ n ∧ n ≤ 100000
    · rw [if_pos hn] at e
      cases e
      cases r1
      refine ⟨n, rfl, .of_le (by omega) (by omega) (by omega) (by omega), fun q hq => ?_⟩
      have hl : (rgV 0 n).length = (rgT n).length := by rw [rgV_length]; simp [rgT]
      obtain ⟨s, r, nw⟩ := new_lst (Γ := Γ) (G := FE) hq hl (fun i v t q1 q2 => by
        have hi : i < n.toNat := by
          have := (List.getElem?_eq_some_iff.mp q2).1
          simpa [rgT] using this
        have e1 : (rgV 0 n)[i]? = some (.int (i : Int)) := by
          have hr : (List.range (n - 0).toNat)[i]? = some i := by rw [List.getElem?_range (by omega)]
          unfold rgV
          rw [List.getElem?_map, hr]
          show some (V.int (0 + (i : Int))) = _
          rw [Int.zero_add]
        have e2 : (rgT n)[i]? = some (.int (i : Int)) := by simp [rgT, hi]
        rw [e1] at q1
        rw [e2] at q2
        cases q1
        cases q2
        exact .int _) (rgT_im n)
      exact k _ _ _ s r nw
    · rw [if_neg hn] at e; cases e
  · cases e
theorem n_listRg {p1 pos1 : Pos} (hc : X.calm = true) (hm : X.mg "list" = none) (hm2 : X.mg "range" = none) (ha : PE X e (rdB Γ ar ga)) (hg : Gl X "list" := by rfl) (hg2 : Gl X "range" := by rfl) (h1 : starEach [e] X.env = (false, eval e X.env) :: starEach [] X.env := by rfl) : PE X (.Call (.Name "list" p) [.Call (.Name "range" p1) [e] [] pos1] [] pos) (rdN Γ ar (bUn lrgT ga)) :=
  PE.imp (pe_listRg hc hg hm (prg_1 hg2 hm2 ha h1)) fun σ H Q q => tUn_b lrgT_ok σ H Q q
theorem e_listRg {p1 pos1 : Pos} (hc : X.calm = true) (hm : X.mg "list" = none) (hm2 : X.mg "range" = none) (ha : PE X e (rdE Γ ar W fa)) (hg : Gl X "list" := by rfl) (hg2 : Gl X "range" := by rfl) (h1 : starEach [e] X.env = (false, eval e X.env) :: starEach [] X.env := by rfl) : PE X (.Call (.Name "list" p) [.Call (.Name "range" p1) [e] [] pos1] [] pos) (rdE Γ ar W (eUn lrgT fa)) :=
  PE.imp (pe_listRg hc hg hm (prg_1 hg2 hm2 ha h1)) fun σ H Q q => tUn_e lrgT_ok σ H Q q

/-! ### slices with written bounds -/
def PLit (X : Cx) (e : Option Expr) (i : Option Int) : Prop := PO X e (fun _ H Q => Q i H)
theorem PO.imp {e : Option Expr} {t t' : TO} (h : PO X e t) (k : ∀ σ H Q, t' σ H Q → t σ H Q) : PO X e t' := ⟨fun pins s σ H Q I q => h.run pins s σ H Q I (k σ H Q q)⟩
theorem lit_none : PLit X none none := PO.imp po_none fun _ _ _ q => q
theorem lit_int {i : Int} {j pos} : PLit X (some (.Constant (.int i) j pos)) (some i) := PO.imp (po_some pe_int) fun _ _ _ q => ⟨i, rfl, q⟩
def cutT (ts : List T) (lo hi : Option Int) : List T := (ts.drop (HT.sIx ts.length 0 lo)).take (HT.sIx ts.length ts.length hi - HT.sIx ts.length 0 lo)
def slT (lo hi : Option Int) : T → Option T
  | .nd .tup ts => if T.imAll ts = true ∧ ¬ (HT.sIx ts.length 0 lo = 0 ∧ HT.sIx ts.length ts.length hi = ts.length) then some (.nd .tup (cutT ts lo hi)) else none
  | .nd .lst ts => if T.imAll ts = true then some (.nd .lst (cutT ts lo hi)) else none
  | .nd .fz ts => if T.imAll ts = true then some (.nd .lst (cutT ts lo hi)) else none
  | .str z => if z.length ≤ 100000 then some (.str (cutS z lo hi)) else none
  | _ => none
def rSlX (K : PySem.W.Frag) : V → Option Int → Option Int → Hp → VK → Prop := fun x lo hi H Q => rSlT K x lo hi H Q ∨ rSlL K x lo hi H Q ∨ rSlS x lo hi H Q
theorem SlR.or {r r' : V → Option Int → Option Int → Hp → VK → Prop} (h : SlR X r) (h' : SlR X r') : SlR X (fun x lo hi H Q => r x lo hi H Q ∨ r' x lo hi H Q) := by
  intro pins s σ H x v vl vu lo hi sl Q I rx hs pl pu q
  rcases q with q | q
  · exact h pins s σ H x v vl vu lo hi sl Q I rx hs pl pu q
  · exact h' pins s σ H x v vl vu lo hi sl Q I rx hs pl pu q
theorem sl_any : SlR X (rSlX X.K) := SlR.or sl_tup (SlR.or sl_list sl_str)
theorem cut_get {vs : List V} {ts : List T} {G : FP} {H : Hp} {lo hi : Option Int} (hl : vs.length = ts.length) (hc : ∀ (i : Nat) (v : V) (t : T), vs[i]? = some v → ts[i]? = some t → Rep Γ H v t G) : (cutV vs lo hi).length = (cutT ts lo hi).length ∧ ∀ (i : Nat) (v : V) (t : T), (cutV vs lo hi)[i]? = some v → (cutT ts lo hi)[i]? = some t → Rep Γ H v t G := by
  unfold cutV cutT
  rw [hl]
  refine ⟨by simp [hl], fun i v t q1 q2 => ?_⟩
  rw [List.getElem?_take] at q1 q2
  by_cases c : i < HT.sIx ts.length ts.length hi - HT.sIx ts.length 0 lo
  · rw [if_pos c, List.getElem?_drop] at q1 q2
    exact hc _ v t q1 q2
  · rw [if_neg c] at q1; cases q1
theorem cutT_im {ts : List T} {lo hi : Option Int} (h : T.imAll ts = true) : T.imAll (cutT ts lo hi) = true := imAll_mem.mpr fun t ht => imAll_mem.mp h t (List.mem_of_mem_drop (List.mem_of_mem_take ht))
theorem slT_ok {lo hi : Option Int} : UnT Γ (fun x H Q => rSlX Γ.K x lo hi H Q) (slT lo hi) := by
  intro H x t1 t G1 Q r1 e k
  unfold slT at e
  split at e
  · rename_i ts
    by_cases hc : T.imAll ts = true ∧ ¬ (HT.sIx ts.length 0 lo = 0 ∧ HT.sIx ts.length ts.length hi = ts.length)
    · rw [if_pos hc] at e
      cases e
      obtain ⟨a, vs, rfl, q, hl, hk⟩ := r1.tupl
      refine .inl ⟨a, vs, rfl, q, by rw [hl]; exact hc.2, fun p hp => ?_⟩
      obtain ⟨c1, c2⟩ := cut_get (lo := lo) (hi := hi) hl hk
      obtain ⟨s, r, n⟩ := new_tup (Γ := Γ) hp c1 c2 (cutT_im hc.1)
      exact k _ _ _ s r n
    · rw [if_neg hc] at e; cases e
  · rename_i ts
    by_cases hc : T.imAll ts = true
    · rw [if_pos hc] at e
      cases e
      obtain ⟨a, vs, rfl, q, hl, hk⟩ := r1.list (.inl rfl)
      refine .inr (.inl ⟨a, vs, rfl, q, fun p hp => ?_⟩)
      obtain ⟨c1, c2⟩ := cut_get (lo := lo) (hi := hi) hl hk
      obtain ⟨s, r, n⟩ := new_lst (Γ := Γ) hp c1 c2 (cutT_im hc)
      exact k _ _ _ s r n
    · rw [if_neg hc] at e; cases e
  · rename_i ts
    by_cases hc : T.imAll ts = true
    · rw [if_pos hc] at e
      cases e
      obtain ⟨a, vs, rfl, q, hl, hk⟩ := r1.list (.inr rfl)
      refine .inr (.inl ⟨a, vs, rfl, q, fun p hp => ?_⟩)
      obtain ⟨c1, c2⟩ := cut_get (lo := lo) (hi := hi) hl hk
      obtain ⟨s, r, n⟩ := new_lst (Γ := Γ) hp c1 c2 (cutT_im hc)
      exact k _ _ _ s r n
    · rw [if_neg hc] at e; cases e
  · rename_i z
    by_cases hz : z.length ≤ 100000
    · rw [if_pos hz] at e
      cases e
      cases r1
      exact .inr (.inr ⟨z, rfl, sz5 hz, k _ H FE (Same.refl H) (.str _) new_FE⟩)
    · rw [if_neg hz] at e; cases e
  · cases e
theorem n_sl {lo hi : Option Expr} {l u : Option Int} {p2 : Pos} (he : PE X e (rdB Γ ar ga)) (hl : PLit X lo l) (hu : PLit X hi u) (hK : X.K = Γ.K := by rfl) : PE X (.Subscript e (.Slice lo hi none p2) pos) (rdN Γ ar (bUn (slT l u) ga)) := PE.imp (pe_slice (hK ▸ sl_any) he hl hu) fun σ H Q q => tUn_b slT_ok σ H Q q
theorem e_sl {lo hi : Option Expr} {l u : Option Int} {p2 : Pos} (he : PE X e (rdE Γ ar W fa)) (hl : PLit X lo l) (hu : PLit X hi u) (hK : X.K = Γ.K := by rfl) : PE X (.Subscript e (.Slice lo hi none p2) pos) (rdE Γ ar W (eUn (slT l u) fa)) := PE.imp (pe_slice (hK ▸ sl_any) he hl hu) fun σ H Q q => tUn_e slT_ok σ H Q q

/-! ### xs[i] = e -/
def setM (k : Int) : MuF
  | .nd .lst ts, [t] => (ixN ts.length k).bind fun j => some (.nd .lst (ts.set j t), .non)
  | _, _ => none
def rSetX (k : Int) : V → List V → Hp → VK → Prop := fun x vs H Q => ∃ y, vs = [y] ∧ rSetL x (.int k) y H fun H3 => Q .non H3
theorem ixN_lt {n : Nat} {i : Int} {j : Nat} (h : ixN n i = some j) : j < n := by
  unfold ixN at h
  split at h
  · split at h
    · cases h; omega
    · cases h
  · split at h
    · cases h; omega
    · cases h
theorem setM_ok {i : Int} : MutT Γ (rSetX i) (setM i) := by
  intro H x u us u' res G Gx Gs vs Q r hl hg hd hs dj e k
  unfold setM at e
  split at e
  · rename_i ts t
    cases e1 : ixN ts.length i with
    | none => rw [e1] at e; cases e
    | some j =>
      rw [e1] at e
      cases e
      cases r with
      | @nd _ _ a ws _ Fs hat hlw hm hc hdd hss =>
        have hat : H a = some (.lst ws) := hat
        have hlw : ws.length = ts.length := hlw
        have hj : j < ts.length := ixN_lt e1
        match vs, hl with
        | [y], _ =>
          have ry := hg 0 y _ rfl rfl
          have dj1 : ∀ a, G a → Gs 0 a → False := fun a g z => dj a g (hs 0 a z)
          refine ⟨y, rfl, a, ws, i, j, rfl, rfl, hat, by rw [hlw]; exact e1, ?_⟩
          refine k _ _ (fun x => x = a ∨ ∃ i, (fun m => if m = j then Gs 0 else Fs m) i x) FE (ke_upd hat (fun z => z) (hm rfl).1) (fun b z => ?_) (fun _ _ z => z) al_upd
            (node_upd hat (fun z => z) upd_same (by rw [List.length_set, List.length_set]; exact hlw) (set_kids hc ry hj hlw) (set_dj hdd hss dj1) fun i z => ?_) .non
          · rcases z with (z | ⟨i, z⟩) | z
            · rw [z]; exact .inl (hm rfl).1
            · by_cases c1 : i = j
              · simp only [if_pos c1] at z; exact .inr (hs 0 b z)
              · simp only [if_neg c1] at z; exact .inl (hss i b z)
            · exact z.elim
          · by_cases c1 : i = j
            · simp only [if_pos c1] at z; exact dj1 a (hm rfl).1 z
            · simp only [if_neg c1] at z; exact (hm rfl).2 i z
  · cases e
def sSetI (pl : PF) (g : BF) (f : EF) : SF := fun S => (f S).bind fun rx => match rx with
  | (.ex c, S1) => some (.ex c, S1)
  | (.ok t, S1) => (pl S1).bind fun ip => (sl S1 ip.1).bind fun t0 => (tAt ip.2 t0).bind fun u => (g S1).bind fun w => match w with
    | .int k => (setM k u [t]).bind fun ur => some (.nx, S1.set ip.1 (some (tPut ip.2 t0 ur.1)))
    | _ => none
theorem s_setI {i : Expr} {pos' : Pos} (ho : PE X o (rdP Γ ar pl)) (hi : PE X i (rdB Γ ar g)) (hv : PE X e (rdE Γ ar W fa))
    (hs : swapsWithSole [.Subscript o i pos'] e pos.line X.env = pure false := by rfl) (hw : swappedStores [.Subscript o i pos'] e X.env = pure none := by rfl) (h1 : (assignEach [.Subscript o i pos'] X.env).map (·.2) = [assign (.Subscript o i pos') X.env] := by rfl)
    (hasg : ∀ v, assign (.Subscript o i pos') X.env v = (do let ov ← holding [v] (eval o X.env); let iv ← holding [v, ov] (eval i X.env); standAt pos'; holding [v, ov, iv] (setItem ov iv v); release [v, ov, iv] []) := by intro _; rfl) :
    PS X (.Assign [.Subscript o i pos'] e pos) (rdS Γ ar W (sSetI pl g fa)) := by
  refine PS.imp (ps_asg hv (pg_sub ho hi set_list hasg) hs hw h1) fun D σ H q => ?_
  obtain ⟨S, F, fl, S', R, ee, kk⟩ := q
  unfold sSetI at ee
  cases q0 : fa S with
  | none => rw [q0] at ee; cases ee
  | some o1 =>
    obtain ⟨r1, S1⟩ := o1
    rw [q0] at ee
    simp only [Option.bind_some] at ee
    cases r1 with
    | ex c => cases ee; exact ⟨S, F, _, _, R, q0, fun H' F' R' u => kk σ H' F' R' u⟩
    | ok t =>
      simp only at ee
      cases q1 : pl S1 with
      | none => rw [q1] at ee; cases ee
      | some ip =>
        obtain ⟨i, p⟩ := ip
        rw [q1] at ee
        simp only [Option.bind_some] at ee
        cases q2 : sl S1 i with
        | none => rw [q2] at ee; cases ee
        | some t0 =>
          rw [q2] at ee
          simp only [Option.bind_some] at ee
          cases q3 : tAt p t0 with
          | none => rw [q3] at ee; cases ee
          | some u =>
            rw [q3] at ee
            simp only [Option.bind_some] at ee
            cases q5 : g S1 with
            | none => rw [q5] at ee; cases ee
            | some w =>
              rw [q5] at ee
              simp only [Option.bind_some] at ee
              split at ee
              · rename_i k
                cases q4 : setM k u [t] with
                | none => rw [q4] at ee; cases ee
                | some ur =>
                  obtain ⟨u', res⟩ := ur
                  rw [q4] at ee
                  cases ee
                  refine ⟨S, F, _, _, R, q0, fun y H1 F1 G1 o1 => ⟨S1, F1, i, p, t0, u, o1.rs, q1, q2, q3, fun v0 v H2 h1 h2 s => ?_⟩⟩
                  refine ⟨S1, F1, _, (o1.same s).rs, q5, fun iv H3 G3 s3 r3 => ?_⟩
                  cases r3
                  have s23 := s.trans s3
                  have o2 := o1.same s23
                  have A : ArgsP Γ H3 σ [y] [.val t] (FU G1 FE) := argsP_nil.val o2.r fun _ _ z => z
                  have fin := mut_core (Q := fun _ H' => D.nx σ H') setM_ok o2.rs A rfl (fun a f g => g.elim (o2.d a f) fun z => z) (fun a g => g.elim (o2.al a) fun z => z.elim) q2 q3 q4 h1 (vAt_same s23 h2) fun w H' F' G R' rw' d al u2 => kk σ H' F' R' ((o2.u.sub fun a z => z.elim .inl fun z => z.elim .inr fun z => z.elim).trans (u2.sub fun a z => .inl z))
                  obtain ⟨y', ey, q⟩ := fin
                  cases ey
                  exact q
              · cases ee
end
end VT

/-! VTD: operations, one side read only. -/
namespace VT
open PySem L2
section
variable {Γ : Gx} {ar : Fx} {W : WX} {X : Cx} {a b e o : Expr} {pos p apos cpos : Pos} {ga gb g : BF} {fa fb : EF} {es : List Expr} {pl : PF} {r : R2} {f : T → T → Option T}
theorem en_ok {σ : St} {H : Hp} {Q : VK} (q : rdE Γ ar W (eOfN g) σ H Q) : rdN Γ ar g σ H Q := by
  obtain ⟨S, F, r, S', R, e, k⟩ := q
  unfold eOfN at e
  cases e1 : g S with
  | none => rw [e1] at e; cases e
  | some t =>
    rw [e1] at e
    have e2 : (Rs.ok t, S) = (r, S') := Option.some.inj e
    cases e2
    exact ⟨S, F, t, R, e1, fun v H' G s r n => k v H' F G (own_new R s r n)⟩
theorem t_cmpN {op : CmpOp} (ho : OpR X (compareOp op) r) (hf : OpT Γ r f) (ha : PE X a (rdB Γ ar ga)) (hb : PE X b (rdB Γ ar gb)) (hm : behindInMarks op b = false) : PT X (.Compare a [op] [b] pos) (rdT Γ ar W (eOfN (bOp f ga gb))) :=
  PT.imp (pt_cmpR ho ha hb hm) fun σ H Q q => tOp_b hf σ H _ (en_ok q)
/-- the left with effects, the right read behind it -/
def eOpB (f : T → T → Option T) (fa : EF) (gb : BF) : EF := fun S => (fa S).bind fun rx => match rx with
  | (.ex c, S1) => some (.ex c, S1)
  | (.ok x, S1) => (gb S1).bind fun y => (f x y).bind fun z => some (.ok z, S1)
theorem tOp_eb (h : OpT Γ r f) {σ : St} {H : Hp} {Q : VK} (q : rdE Γ ar W (eOpB f fa gb) σ H Q) : tOp r (rdE Γ ar W fa) (rdB Γ ar gb) σ H Q := by
  obtain ⟨S, F, rr, S', R, e, k⟩ := q
  unfold eOpB at e
  cases e1 : fa S with
  | none => rw [e1] at e; cases e
  | some o1 =>
    obtain ⟨r1, S1⟩ := o1
    rw [e1] at e
    simp only [Option.bind_some] at e
    cases r1 with
    | ex c => cases e; exact ⟨S, F, .ex c, _, R, e1, k⟩
    | ok x =>
      simp only at e
      cases e2 : gb S1 with
      | none => rw [e2] at e; cases e
      | some y =>
        rw [e2] at e
        simp only [Option.bind_some] at e
        cases e3 : f x y with
        | none => rw [e3] at e; cases e
        | some z =>
          rw [e3] at e
          cases e
          refine ⟨S, F, .ok x, _, R, e1, fun v H1 F1 G1 o1 => ⟨_, F1, y, o1.rs, e2, fun w H2 G2 s2 r2 => ?_⟩⟩
          refine h H2 v w x y z G1 G2 Q (o1.r.same s2) r2 e3 fun v3 H3 G s3 r3 n => ?_
          exact k v3 H3 F1 G (own_after ((o1.same s2).u.sub fun a z => .inl z) (o1.rs.same s2) s3 r3 n)
/-- the left a name, the right with effects -/
def eOpV (f : T → T → Option T) (i : Nat) (fb : EF) : EF := fun S => (sl S i).bind fun _ => (fb S).bind fun rx => match rx with
  | (.ex c, S1) => some (.ex c, S1)
  | (.ok y, S1) => (sl S1 i).bind fun x => (f x y).bind fun z => some (.ok z, S1)
theorem tOp_ve {i : Nat} (h : OpT Γ r f) {σ : St} {H : Hp} {Q : VK} (q : rdE Γ ar W (eOpV f i fb) σ H Q) : tOp r (tVar i) (rdE Γ ar W fb) σ H Q := by
  obtain ⟨S, F, rr, S', R, e, k⟩ := q
  unfold eOpV at e
  cases e0 : sl S i with
  | none => rw [e0] at e; cases e
  | some t0 =>
    rw [e0] at e
    simp only [Option.bind_some] at e
    obtain ⟨v, ev, _⟩ := R.slot (sl_some.mp e0)
    refine ⟨v, ev, ?_⟩
    cases e1 : fb S with
    | none => rw [e1] at e; cases e
    | some o1 =>
      obtain ⟨r1, S1⟩ := o1
      rw [e1] at e
      simp only [Option.bind_some] at e
      cases r1 with
      | ex c => cases e; exact ⟨S, F, .ex c, _, R, e1, k⟩
      | ok y =>
        simp only at e
        cases e2 : sl S1 i with
        | none => rw [e2] at e; cases e
        | some x =>
          rw [e2] at e
          simp only [Option.bind_some] at e
          cases e3 : f x y with
          | none => rw [e3] at e; cases e
          | some z =>
            rw [e3] at e
            cases e
            refine ⟨S, F, .ok y, _, R, e1, fun w H1 F1 G1 o1 => ?_⟩
            obtain ⟨v', ev', rv⟩ := o1.rs.slot (sl_some.mp e2)
            have z0 : v = v' := Option.some.inj (Option.some.inj (ev.symm.trans ev'))
            subst z0
            exact h H1 v w x y z F1 G1 Q rv o1.r e3 fun v3 H3 G s3 r3 n => k v3 H3 F1 G (own_after (o1.u.sub fun a z => .inl z) o1.rs s3 r3 n)
theorem eOpEB {op : Operator} (ho : OpR X (binaryOp op) r) (hf : OpT Γ r f) (ha : PE X a (rdE Γ ar W fa)) (hb : PE X b (rdB Γ ar gb)) : PE X (.BinOp a op b pos) (rdE Γ ar W (eOpB f fa gb)) := PE.imp (pe_op ho ha hb) fun _ _ _ q => tOp_eb hf q
theorem eCmpEB {op : CmpOp} (ho : OpR X (compareOp op) r) (hf : OpT Γ r f) (ha : PE X a (rdE Γ ar W fa)) (hb : PE X b (rdB Γ ar gb)) (hm : behindInMarks op b = false) : PE X (.Compare a [op] [b] pos) (rdE Γ ar W (eOpB f fa gb)) := PE.imp (pe_cmpR ho ha hb hm) fun _ _ _ q => tOp_eb hf q
theorem t_cmpEB {op : CmpOp} (ho : OpR X (compareOp op) r) (hf : OpT Γ r f) (ha : PE X a (rdE Γ ar W fa)) (hb : PE X b (rdB Γ ar gb)) (hm : behindInMarks op b = false) : PT X (.Compare a [op] [b] pos) (rdT Γ ar W (eOpB f fa gb)) := PT.imp (pt_cmpR ho ha hb hm) fun _ _ _ q => tOp_eb hf q
section
variable {x : Str} {px : Pos}
theorem eCmpVE {op : CmpOp} (i : Nat) (ho : OpR X (compareOp op) r) (hf : OpT Γ r f) (hb : PE X b (rdE Γ ar W fb)) (hm : behindInMarks op b = false) (hN : X.N[i]? = some x := by rfl) (hv : Vis X.env.scope x := by first | exact Or.inl rfl | exact Or.inr (Or.inl rfl) | exact Or.inr (Or.inr rfl)) (hd : (x == ("__debug__" : Str)) = false := by decide)
    (hcd : (x == ("__classdict__" : Str)) = false := by decide) : PE X (.Compare (.Name x px) [op] [b] pos) (rdE Γ ar W (eOpV f i fb)) := PE.imp (pe_cmpR ho (pe_var hN hv hd hcd) hb hm) fun _ _ _ q => tOp_ve hf q
theorem t_cmpVE {op : CmpOp} (i : Nat) (ho : OpR X (compareOp op) r) (hf : OpT Γ r f) (hb : PE X b (rdE Γ ar W fb)) (hm : behindInMarks op b = false) (hN : X.N[i]? = some x := by rfl) (hv : Vis X.env.scope x := by first | exact Or.inl rfl | exact Or.inr (Or.inl rfl) | exact Or.inr (Or.inr rfl)) (hd : (x == ("__debug__" : Str)) = false := by decide)
    (hcd : (x == ("__classdict__" : Str)) = false := by decide) : PT X (.Compare (.Name x px) [op] [b] pos) (rdT Γ ar W (eOpV f i fb)) := PT.imp (pt_cmpR ho (pe_var hN hv hd hcd) hb hm) fun _ _ _ q => tOp_ve hf q
theorem eOpVE {op : Operator} (i : Nat) (ho : OpR X (binaryOp op) r) (hf : OpT Γ r f) (hb : PE X b (rdE Γ ar W fb)) (hN : X.N[i]? = some x := by rfl) (hv : Vis X.env.scope x := by first | exact Or.inl rfl | exact Or.inr (Or.inl rfl) | exact Or.inr (Or.inr rfl)) (hd : (x == ("__debug__" : Str)) = false := by decide)
    (hcd : (x == ("__classdict__" : Str)) = false := by decide) : PE X (.BinOp (.Name x px) op b pos) (rdE Γ ar W (eOpV f i fb)) := PE.imp (pe_op ho (pe_var hN hv hd hcd) hb) fun _ _ _ q => tOp_ve hf q
theorem eIxVE (i : Nat) (hb : PE X b (rdE Γ ar W fb)) (hs : PlainIx b) (hK : X.K = Γ.K := by rfl) (hN : X.N[i]? = some x := by rfl) (hv : Vis X.env.scope x := by first | exact Or.inl rfl | exact Or.inr (Or.inl rfl) | exact Or.inr (Or.inr rfl)) (hd : (x == ("__debug__" : Str)) = false := by decide)
    (hcd : (x == ("__classdict__" : Str)) = false := by decide) : PE X (.Subscript (.Name x px) b pos) (rdE Γ ar W (eOpV ixT i fb)) := PE.imp (pe_ix (hK ▸ ix_seq) (pe_var hN hv hd hcd) hb hs) fun _ _ _ q => tOp_ve ixT_ok q
end
end
end VT

/-! VTE: how functions on trees are reckoned out, step by step. -/
namespace VT
open PySem L2
theorem ob_some {α β : Type} {a : α} {f : α → Option β} : (some a).bind f = f a := rfl
/-! continuations -/
def kEn (S : TSt) (t : T) : Option (Rs T × TSt) := some (.ok t, S)
def kOp2 (f : T → T → Option T) (x : T) : Rs T × TSt → Option (Rs T × TSt)
  | (.ex c, S2) => some (.ex c, S2)
  | (.ok y, S2) => (f x y).bind (kEn S2)
def kOp1 (f : T → T → Option T) (fb : EF) : Rs T × TSt → Option (Rs T × TSt)
  | (.ex c, S1) => some (.ex c, S1)
  | (.ok x, S1) => (fb S1).bind (kOp2 f x)
def kB1 (f : T → T → Option T) (x : T) (S : TSt) (y : T) : Option (Rs T × TSt) := (f x y).bind (kEn S)
def kOpB (f : T → T → Option T) (gb : BF) : Rs T × TSt → Option (Rs T × TSt)
  | (.ex c, S1) => some (.ex c, S1)
  | (.ok x, S1) => (gb S1).bind (kB1 f x S1)
def kV1 (f : T → T → Option T) (y : T) (S : TSt) (x : T) : Option (Rs T × TSt) := (f x y).bind (kEn S)
def kOpV (f : T → T → Option T) (i : Nat) : Rs T × TSt → Option (Rs T × TSt)
  | (.ex c, S1) => some (.ex c, S1)
  | (.ok y, S1) => (sl S1 i).bind (kV1 f y S1)
def kOpV0 (f : T → T → Option T) (i : Nat) (fb : EF) (S : TSt) (_ : T) : Option (Rs T × TSt) := (fb S).bind (kOpV f i)
def kUn (f : T → Option T) : Rs T × TSt → Option (Rs T × TSt)
  | (.ex c, S1) => some (.ex c, S1)
  | (.ok x, S1) => (f x).bind (kEn S1)
def kBop2 (f : T → T → Option T) (x : T) (y : T) : Option T := f x y
def kBop (f : T → T → Option T) (gb : BF) (S : TSt) (x : T) : Option T := (gb S).bind (f x)
def kAt (p : List Nat) (t : T) : Option T := tAt p t
def kPl (S : TSt) (ip : Nat × List Nat) : Option T := (sl S ip.1).bind (kAt ip.2)
def kSeq (u : SF) : Fl × TSt → Option (Fl × TSt)
  | (.nx, S1) => u S1
  | (fl, S1) => some (fl, S1)
def kSet (i : Nat) : Rs T × TSt → Option (Fl × TSt)
  | (.ex c, S1) => some (.ex c, S1)
  | (.ok t, S1) => some (.nx, S1.set i (some t))
def kRet : Rs T × TSt → Option (Fl × TSt)
  | (.ex c, S1) => some (.ex c, S1)
  | (.ok t, S1) => some (.rt t, S1)
def kExpr : Rs T × TSt → Option (Fl × TSt)
  | (.ex c, S1) => some (.ex c, S1)
  | (.ok _, S1) => some (.nx, S1)
def kIf (s u : SF) : Rs T × TSt → Option (Fl × TSt)
  | (.ex c, S1) => some (.ex c, S1)
  | (.ok (.bl true), S1) => s S1
  | (.ok (.bl false), S1) => u S1
  | _ => none
def kEIf (s u : EF) : Rs T × TSt → Option (Rs T × TSt)
  | (.ex c, S1) => some (.ex c, S1)
  | (.ok (.bl true), S1) => s S1
  | (.ok (.bl false), S1) => u S1
  | _ => none
def kNot : Rs T × TSt → Option (Rs T × TSt)
  | (.ex c, S1) => some (.ex c, S1)
  | (.ok (.bl b), S1) => some (.ok (.bl (!b)), S1)
  | _ => none
def kAnd (fb : EF) : Rs T × TSt → Option (Rs T × TSt)
  | (.ex c, S1) => some (.ex c, S1)
  | (.ok (.bl true), S1) => fb S1
  | (.ok (.bl false), S1) => some (.ok (.bl false), S1)
  | _ => none
def kOr (fb : EF) : Rs T × TSt → Option (Rs T × TSt)
  | (.ex c, S1) => some (.ex c, S1)
  | (.ok (.bl false), S1) => fb S1
  | (.ok (.bl true), S1) => some (.ok (.bl true), S1)
  | _ => none
def kVar (S : TSt) (i : Nat) (t : T) : Option (Rs T × TSt) := if t.im = true then some (.ok t, S) else some (.ok t, S.set i none)
def kPV (i : Nat) (_ : T) : Option (Nat × List Nat) := some (i, [])
def kA2 (t : T) : Rs (List Arg) × TSt → Option (Rs (List Arg) × TSt)
  | (.ex c, S2) => some (.ex c, S2)
  | (.ok l, S2) => some (.ok (.val t :: l), S2)
def kA1 (fs : AF) : Rs T × TSt → Option (Rs (List Arg) × TSt)
  | (.ex c, S1) => some (.ex c, S1)
  | (.ok t, S1) => (fs S1).bind (kA2 t)
def kAr2 (x : Arg) : Rs (List Arg) × TSt → Option (Rs (List Arg) × TSt)
  | (.ex c, S2) => some (.ex c, S2)
  | (.ok l, S2) => some (.ok (x :: l), S2)
def kAr (fs : AF) (S : TSt) (x : Arg) : Option (Rs (List Arg) × TSt) := (fs S).bind (kAr2 x)
def kArg (i : Nat) (t : T) : Option Arg := if t.im = true then some (.val t) else some (.pth i [])
def kD2 (k : Kd) (S : TSt) (ts : List T) : Option (Rs T × TSt) := if ts.length ≤ 100000 then some (.ok (.nd k ts), S) else none
def kD1 (k : Kd) : Rs (List Arg) × TSt → Option (Rs T × TSt)
  | (.ex c, S1) => some (.ex c, S1)
  | (.ok l, S1) => (valsOf l).bind (kD2 k S1)
def kCall (m : MF) (n : Nat) : Rs (List Arg) × TSt → Option (Rs T × TSt)
  | (.ex c, S1) => some (.ex c, S1)
  | (.ok as, S1) => callR m n S1 as
def kC2 (n : Nat) (S : TSt) (as : List Arg) (rt : Rs T × List T) : Option (Rs T × TSt) := if rt.2.length = n then some (rt.1, putBack S as rt.2) else none
def kC1 (m : MF) (n : Nat) (S : TSt) (as : List Arg) (ts : List T) : Option (Rs T × TSt) := (m ts).bind (kC2 n S as)
def kBV2 (t : T) (l : List Arg) : Option (List Arg) := some (.val t :: l)
def kBV (gs : BAF) (S : TSt) (t : T) : Option (List Arg) := (gs S).bind (kBV2 t)
def kBR2 (x : Arg) (l : List Arg) : Option (List Arg) := some (x :: l)
def kBR (gs : BAF) (S : TSt) (x : Arg) : Option (List Arg) := (gs S).bind (kBR2 x)
def kNT2 (ts : List T) : Option T := gd (ts.length ≤ 100000 ∧ T.imAll ts = true) (.nd .tup ts)
def kNT (l : List Arg) : Option T := (valsOf l).bind kNT2
def kBody2 (fl : Fl) (ts' : List T) : Option (Rs T × List T) := match fl with
  | .nx => some (.ok .non, ts')
  | .rt t => some (.ok t, ts')
  | .ex c => some (.ex c, ts')
  | _ => none
def kBody (n : Nat) (rx : Fl × TSt) : Option (Rs T × List T) := (allSome (rx.2.take n)).bind (kBody2 rx.1)
section
variable {f : T → T → Option T} {f1 : T → Option T} {fa fb fc : EF} {ga gb g : BF} {S S1 : TSt} {i j n c : Nat} {s u : SF} {b : Bool} {t x y : T} {pl : PF} {fs : AF} {as : List Arg} {m : MF} {k : Kd} {gs : BAF} {ts : List T}
theorem eOp_q : eOp f fa fb S = (fa S).bind (kOp1 f fb) := rfl
theorem kOp1_ok : kOp1 f fb (.ok x, S) = (fb S).bind (kOp2 f x) := rfl
theorem kOp2_ok : kOp2 f x (.ok y, S) = (f x y).bind (kEn S) := rfl
theorem kEn_q : kEn S t = some (.ok t, S) := rfl
theorem eOpB_q : eOpB f fa gb S = (fa S).bind (kOpB f gb) := rfl
theorem kOpB_ok : kOpB f gb (.ok x, S) = (gb S).bind (kB1 f x S) := rfl
theorem kB1_q : kB1 f x S y = (f x y).bind (kEn S) := rfl
theorem eOpV_q : eOpV f i fb S = (sl S i).bind (kOpV0 f i fb S) := rfl
theorem kOpV0_q : kOpV0 f i fb S t = (fb S).bind (kOpV f i) := rfl
theorem kOpV_ok : kOpV f i (.ok y, S) = (sl S i).bind (kV1 f y S) := rfl
theorem kV1_q : kV1 f y S x = (f x y).bind (kEn S) := rfl
theorem eUn_q : eUn f1 fa S = (fa S).bind (kUn f1) := rfl
theorem kUn_ok : kUn f1 (.ok x, S) = (f1 x).bind (kEn S) := rfl
theorem eOfN_q : eOfN g S = (g S).bind (kEn S) := rfl
theorem bOp_q : bOp f ga gb S = (ga S).bind (kBop f gb S) := rfl
theorem kBop_q : kBop f gb S x = (gb S).bind (f x) := rfl
theorem bUn_q : bUn f1 ga S = (ga S).bind f1 := rfl
theorem bOfP_q : bOfP pl S = (pl S).bind (kPl S) := rfl
theorem kPl_q {p : List Nat} : kPl S (i, p) = (sl S i).bind (kAt p) := rfl
theorem kAt_q {p : List Nat} : kAt p t = tAt p t := rfl
theorem tAt_nil : tAt [] t = some t := rfl
theorem tAt_nd {p : List Nat} : tAt (i :: p) (.nd k ts) = if k.mu = true then ts[i]?.bind (kAt p) else none := rfl
theorem nC_q : nC t S = some t := rfl
theorem nOfB_q : nOfB g S = (g S).bind imO := rfl
theorem pVar_q : pVar i S = (sl S i).bind (kPV i) := rfl
theorem kPV_q : kPV i t = some (i, []) := rfl
theorem eVar_q : eVar i S = (sl S i).bind (kVar S i) := rfl
theorem kVar_q : kVar S i t = if t.im = true then some (.ok t, S) else some (.ok t, S.set i none) := rfl
theorem sSeq_q : sSeq s u S = (s S).bind (kSeq u) := rfl
theorem kSeq_nx : kSeq u (.nx, S) = u S := rfl
theorem kSeq_rt : kSeq u (.rt t, S) = some (.rt t, S) := rfl
theorem kSeq_ex : kSeq u (.ex c, S) = some (.ex c, S) := rfl
theorem kSeq_bk : kSeq u (.bk, S) = some (.bk, S) := rfl
theorem kSeq_ct : kSeq u (.ct, S) = some (.ct, S) := rfl
theorem sSet_q : sSet i fa S = (fa S).bind (kSet i) := rfl
theorem kSet_ok : kSet i (.ok t, S) = some (.nx, S.set i (some t)) := rfl
theorem sRet_q : sRet fa S = (fa S).bind kRet := rfl
theorem kRet_ok : kRet (.ok t, S) = some (.rt t, S) := rfl
theorem sExpr_q : sExpr fa S = (fa S).bind kExpr := rfl
theorem kExpr_ok : kExpr (.ok t, S) = some (.nx, S) := rfl
theorem sNil_q : sNil S = some (.nx, S) := rfl
theorem sIf_q : sIf fa s u S = (fa S).bind (kIf s u) := rfl
theorem kIf_q : kIf s u (.ok (.bl b), S) = if b = true then s S else u S := by cases b <;> rfl
theorem eIf_q : eIf fc fa fb S = (fc S).bind (kEIf fa fb) := rfl
theorem kEIf_q : kEIf fa fb (.ok (.bl b), S) = if b = true then fa S else fb S := by cases b <;> rfl
theorem eNot_q : eNot fa S = (fa S).bind kNot := rfl
theorem kNot_q : kNot (.ok (.bl b), S) = some (.ok (.bl (!b)), S) := rfl
theorem eAnd_q : eAnd fa fb S = (fa S).bind (kAnd fb) := rfl
theorem kAnd_q : kAnd fb (.ok (.bl b), S) = if b = true then fb S else some (.ok (.bl false), S) := by cases b <;> rfl
theorem eOr_q : eOr fa fb S = (fa S).bind (kOr fb) := rfl
theorem kOr_q : kOr fb (.ok (.bl b), S) = if b = true then some (.ok (.bl true), S) else fb S := by cases b <;> rfl
theorem aNil_q : aNil S = some (.ok [], S) := rfl
theorem aVal_q : aVal fa fs S = (fa S).bind (kA1 fs) := rfl
theorem kA1_ok : kA1 fs (.ok t, S) = (fs S).bind (kA2 t) := rfl
theorem kA2_ok : kA2 t (.ok as, S) = some (.ok (.val t :: as), S) := rfl
theorem aRef_q : aRef i fs S = (argOf S i).bind (kAr fs S) := rfl
theorem kAr_q {x : Arg} : kAr fs S x = (fs S).bind (kAr2 x) := rfl
theorem kAr2_ok {x : Arg} : kAr2 x (.ok as, S) = some (.ok (x :: as), S) := rfl
theorem argOf_q : argOf S i = (sl S i).bind (kArg i) := rfl
theorem kArg_q : kArg i t = if t.im = true then some (.val t) else some (.pth i []) := rfl
theorem eDisp_q : eDisp k fs S = (fs S).bind (kD1 k) := rfl
theorem kD1_ok : kD1 k (.ok as, S) = (valsOf as).bind (kD2 k S) := rfl
theorem kD2_q : kD2 k S ts = if ts.length ≤ 100000 then some (.ok (.nd k ts), S) else none := rfl
theorem valsOf_nil : valsOf [] = some [] := rfl
def kVl (t : T) (ts : List T) : Option (List T) := some (t :: ts)
theorem valsOf_val : valsOf (.val t :: as) = (valsOf as).bind (kVl t) := rfl
theorem kVl_q : kVl t ts = some (t :: ts) := rfl
theorem eCall_q : eCall m n fs S = (fs S).bind (kCall m n) := rfl
theorem kCall_ok : kCall m n (.ok as, S) = callR m n S as := rfl
theorem callR_q : callR m n S as = if as.length = n then (argTrees S as).bind (kC1 m n S as) else none := rfl
theorem kC1_q : kC1 m n S as ts = (m ts).bind (kC2 n S as) := rfl
theorem kC2_q {r : Rs T} : kC2 n S as (r, ts) = if ts.length = n then some (r, putBack S as ts) else none := rfl
theorem argT_nil : argTrees S [] = some [] := rfl
theorem argT_val : argTrees S (.val t :: as) = (argTrees S as).bind (kVl t) := rfl
def kAT2 (S : TSt) (i : Nat) (as : List Arg) (u : T) : Option (List T) := (argTrees (S.set i none) as).bind (kVl u)
def kAT1 (S : TSt) (i : Nat) (p : List Nat) (as : List Arg) (t : T) : Option (List T) := (tAt p t).bind (kAT2 S i as)
theorem argT_pth {p : List Nat} : argTrees S (.pth i p :: as) = (sl S i).bind (kAT1 S i p as) := rfl
theorem kAT1_q {p : List Nat} : kAT1 S i p as t = (tAt p t).bind (kAT2 S i as) := rfl
theorem kAT2_q : kAT2 S i as t = (argTrees (S.set i none) as).bind (kVl t) := rfl
theorem putB_nil : putBack S [] ts = S := rfl
theorem putB_val : putBack S (.val t :: as) ts = putBack S as ts.tail := rfl
theorem putB_pth {p : List Nat} (h : sl S i = some x) : putBack S (.pth i p :: as) (y :: ts) = (putBack (S.set i none) as ts).set i (some (tPut p x y)) := by
  conv => lhs; unfold putBack
  rw [h]
  rfl
theorem tPut_nil : tPut [] x y = y := rfl
theorem tPut_nd {p : List Nat} : tPut (i :: p) (.nd k ts) y = .nd k (ts.set i (tPut p (ts.getD i .non) y)) := rfl
theorem nTup_q : nTup gs S = (gs S).bind kNT := rfl
theorem kNT_q : kNT as = (valsOf as).bind kNT2 := rfl
theorem kNT2_q : kNT2 ts = gd (ts.length ≤ 100000 ∧ T.imAll ts = true) (.nd .tup ts) := rfl
theorem baNil_q : baNil S = some [] := rfl
theorem baVal_q : baVal g gs S = (g S).bind (kBV gs S) := rfl
theorem kBV_q : kBV gs S t = (gs S).bind (kBV2 t) := rfl
theorem kBV2_q : kBV2 t as = some (.val t :: as) := rfl
theorem baRef_q : baRef i gs S = (argOf S i).bind (kBR gs S) := rfl
theorem kBR_q {x : Arg} : kBR gs S x = (gs S).bind (kBR2 x) := rfl
theorem kBR2_q {x : Arg} : kBR2 x as = some (x :: as) := rfl
theorem mBody_q {N : Nat} : mBody n N s ts = if ts.length = n then (s (ts.map some ++ List.replicate (N - n) none)).bind (kBody n) else none := rfl
theorem kBody_q {fl : Fl} : kBody n (fl, S) = (allSome (S.take n)).bind (kBody2 fl) := rfl
theorem kBody2_nx : kBody2 .nx ts = some (.ok .non, ts) := rfl
theorem kBody2_rt : kBody2 (.rt t) ts = some (.ok t, ts) := rfl
theorem kBody2_ex : kBody2 (.ex c) ts = some (.ex c, ts) := rfl
theorem allS_nil : allSome [] = some [] := rfl
theorem allS_some : allSome (some t :: S) = (allSome S).bind (kVl t) := rfl
theorem imO_t (h : t.im = true) : imO t = some t := if_pos h
theorem imO_int {i : Int} : imO (.int i) = some (.int i) := rfl
theorem imO_str {x : Str} : imO (.str x) = some (.str x) := rfl
theorem imO_bl : imO (.bl b) = some (.bl b) := rfl
theorem imO_non : imO .non = some .non := rfl
theorem im_int {i : Int} : (T.int i).im = true := rfl
theorem im_str {x : Str} : (T.str x).im = true := rfl
theorem im_bl : (T.bl b).im = true := rfl
theorem im_non : T.non.im = true := rfl
theorem im_tup : (T.nd .tup ts).im = T.imAll ts := by simp [T.im]
theorem im_fz : (T.nd .fz ts).im = T.imAll ts := by simp [T.im]
theorem im_lst : (T.nd .lst ts).im = false := by simp [T.im]
theorem im_obj {ns : List Str} : (T.nd (.obj c ns) ts).im = false := by simp [T.im]
theorem imO_tup : imO (.nd .tup ts) = if T.imAll ts = true then some (.nd .tup ts) else none := by unfold imO; rw [im_tup]
theorem imAll_nil : T.imAll [] = true := by simp [T.imAll]
theorem imAll_cons : T.imAll (t :: ts) = (t.im && T.imAll ts) := by simp [T.imAll]
theorem mu_lst : Kd.lst.mu = true := rfl
theorem mu_obj {ns : List Str} : (Kd.obj c ns).mu = true := rfl
/-! operations -/
theorem gd_pos {c : Prop} [Decidable c] (h : c) : gd c t = some t := if_pos h
theorem gd_tr {h : Decidable True} : @gd True h t = some t := if_pos trivial
theorem addT_i {i j : Int} : addT (.int i) (.int j) = some (.int (i + j)) := rfl
theorem subT_i {i j : Int} : subT (.int i) (.int j) = some (.int (i - j)) := rfl
theorem mulT_i {i j : Int} : mulT (.int i) (.int j) = gd ((-18446744073709551616 < i ∧ i < 18446744073709551616) ∨ (-18446744073709551616 < j ∧ j < 18446744073709551616)) (.int (i * j)) := rfl
theorem modT_i {i j : Int} : modT (.int i) (.int j) = gd (0 < j) (.int (i % j)) := rfl
theorem fdivT_i {i j : Int} : fdivT (.int i) (.int j) = gd (0 < j ∧ j < 1073741824) (.int (i / j)) := rfl
theorem powT_i {i j : Int} : powT (.int i) (.int j) = gd (0 ≤ j ∧ j ≤ 1000000 ∧ i.natAbs < 18446744073709551616) (.int (i ^ j.toNat)) := rfl
theorem ltT_i {i j : Int} : ltT (.int i) (.int j) = some (.bl (decide (i < j))) := rfl
theorem leT_i {i j : Int} : leT (.int i) (.int j) = some (.bl (decide (i ≤ j))) := rfl
theorem gtT_i {i j : Int} : gtT (.int i) (.int j) = some (.bl (decide (j < i))) := rfl
theorem geT_i {i j : Int} : geT (.int i) (.int j) = some (.bl (decide (j ≤ i))) := rfl
theorem minT_i {i j : Int} : minT (.int i) (.int j) = some (.int (if j < i then j else i)) := rfl
theorem ixT_lst {i : Int} : ixT (.nd .lst ts) (.int i) = (atI ts i).bind imO := rfl
theorem ixT_fz {i : Int} : ixT (.nd .fz ts) (.int i) = (atI ts i).bind imO := rfl
theorem ixT_tup {i : Int} : ixT (.nd .tup ts) (.int i) = (atI ts i).bind imO := rfl
theorem lenT_lst : lenT (.nd .lst ts) = some (.int (ts.length : Int)) := rfl
theorem lenT_fz : lenT (.nd .fz ts) = some (.int (ts.length : Int)) := rfl
theorem lenT_tup : lenT (.nd .tup ts) = some (.int (ts.length : Int)) := rfl
theorem isT_n : isT t .non = some (.bl t.isN) := rfl
theorem isNotT_n : isNotT t .non = some (.bl (!t.isN)) := rfl
theorem isN_non : T.non.isN = true := rfl
theorem isN_int {i : Int} : (T.int i).isN = false := rfl
theorem isN_nd : (T.nd k ts).isN = false := rfl
theorem isN_str {x : Str} : (T.str x).isN = false := rfl
/-! stores -/
def kM3 (S : TSt) (i : Nat) (p : List Nat) (t0 : T) (ur : T × T) : Option (Fl × TSt) := some (.nx, S.set i (some (tPut p t0 ur.1)))
def kM2 (m : MuF) (t : T) (S : TSt) (i : Nat) (p : List Nat) (t0 u : T) : Option (Fl × TSt) := (m u [t]).bind (kM3 S i p t0)
def kM1 (m : MuF) (t : T) (S : TSt) (i : Nat) (p : List Nat) (t0 : T) : Option (Fl × TSt) := (tAt p t0).bind (kM2 m t S i p t0)
def kM0 (m : MuF) (t : T) (S : TSt) (ip : Nat × List Nat) : Option (Fl × TSt) := (sl S ip.1).bind (kM1 m t S ip.1 ip.2)
def kMu (m : MuF) (pl : PF) : Rs T × TSt → Option (Fl × TSt)
  | (.ex c, S1) => some (.ex c, S1)
  | (.ok t, S1) => (pl S1).bind (kM0 m t S1)
variable {mu : MuF} {p : List Nat} {t0 : T}
theorem sMut_q : sMut mu pl fa S = (fa S).bind (kMu mu pl) := rfl
theorem kMu_ok : kMu mu pl (.ok t, S) = (pl S).bind (kM0 mu t S) := rfl
theorem kM0_q : kM0 mu t S (i, p) = (sl S i).bind (kM1 mu t S i p) := rfl
theorem kM1_q : kM1 mu t S i p t0 = (tAt p t0).bind (kM2 mu t S i p t0) := rfl
theorem kM2_q : kM2 mu t S i p t0 x = (mu x [t]).bind (kM3 S i p t0) := rfl
theorem kM3_q : kM3 S i p t0 (x, y) = some (.nx, S.set i (some (tPut p t0 x))) := rfl
def kI4 (t : T) (S : TSt) (i : Nat) (p : List Nat) (t0 u w : T) : Option (Fl × TSt) := match w with
  | .int k => (setM k u [t]).bind (kM3 S i p t0)
  | _ => none
def kI3 (g : BF) (t : T) (S : TSt) (i : Nat) (p : List Nat) (t0 u : T) : Option (Fl × TSt) := (g S).bind (kI4 t S i p t0 u)
def kI2 (g : BF) (t : T) (S : TSt) (i : Nat) (p : List Nat) (t0 : T) : Option (Fl × TSt) := (tAt p t0).bind (kI3 g t S i p t0)
def kI1 (g : BF) (t : T) (S : TSt) (ip : Nat × List Nat) : Option (Fl × TSt) := (sl S ip.1).bind (kI2 g t S ip.1 ip.2)
def kI0 (pl : PF) (g : BF) : Rs T × TSt → Option (Fl × TSt)
  | (.ex c, S1) => some (.ex c, S1)
  | (.ok t, S1) => (pl S1).bind (kI1 g t S1)
theorem sSetI_q : sSetI pl g fa S = (fa S).bind (kI0 pl g) := rfl
theorem kI0_ok : kI0 pl g (.ok t, S) = (pl S).bind (kI1 g t S) := rfl
theorem kI1_q : kI1 g t S (i, p) = (sl S i).bind (kI2 g t S i p) := rfl
theorem kI2_q : kI2 g t S i p t0 = (tAt p t0).bind (kI3 g t S i p t0) := rfl
theorem kI3_q : kI3 g t S i p t0 x = (g S).bind (kI4 t S i p t0 x) := rfl
theorem kI4_q {k : Int} : kI4 t S i p t0 x (.int k) = (setM k x [t]).bind (kM3 S i p t0) := rfl
def kSM (ts : List T) (t : T) (j : Nat) : Option (T × T) := some (.nd .lst (ts.set j t), .non)
theorem setM_q {k : Int} : setM k (.nd .lst ts) [t] = (ixN ts.length k).bind (kSM ts t) := rfl
theorem kSM_q : kSM ts t j = some (.nd .lst (ts.set j t), .non) := rfl
end
end VT

/-! VTF: reckoning, further: places, methods, loops, lists. -/
namespace VT
open PySem L2
section
variable {f : T → T → Option T} {f1 : T → Option T} {fa fb fc : EF} {ga gb g : BF} {S S1 : TSt} {i j n c : Nat} {s u : SF} {b : Bool} {t x y : T} {pl : PF} {fs : AF} {as : List Arg} {m : MF} {k : Kd} {gs : BAF} {ts : List T} {p : List Nat} {ct : Nat → List Str} {fl : Str} {ns : List Str} {tf : GF} {body : SF} {mu : MuF}
def kF4 (i : Nat) (p : List Nat) (j : Nat) : Option (Nat × List Nat) := some (i, p ++ [j])
def kF3 (ct : Nat → List Str) (f : Str) (i : Nat) (p : List Nat) (u : T) : Option (Nat × List Nat) := match u with
  | .nd (.obj c ns) _ => if (ct c).contains f = true then (ixOf f ns).bind (kF4 i p) else none
  | _ => none
def kF2 (ct : Nat → List Str) (f : Str) (i : Nat) (p : List Nat) (t : T) : Option (Nat × List Nat) := (tAt p t).bind (kF3 ct f i p)
def kF1 (ct : Nat → List Str) (f : Str) (S : TSt) (ip : Nat × List Nat) : Option (Nat × List Nat) := (sl S ip.1).bind (kF2 ct f ip.1 ip.2)
theorem pFld_q : pFld ct fl pl S = (pl S).bind (kF1 ct fl S) := rfl
theorem kF1_q : kF1 ct fl S (i, p) = (sl S i).bind (kF2 ct fl i p) := rfl
theorem kF2_q : kF2 ct fl i p t = (tAt p t).bind (kF3 ct fl i p) := rfl
theorem kF3_q : kF3 ct fl i p (.nd (.obj c ns) ts) = if (ct c).contains fl = true then (ixOf fl ns).bind (kF4 i p) else none := rfl
theorem kF4_q : kF4 i p j = some (i, p ++ [j]) := rfl
def kX3 (i : Nat) (p : List Nat) (u w : T) : Option (Nat × List Nat) := match u, w with
  | .nd .lst ts, .int k => (ixN ts.length k).bind (kF4 i p)
  | _, _ => none
def kX2 (g : BF) (S : TSt) (i : Nat) (p : List Nat) (u : T) : Option (Nat × List Nat) := (g S).bind (kX3 i p u)
def kX1 (g : BF) (S : TSt) (i : Nat) (p : List Nat) (t : T) : Option (Nat × List Nat) := (tAt p t).bind (kX2 g S i p)
def kX0 (g : BF) (S : TSt) (ip : Nat × List Nat) : Option (Nat × List Nat) := (sl S ip.1).bind (kX1 g S ip.1 ip.2)
theorem pIx_q : pIx pl g S = (pl S).bind (kX0 g S) := rfl
theorem kX0_q : kX0 g S (i, p) = (sl S i).bind (kX1 g S i p) := rfl
theorem kX1_q : kX1 g S i p t = (tAt p t).bind (kX2 g S i p) := rfl
theorem kX2_q : kX2 g S i p t = (g S).bind (kX3 i p t) := rfl
theorem kX3_q {q : Int} : kX3 i p (.nd .lst ts) (.int q) = (ixN ts.length q).bind (kF4 i p) := rfl
/-! methods -/
def kMe2 (m : MF) (n i : Nat) : Rs (List Arg) × TSt → Option (Rs T × TSt)
  | (.ex k, S1) => some (.ex k, S1)
  | (.ok as, S1) => callR m n S1 (.pth i [] :: as)
def kMe (m : MF) (n c : Nat) (x : Str) (i : Nat) (fs : AF) (S : TSt) (t : T) : Option (Rs T × TSt) := if isObj c x t = true then (fs S).bind (kMe2 m n i) else none
variable {me : Str}
theorem eMeth_q : eMeth m n c me i fs S = (sl S i).bind (kMe m n c me i fs S) := rfl
theorem kMe_q : kMe m n c me i fs S t = if isObj c me t = true then (fs S).bind (kMe2 m n i) else none := rfl
theorem kMe2_q : kMe2 m n i (.ok as, S) = callR m n S (.pth i [] :: as) := rfl
def kMP3 (m : MF) (n : Nat) (S : TSt) (i : Nat) (p : List Nat) (as : List Arg) : Option (Rs T × TSt) := callR m n S (.pth i p :: as)
def kMP2 (m : MF) (n c : Nat) (x : Str) (gs : BAF) (S : TSt) (i : Nat) (p : List Nat) (u : T) : Option (Rs T × TSt) := if isObj c x u = true then (gs S).bind (kMP3 m n S i p) else none
def kMP1 (m : MF) (n c : Nat) (x : Str) (gs : BAF) (S : TSt) (i : Nat) (p : List Nat) (t : T) : Option (Rs T × TSt) := (tAt p t).bind (kMP2 m n c x gs S i p)
def kMP (m : MF) (n c : Nat) (x : Str) (gs : BAF) (S : TSt) (ip : Nat × List Nat) : Option (Rs T × TSt) := (sl S ip.1).bind (kMP1 m n c x gs S ip.1 ip.2)
theorem eMethP_q : eMethP m n c me pl gs S = (pl S).bind (kMP m n c me gs S) := rfl
theorem kMP_q : kMP m n c me gs S (i, p) = (sl S i).bind (kMP1 m n c me gs S i p) := rfl
theorem kMP1_q : kMP1 m n c me gs S i p t = (tAt p t).bind (kMP2 m n c me gs S i p) := rfl
theorem kMP2_q : kMP2 m n c me gs S i p t = if isObj c me t = true then (gs S).bind (kMP3 m n S i p) else none := rfl
theorem kMP3_q : kMP3 m n S i p as = callR m n S (.pth i p :: as) := rfl
def kPB (o : Option T) (R : TSt) (i : Nat) (p : List Nat) (y : T) : TSt := match o with
  | some x => R.set i (some (tPut p x y))
  | none => R
theorem putB_q : putBack S (.pth i p :: as) (y :: ts) = kPB (sl S i) (putBack (S.set i none) as ts) i p y := by
  conv => lhs; unfold putBack
  cases sl S i <;> rfl
theorem kPB_q : kPB (some x) S i p y = S.set i (some (tPut p x y)) := rfl
def kMk3 (as : List Arg) (S : TSt) (rt : Rs T × List T) : Option (Rs T × TSt) := match rt with
  | (.ok .non, t0 :: ts') => if ts'.length = as.length then some (.ok t0, putBack S as ts') else none
  | _ => none
def kMk2 (m : MF) (c : Nat) (as : List Arg) (S : TSt) (ts : List T) : Option (Rs T × TSt) := (m (.nd (.obj c []) [] :: ts)).bind (kMk3 as S)
def kMk (m : MF) (n c : Nat) : Rs (List Arg) × TSt → Option (Rs T × TSt)
  | (.ex k, S1) => some (.ex k, S1)
  | (.ok as, S1) => if as.length + 1 = n then (argTrees S1 as).bind (kMk2 m c as S1) else none
theorem eMake_q : eMake m n c fs S = (fs S).bind (kMk m n c) := rfl
theorem kMk_q : kMk m n c (.ok as, S) = if as.length + 1 = n then (argTrees S as).bind (kMk2 m c as S) else none := rfl
theorem kMk2_q : kMk2 m c as S ts = (m (.nd (.obj c []) [] :: ts)).bind (kMk3 as S) := rfl
theorem kMk3_q : kMk3 as S (.ok .non, t :: ts) = if ts.length = as.length then some (.ok t, putBack S as ts) else none := rfl
/-! list methods -/
def kLV3 (S : TSt) (i : Nat) (ur : T × T) : Option (Rs T × TSt) := some (.ok ur.2, S.set i (some ur.1))
def kLV2 (m : MuF) (S : TSt) (i : Nat) (u : T) (us : List T) : Option (Rs T × TSt) := (m u us).bind (kLV3 S i)
def kLV1 (m : MuF) (S : TSt) (i : Nat) (as : List Arg) (u : T) : Option (Rs T × TSt) := (valsOf as).bind (kLV2 m S i u)
def kLV (m : MuF) (i : Nat) : Rs (List Arg) × TSt → Option (Rs T × TSt)
  | (.ex c, S1) => some (.ex c, S1)
  | (.ok as, S1) => (sl S1 i).bind (kLV1 m S1 i as)
def kLV0 (m : MuF) (i : Nat) (fs : AF) (S : TSt) (t : T) : Option (Rs T × TSt) := if isLst t = true then (fs S).bind (kLV m i) else none
theorem eMutV_q : eMutV mu i fs S = (sl S i).bind (kLV0 mu i fs S) := rfl
theorem kLV0_q : kLV0 mu i fs S t = if isLst t = true then (fs S).bind (kLV mu i) else none := rfl
theorem kLV_q : kLV mu i (.ok as, S) = (sl S i).bind (kLV1 mu S i as) := rfl
theorem kLV1_q : kLV1 mu S i as t = (valsOf as).bind (kLV2 mu S i t) := rfl
theorem kLV2_q : kLV2 mu S i t ts = (mu t ts).bind (kLV3 S i) := rfl
theorem kLV3_q : kLV3 S i (x, y) = some (.ok y, S.set i (some x)) := rfl
theorem isLst_q : isLst (.nd .lst ts) = true := rfl
def kLP4 (S : TSt) (i : Nat) (p : List Nat) (t : T) (ur : T × T) : Option (Rs T × TSt) := some (.ok ur.2, S.set i (some (tPut p t ur.1)))
def kLP3 (m : MuF) (S : TSt) (i : Nat) (p : List Nat) (t u : T) (us : List T) : Option (Rs T × TSt) := (m u us).bind (kLP4 S i p t)
def kLP2 (m : MuF) (S : TSt) (i : Nat) (p : List Nat) (t u : T) (as : List Arg) : Option (Rs T × TSt) := (valsOf as).bind (kLP3 m S i p t u)
def kLP1 (m : MuF) (gs : BAF) (S : TSt) (i : Nat) (p : List Nat) (t u : T) : Option (Rs T × TSt) := if isLst u = true then (gs S).bind (kLP2 m S i p t u) else none
def kLP0 (m : MuF) (gs : BAF) (S : TSt) (i : Nat) (p : List Nat) (t : T) : Option (Rs T × TSt) := (tAt p t).bind (kLP1 m gs S i p t)
def kLP (m : MuF) (gs : BAF) (S : TSt) (ip : Nat × List Nat) : Option (Rs T × TSt) := (sl S ip.1).bind (kLP0 m gs S ip.1 ip.2)
theorem eMutP_q : eMutP mu pl gs S = (pl S).bind (kLP mu gs S) := rfl
theorem kLP_q : kLP mu gs S (i, p) = (sl S i).bind (kLP0 mu gs S i p) := rfl
theorem kLP0_q : kLP0 mu gs S i p t = (tAt p t).bind (kLP1 mu gs S i p t) := rfl
theorem kLP1_q : kLP1 mu gs S i p t x = if isLst x = true then (gs S).bind (kLP2 mu S i p t x) else none := rfl
theorem kLP2_q : kLP2 mu S i p t x as = (valsOf as).bind (kLP3 mu S i p t x) := rfl
theorem kLP3_q : kLP3 mu S i p t x ts = (mu x ts).bind (kLP4 S i p t) := rfl
theorem kLP4_q : kLP4 S i p t (x, y) = some (.ok y, S.set i (some (tPut p t x))) := rfl
theorem appM_q : appM (.nd .lst ts) [t] = if ts.length < 100000 then some (.nd .lst (ts ++ [t]), .non) else none := rfl
def kPop (ts : List T) (i : Nat) (t : T) : Option (T × T) := some (.nd .lst (ts.eraseIdx i), t)
theorem popM_q {q : Int} : popM (.nd .lst ts) [.int q] = if 0 ≤ q ∧ q < 100000 then (ts[q.toNat]?).bind (kPop ts q.toNat) else none := rfl
theorem kPop_q : kPop ts i t = some (.nd .lst (ts.eraseIdx i), t) := rfl
def kPF (c : Nat) (ns : List Str) (ts : List T) (t : T) (f : Str) : Option Nat → Option (T × T)
  | some j => some (.nd (.obj c ns) (ts.set j t), .non)
  | none => some (.nd (.obj c (ns ++ [f])) (ts ++ [t]), .non)
theorem putFM_q : putFM ct fl (.nd (.obj c ns) ts) [t] = if (ct c).contains fl = true ∧ ns.length < 1000 then kPF c ns ts t fl (ixOf fl ns) else none := by
  unfold putFM
  simp only
  cases ixOf fl ns <;> rfl
theorem kPF_s : kPF c ns ts t fl (some j) = some (.nd (.obj c ns) (ts.set j t), .non) := rfl
theorem kPF_n : kPF c ns ts t fl none = some (.nd (.obj c (ns ++ [fl])) (ts ++ [t]), .non) := rfl
/-! loops -/
def kFR (tf : GF) (body : SF) : Rs T × TSt → Option (Fl × TSt)
  | (.ex c, S1) => some (.ex c, S1)
  | (.ok (.int n), S1) => if 0 ≤ n ∧ n < 100000 then runL tf body (rgT n) S1 else none
  | _ => none
theorem sForR_q : sForR tf fa body S = (fa S).bind (kFR tf body) := rfl
theorem kFR_q {q : Int} : kFR tf body (.ok (.int q), S) = if 0 ≤ q ∧ q < 100000 then runL tf body (rgT q) S else none := rfl
def kFE2 (tf : GF) (body : SF) (S : TSt) (kt : Kd × List T) : Option (Fl × TSt) := runL tf body kt.2 S
def kFE (tf : GF) (body : SF) : Rs T × TSt → Option (Fl × TSt)
  | (.ex c, S1) => some (.ex c, S1)
  | (.ok t, S1) => (seqO t).bind (kFE2 tf body S1)
theorem sForE_q : sForE tf fa body S = (fa S).bind (kFE tf body) := rfl
theorem kFE_q : kFE tf body (.ok t, S) = (seqO t).bind (kFE2 tf body S) := rfl
theorem kFE2_q : kFE2 tf body S (k, ts) = runL tf body ts S := rfl
theorem seqO_lst : seqO (.nd .lst ts) = if T.imAll ts = true then some (.lst, ts) else none := by simp [seqO, isSq]
theorem seqO_fz : seqO (.nd .fz ts) = if T.imAll ts = true then some (.fz, ts) else none := by simp [seqO, isSq]
theorem seqO_tup : seqO (.nd .tup ts) = if T.imAll ts = true then some (.tup, ts) else none := by simp [seqO, isSq]
def kFP4 (i : Nat) (t0 : T) (rx : Fl × TSt) : Option (Fl × TSt) := some (rx.1, rx.2.set i (some t0))
def kFP3 (i : Nat) (tf : GF) (body : SF) (S : TSt) (t0 u : T) (kt : Kd × List T) : Option (Fl × TSt) := if u.im = true then runL tf body kt.2 S else (runL tf body kt.2 (S.set i none)).bind (kFP4 i t0)
def kFP2 (i : Nat) (tf : GF) (body : SF) (S : TSt) (t0 u : T) : Option (Fl × TSt) := (seqO u).bind (kFP3 i tf body S t0 u)
def kFP1 (i : Nat) (tf : GF) (body : SF) (S : TSt) (p : List Nat) (t0 : T) : Option (Fl × TSt) := (tAt p t0).bind (kFP2 i tf body S t0)
def kFP (i : Nat) (tf : GF) (body : SF) (S : TSt) (ip : Nat × List Nat) : Option (Fl × TSt) := if ip.1 = i then (sl S i).bind (kFP1 i tf body S ip.2) else none
theorem sForP_q : sForP i tf pl body S = (pl S).bind (kFP i tf body S) := rfl
theorem kFP_q : kFP i tf body S (j, p) = if j = i then (sl S i).bind (kFP1 i tf body S p) else none := rfl
theorem kFP1_q : kFP1 i tf body S p t = (tAt p t).bind (kFP2 i tf body S t) := rfl
theorem kFP2_q : kFP2 i tf body S t x = (seqO x).bind (kFP3 i tf body S t x) := rfl
theorem kFP3_q : kFP3 i tf body S t x (k, ts) = if x.im = true then runL tf body ts S else (runL tf body ts (S.set i none)).bind (kFP4 i t) := rfl
theorem kFP4_q {fl : Fl} : kFP4 i t (fl, S) = some (fl, S.set i (some t)) := rfl
/-- a loop whose turns change a state X -/
theorem runL_fold {α β : Type} {St : β → TSt} {gx : α → T} {step : β → α → β} : ∀ (xs : List α) (st : β), (∀ st x, x ∈ xs → ∃ S1, tf (gx x) (St st) = some S1 ∧ (body S1 = some (.nx, St (step st x)) ∨ body S1 = some (.ct, St (step st x)))) →
    runL tf body (xs.map gx) (St st) = some (.nx, St (xs.foldl step st))
  | [], st, _ => rfl
  | x :: xs, st, h => by
    obtain ⟨S1, h1, h2⟩ := h st x List.mem_cons_self
    have ih := runL_fold (St := St) (gx := gx) (step := step) xs (step st x) fun st y hy => h st y (List.mem_cons_of_mem _ hy)
    show (tf (gx x) (St st)).bind _ = _
    rw [h1]
    show (body S1).bind _ = _
    rcases h2 with h2 | h2
    · rw [h2]; exact ih
    · rw [h2]; exact ih
/-! comprehensions -/
theorem runC_pure {α : Type} {vs : List Nat} {cond elt : EF} {gx : α → T} {q : α → Bool} {h : α → T} : ∀ (xs : List α) (acc : List T), (∀ x ∈ xs, (gx x).im = true) → (∀ x ∈ xs, wipeS (S.set j (some (gx x))) vs = S) →
    (∀ x ∈ xs, cond (S.set j (some (gx x))) = some (.ok (.bl (q x)), S.set j (some (gx x)))) → (∀ x ∈ xs, q x = true → elt (S.set j (some (gx x))) = some (.ok (h x), S.set j (some (gx x)))) →
    runC j vs cond elt (xs.map gx) S acc = some (acc ++ (xs.filter q).map h, S)
  | [], acc, _, _, _, _ => by simp [runC]
  | x :: xs, acc, h1, h2, h3, h4 => by
    have m := List.mem_cons_self (a := x) (l := xs)
    have ih := fun acc => runC_pure (gx := gx) (q := q) (h := h) xs acc (fun y hy => h1 y (List.mem_cons_of_mem _ hy)) (fun y hy => h2 y (List.mem_cons_of_mem _ hy)) (fun y hy => h3 y (List.mem_cons_of_mem _ hy)) fun y hy => h4 y (List.mem_cons_of_mem _ hy)
    show (tgN j (gx x) S).bind _ = _
    have e1 : tgN j (gx x) S = some (S.set j (some (gx x))) := if_pos (h1 x m)
    rw [e1]
    show (cond (S.set j (some (gx x)))).bind _ = _
    rw [h3 x m]
    cases hq : q x with
    | true =>
      show (elt (S.set j (some (gx x)))).bind _ = _
      rw [h4 x m hq]
      show runC j vs cond elt (xs.map gx) (wipeS (S.set j (some (gx x))) vs) (acc ++ [h x]) = _
      rw [h2 x m, ih, List.filter_cons, if_pos hq, List.map_cons, List.append_assoc]
      rfl
    | false =>
      show runC j vs cond elt (xs.map gx) (wipeS (S.set j (some (gx x))) vs) acc = _
      rw [h2 x m, ih, List.filter_cons, if_neg (by rw [hq]; decide)]
end
end VT

/-! VTG: plain data and their likeness; the law's end. -/
namespace VT
open PySem L2
/-! ### plain data: no truth values, no objects; d: how deep at most -/
mutual
def plT : Nat → T → Bool
  | _, .non => true
  | _, .int _ => true
  | _, .str x => PyData.strOk x
  | d + 1, .nd .tup ts => plAll d ts
  | d + 1, .nd .lst ts => plAll d ts
  | _, _ => false
def plAll : Nat → List T → Bool
  | _, [] => true
  | d, t :: ts => plT d t && plAll d ts
end
theorem pl0 {k : Kd} {us : List T} : plT 0 (.nd k us) = false := by cases k <;> rfl
theorem plAll_iff {d : Nat} : ∀ {ts : List T}, plAll d ts = true ↔ ∀ t ∈ ts, plT d t = true
  | [] => by simp [plAll]
  | t :: ts => by simp [plAll, plAll_iff (ts := ts)]
mutual
theorem pl_lay : ∀ {d : Nat} {t : T}, plT d t = true → (dat t).canLay0 = true ∧ (dat t).depth ≤ d
  | _, .non, _ => by simp [dat, PyData.canLay0, PyData.depth]
  | _, .int _, _ => by simp [dat, PyData.canLay0, PyData.depth]
  | _, .str x, h => by simp [plT] at h; simp [dat, PyData.canLay0, PyData.depth, h]
  | d + 1, .nd .tup ts, h => by
    rw [plT] at h
    obtain ⟨h1, h2⟩ := plAll_lay h
    simp [dat, PyData.canLay0, PyData.depth, h1, h2]
  | d + 1, .nd .lst ts, h => by
    rw [plT] at h
    obtain ⟨h1, h2⟩ := plAll_lay h
    simp [dat, PyData.canLay0, PyData.depth, h1, h2]
theorem plAll_lay : ∀ {d : Nat} {ts : List T}, plAll d ts = true → PyData.canLayAll0 (datAll ts) = true ∧ PyData.depthAll (datAll ts) ≤ d
  | _, [], _ => by simp [datAll, PyData.canLayAll0, PyData.depthAll]
  | d, t :: ts, h => by
    rw [plAll, Bool.and_eq_true] at h
    obtain ⟨a1, a2⟩ := pl_lay h.1
    obtain ⟨b1, b2⟩ := plAll_lay h.2
    simp [datAll, PyData.canLayAll0, PyData.depthAll, a1, b1]
    omega
end
theorem pl_sh {d : Nat} {t : T} (h : plT d t = true) (hd : d ≤ 64) : shT t = true := by
  obtain ⟨a, b⟩ := pl_lay h
  unfold shT SeqAt.shaped
  rw [a, Bool.true_and]
  exact decide_eq_true (by omega)
mutual
theorem pl_eqX : ∀ (d e : Nat) (t u : T), plT d t = true → plT e u = true → (PyData.eqv (dat t) (dat u) = true ↔ t = u)
  | _, _, .non, u, h, g => by
    cases u with
    | nd k us => cases k <;> simp [dat, PyData.eqv]
    | _ => simp [dat, PyData.eqv] <;> simp [plT] at g
  | _, _, .int i, u, h, g => by
    cases u with
    | nd k us => cases k <;> simp [dat, PyData.eqv]
    | bl b => simp [plT] at g
    | _ => simp [dat, PyData.eqv]
  | _, _, .str x, u, h, g => by
    cases u with
    | nd k us => cases k <;> simp [dat, PyData.eqv]
    | bl b => simp [plT] at g
    | _ => simp [dat, PyData.eqv]
  | d + 1, e, .nd .tup ts, u, h, g => by
    cases u with
    | nd k us =>
      cases e with
      | zero => rw [pl0] at g; cases g
      | succ e =>
        cases k with
        | tup =>
          rw [plT] at h g
          have := plAll_eqX _ _ ts us h g
          simp [dat, PyData.eqv, this]
        | lst => simp [dat, PyData.eqv]
        | _ => simp [plT] at g
    | bl b => simp [plT] at g
    | _ => simp [dat, PyData.eqv]
  | d + 1, e, .nd .lst ts, u, h, g => by
    cases u with
    | nd k us =>
      cases e with
      | zero => rw [pl0] at g; cases g
      | succ e =>
        cases k with
        | lst =>
          rw [plT] at h g
          have := plAll_eqX _ _ ts us h g
          simp [dat, PyData.eqv, this]
        | tup => simp [dat, PyData.eqv]
        | _ => simp [plT] at g
    | bl b => simp [plT] at g
    | _ => simp [dat, PyData.eqv]
termination_by _ _ t => sizeOf t
theorem plAll_eqX : ∀ (d e : Nat) (ts us : List T), plAll d ts = true → plAll e us = true → (PyData.eqvAll (datAll ts) (datAll us) = true ↔ ts = us)
  | _, _, [], [], _, _ => by simp [datAll, PyData.eqvAll]
  | _, _, [], _ :: _, _, _ => by simp [datAll, PyData.eqvAll]
  | _, _, _ :: _, [], _, _ => by simp [datAll, PyData.eqvAll]
  | d, e, t :: ts, u :: us, h, g => by
    rw [plAll, Bool.and_eq_true] at h g
    have a := pl_eqX _ _ t u h.1 g.1
    have b := plAll_eqX _ _ ts us h.2 g.2
    simp [datAll, PyData.eqvAll, a, b]
termination_by _ _ ts => sizeOf ts
end
theorem pl_eq {d e : Nat} {t u : T} (h : plT d t = true) (g : plT e u = true) : (PyData.eqv (dat t) (dat u) = true ↔ t = u) := pl_eqX d e t u h g
def teq (a b : T) : Bool := PyData.eqv (dat a) (dat b)
theorem teq_iff {d e : Nat} {a b : T} (h : plT d a = true) (g : plT e b = true) : teq a b = true ↔ a = b := pl_eq h g
theorem teq_self {d : Nat} {a : T} (h : plT d a = true) : teq a a = true := (pl_eq h h).2 rfl
theorem teq_int {a b : Int} : teq (.int a) (.int b) = decide (a = b) := by simp [teq, dat, PyData.eqv]; rfl
theorem teq_str {a b : Str} : teq (.str a) (.str b) = (a == b) := by simp [teq, dat, PyData.eqv]
theorem teq_non : teq .non .non = true := by simp [teq, dat, PyData.eqv]
theorem teq_tnil : teq (.nd .tup []) (.nd .tup []) = true := by simp [teq, dat, datAll, PyData.eqv, PyData.eqvAll]
theorem teq_tcons {a b : T} {as bs : List T} : teq (.nd .tup (a :: as)) (.nd .tup (b :: bs)) = (teq a b && teq (.nd .tup as) (.nd .tup bs)) := by simp [teq, dat, datAll, PyData.eqv, PyData.eqvAll]
theorem eqT_pl {a b : T} (h : plT 8 a = true) (g : plT 8 b = true) : eqT a b = some (.bl (teq a b)) := gd_pos ⟨pl_sh h (by decide), pl_sh g (by decide)⟩
theorem neT_pl {a b : T} (h : plT 8 a = true) (g : plT 8 b = true) : neT a b = some (.bl (!teq a b)) := gd_pos ⟨pl_sh h (by decide), pl_sh g (by decide)⟩
theorem eqT_ii {a b : Int} : eqT (.int a) (.int b) = some (.bl (decide (a = b))) := by rw [eqT_pl rfl rfl, teq_int]
theorem neT_ii {a b : Int} : neT (.int a) (.int b) = some (.bl (!decide (a = b))) := by rw [neT_pl rfl rfl, teq_int]
theorem eqT_self {a : T} (h : plT 8 a = true) : eqT a a = some (.bl true) := by rw [eqT_pl h h, teq_self h]
theorem neT_self {a : T} (h : plT 8 a = true) : neT a a = some (.bl false) := by rw [neT_pl h h, teq_self h]; rfl
theorem pl_map {α : Type} {g : α → T} {d : Nat} (h : ∀ a, plT d (g a) = true) (l : List α) : plAll d (l.map g) = true := plAll_iff.mpr fun t ht => by
  obtain ⟨a, _, rfl⟩ := List.mem_map.mp ht
  exact h a
theorem pl_ints {d : Nat} (l : List Int) : plAll d (l.map T.int) = true := pl_map (fun _ => by cases d <;> rfl) l
theorem im_map {α : Type} {g : α → T} (h : ∀ a, (g a).im = true) (l : List α) : T.imAll (l.map g) = true := imAll_mem.mpr fun t ht => by
  obtain ⟨a, _, rfl⟩ := List.mem_map.mp ht
  exact h a
theorem im_ints (l : List Int) : T.imAll (l.map T.int) = true := im_map (fun _ => rfl) l
theorem inT_ints {i : Int} {l : List Int} : inT (.int i) (.nd .lst (l.map .int)) = some (.bl (l.contains i)) := by
  unfold inT inO
  simp only
  have e1 : shT (.int i) = true := pl_sh (d := 0) rfl (by decide)
  have e2 : shT (.nd .lst (l.map .int)) = true := pl_sh (d := 1) (by rw [plT]; exact pl_ints l) (by decide)
  rw [if_pos ⟨e1, e2⟩]
  show some (T.bl _) = _
  congr 2
  unfold inB
  rw [List.any_map]
  induction l with
  | nil => rfl
  | cons a l ih =>
    rw [List.any_cons, List.contains_cons, ih (pl_sh (d := 1) (by rw [plT]; exact pl_ints l) (by decide))]
    congr 1
    show PyData.eqv (dat (.int a)) (dat (.int i)) = _
    simp [dat, PyData.eqv]
    by_cases h : a = i
    · simp [h]
    · have h' : (i == a) = false := by simpa using Ne.symm h
      simpa [h'] using h
theorem notInT_ints {i : Int} {l : List Int} : notInT (.int i) (.nd .lst (l.map .int)) = some (.bl (!l.contains i)) := by
  have h := inT_ints (i := i) (l := l)
  unfold inT at h
  unfold notInT
  cases e : inO (.int i) (.nd .lst (l.map .int)) with
  | none => rw [e] at h; cases h
  | some b =>
    rw [e] at h
    injection h with h
    injection h with h
    rw [← h]
    rfl
theorem remM_mid {α : Type} {g : α → T} (hp : ∀ a, plT 8 (g a) = true) (inj : ∀ a b, g a = g b → a = b) {A B : List α} {x : α} (hn : x ∉ A) (hl : (A ++ x :: B).length ≤ 100000) :
    remM (.nd .lst ((A ++ x :: B).map g)) [g x] = some (.nd .lst ((A ++ B).map g), .non) := by
  unfold remM
  simp only
  have c1 : ((A ++ x :: B).map g).length ≤ 100000 := by rw [List.length_map]; exact hl
  have c2 := (plAll_lay (pl_map hp (A ++ x :: B))).1
  rw [if_pos ⟨c1, c2, pl_sh (hp x) (by decide)⟩]
  have e : SeqAt.dataPlace (datAll ((A ++ x :: B).map g)) (dat (g x)) = some A.length := by
    unfold SeqAt.dataPlace
    rw [datAll_map, List.map_map, List.findIdx?_map]
    rw [List.findIdx?_append]
    have n : A.findIdx? ((fun y => PyData.eqv y (dat (g x))) ∘ dat ∘ g) = none := by
      rw [List.findIdx?_eq_none_iff]
      intro a ha
      have := pl_eq (hp a) (hp x)
      show PyData.eqv (dat (g a)) (dat (g x)) = false
      cases h : PyData.eqv (dat (g a)) (dat (g x)) with
      | false => rfl
      | true => exact absurd (inj _ _ (this.mp h) ▸ ha) hn
    have y : PyData.eqv (dat (g x)) (dat (g x)) = true := (pl_eq (hp x) (hp x)).2 rfl
    rw [n]
    simp [List.findIdx?_cons, y]
  rw [e]
  show some (T.nd .lst _, T.non) = _
  congr 3
  rw [List.map_append, List.map_append, List.map_cons, List.eraseIdx_append_of_length_le (by simp)]
  simp
/-! ### loops -/
section
variable {tf : GF} {body : SF} {S : TSt} {ts : List T} {t : T} {i : Nat} {fl : Fl}
def kL2 (tf : GF) (body : SF) (ts : List T) : Fl × TSt → Option (Fl × TSt)
  | (.nx, S2) => runL tf body ts S2
  | (.ct, S2) => runL tf body ts S2
  | (.bk, S2) => some (.nx, S2)
  | (fl, S2) => some (fl, S2)
def kL1 (tf : GF) (body : SF) (ts : List T) (S1 : TSt) : Option (Fl × TSt) := (body S1).bind (kL2 tf body ts)
theorem runL_nil : runL tf body [] S = some (.nx, S) := rfl
theorem runL_cons : runL tf body (t :: ts) S = (tf t S).bind (kL1 tf body ts) := rfl
theorem kL1_q : kL1 tf body ts S = (body S).bind (kL2 tf body ts) := rfl
theorem kL2_nx : kL2 tf body ts (.nx, S) = runL tf body ts S := rfl
theorem kL2_ct : kL2 tf body ts (.ct, S) = runL tf body ts S := rfl
theorem kL2_bk : kL2 tf body ts (.bk, S) = some (.nx, S) := rfl
theorem kL2_rt : kL2 tf body ts (.rt t, S) = some (.rt t, S) := rfl
theorem tgN_q : tgN i t S = if t.im = true then some (S.set i (some t)) else none := rfl
theorem runL_inv {I : Nat → TSt → Prop} : ∀ (ts : List T) (S : TSt), I ts.length S → (∀ n t S, t ∈ ts → I (n + 1) S → ∃ S1 S2, tf t S = some S1 ∧ body S1 = some (.nx, S2) ∧ I n S2) → ∃ S', runL tf body ts S = some (.nx, S') ∧ I 0 S'
  | [], S, h, _ => ⟨S, rfl, h⟩
  | t :: ts, S, h, k => by
    obtain ⟨S1, S2, e1, e2, h2⟩ := k ts.length t S List.mem_cons_self h
    obtain ⟨S', e3, h3⟩ := runL_inv (I := I) ts S2 h2 fun n u S hu => k n u S (List.mem_cons_of_mem _ hu)
    exact ⟨S', by rw [runL_cons, e1, Option.bind_some, kL1_q, e2, Option.bind_some, kL2_nx, e3], h3⟩
/-! comprehensions -/
variable {j : Nat} {vs : List Nat} {cond elt fa : EF} {pl : PF} {p : List Nat} {u : T} {k : Kd}
def kLc (vs : List Nat) (r : List T × TSt) : Option (Rs T × TSt) := some (.ok (.nd .lst r.1), wipeS r.2 vs)
theorem lcFrom_q : eLcFrom j vs cond elt ts S = if ts.length < 100000 then (runC j vs cond elt ts (wipeS S vs) []).bind (kLc vs) else none := rfl
theorem kLc_q : kLc vs (ts, S) = some (.ok (.nd .lst ts), wipeS S vs) := rfl
def kLcE (S : TSt) (vs : List Nat) (x : Rs T × TSt) : Option (Rs T × TSt) := some (x.1, restS S x.2 vs)
theorem lcEnd_q {o : Option (Rs T × TSt)} : lcEnd vs S o = o.bind (kLcE S vs) := rfl
theorem kLcE_q {r : Rs T} {S' : TSt} : kLcE S vs (r, S') = some (r, restS S S' vs) := rfl
def kLP5 (i : Nat) (t0 : T) (x : Rs T × TSt) : Option (Rs T × TSt) := some (x.1, x.2.set i (some t0))
def kLcP3 (i j : Nat) (vs : List Nat) (cond elt : EF) (S : TSt) (t0 u : T) (kt : Kd × List T) : Option (Rs T × TSt) := if u.im = true then lcEnd vs S (eLcFrom j vs cond elt kt.2 S)
  else (lcEnd vs (S.set i none) (eLcFrom j vs cond elt kt.2 (S.set i none))).bind (kLP5 i t0)
def kLcP2 (i j : Nat) (vs : List Nat) (cond elt : EF) (S : TSt) (t0 u : T) : Option (Rs T × TSt) := (seqO u).bind (kLcP3 i j vs cond elt S t0 u)
def kLcP1 (i j : Nat) (vs : List Nat) (cond elt : EF) (S : TSt) (p : List Nat) (t0 : T) : Option (Rs T × TSt) := (tAt p t0).bind (kLcP2 i j vs cond elt S t0)
def kLcP (i j : Nat) (vs : List Nat) (cond elt : EF) (S : TSt) (ip : Nat × List Nat) : Option (Rs T × TSt) := if ip.1 = i then (sl S i).bind (kLcP1 i j vs cond elt S ip.2) else none
theorem eLcP_q : eLcP i j vs pl cond elt S = (pl S).bind (kLcP i j vs cond elt S) := rfl
theorem kLcP_q {i' : Nat} : kLcP i j vs cond elt S (i', p) = if i' = i then (sl S i).bind (kLcP1 i j vs cond elt S p) else none := rfl
theorem kLcP1_q : kLcP1 i j vs cond elt S p t = (tAt p t).bind (kLcP2 i j vs cond elt S t) := rfl
theorem kLcP2_q : kLcP2 i j vs cond elt S t u = (seqO u).bind (kLcP3 i j vs cond elt S t u) := rfl
theorem kLcP3_q : kLcP3 i j vs cond elt S t u (k, ts) = if u.im = true then lcEnd vs S (eLcFrom j vs cond elt ts S) else (lcEnd vs (S.set i none) (eLcFrom j vs cond elt ts (S.set i none))).bind (kLP5 i t) := rfl
theorem kLP5_q {r : Rs T} : kLP5 i t (r, S) = some (r, S.set i (some t)) := rfl
theorem wipeS_nil : wipeS S [] = S := rfl
theorem wipeS_cons : wipeS S (i :: vs) = (wipeS S vs).set i none := rfl
def kRs (R : TSt) (v : Nat) : Option T → TSt
  | some t => if t.im = true then R.set v (some t) else R
  | none => R
theorem restS_nil {S' : TSt} : restS S S' [] = S' := rfl
theorem restS_cons {S' : TSt} : restS S S' (i :: vs) = kRs (restS S S' vs) i (sl S i) := by
  conv => lhs; unfold restS
  cases sl S i <;> rfl
theorem kRs_n : kRs S i none = S := rfl
theorem kRs_s : kRs S i (some t) = if t.im = true then S.set i (some t) else S := rfl
/-! sequences -/
theorem listT_lst : listT (.nd .lst ts) = if T.imAll ts = true then some (.nd .lst ts) else none := by simp [listT, isSq]
theorem listT_fz : listT (.nd .fz ts) = if T.imAll ts = true then some (.nd .lst ts) else none := by simp [listT, isSq]
theorem listT_tup : listT (.nd .tup ts) = if T.imAll ts = true then some (.nd .lst ts) else none := by simp [listT, isSq]
theorem slT_lst {lo hi : Option Int} : slT lo hi (.nd .lst ts) = if T.imAll ts = true then some (.nd .lst (cutT ts lo hi)) else none := rfl
theorem isi_ii {i : Int} : isiT "int" (.int i) = some (.bl true) := rfl
theorem isi_ib {i : Int} : isiT "bool" (.int i) = some (.bl false) := rfl
theorem isi_ll : isiT "list" (.nd .lst ts) = some (.bl true) := rfl
end
/-! ### the law's end -/
def spL (n : Nat) (K : PySem.W.Frag) : Sp := fun vs H Q _ => ∃ (a : Addr) (ns : List Int), vs = [.ref a] ∧ ns.length ≤ n ∧ Only H ∧ SqL K H a (ns.map V.int) ∧ ∀ H', Q (.bl true) H'
theorem spL_sp {Γ : Gx} {m : MF} {n : Nat} (h : ∀ ns : List Int, ns.length ≤ n → ∃ ts', m [.nd .fz (ns.map T.int)] = some (.ok (.bl true), ts')) {vs : List V} {H : Hp} {Q : VK} {E : XK} (q : spL n Γ.K vs H Q E) :
    spT Γ 1 m vs H Q E := by
  obtain ⟨a, ns, rfl, hl, hO, hS, k⟩ := q
  obtain ⟨ts', e⟩ := h ns hl
  have R0 : RoL Γ.K H a (ns.map V.int) := by
    rcases hS with hS | hS
    · rcases hS with hS | ⟨o, hS⟩
      · rcases hO a with h0 | ⟨o, xs, h0⟩
        · rw [h0] at hS; cases hS
        · rw [h0] at hS; cases hS
      · exact .inl ⟨o, hS⟩
    · exact .inr fun H' => .inr hS
  refine ⟨[.nd .fz (ns.map T.int)], FE, .ok (.bl true), ts', rfl, ⟨rfl, fun i v e => ?_, ⟨fun _ => FE, fun i t e => ?_, fun _ _ _ _ z _ => z, fun _ _ z => z⟩, fun _ z => z.elim⟩, e, fun v H' F' G _ r _ _ _ => by cases r; exact k H'⟩
  · have z : [V.ref a][i]? = some v := e
    show ([V.ref a].map some)[i]? = _
    rw [List.getElem?_map, z]
    rfl
  · cases i with
    | zero =>
      have et : t = .nd .fz (ns.map T.int) := by simpa using e.symm
      subst et
      refine ⟨.ref a, rfl, .nd (Fs := fun _ => FE) R0 (by simp) (fun z => nomatch z) (fun i v t e1 e2 => ?_) (fun _ _ _ _ z _ => z) fun _ _ z => z⟩
      rw [List.getElem?_map] at e1 e2
      cases en : ns[i]? with
      | none => rw [en] at e1; cases e1
      | some z =>
        rw [en] at e1 e2
        cases e1
        cases e2
        exact .int z
    | succ i => simp at e
end VT

/-! VTH: a comprehension, a call, isinstance where an exception is handled. -/
namespace VT
open PySem PySem.Spec PyProof.Rows L2 L2H HotX
/-- a block's context that still bears the handled exception p -/
abbrev blkP (X : Cx) (p : Addr × Obj) (s : Shared) (H : Hp) (scope : Scope) (ce : Env) (fp : List Addr) : Cx := { X.blk s H scope ce fp with pn := [p] }
section
variable {X : Cx}
theorem addPin {Y : Cx} {pr : Addr × Obj} {σ : L2.St} {H : Hp} {s : Shared} (J : Inv { Y with pn := [] } [] σ H s) (hp : s.heap.get? pr.1 = some pr.2 ∧ H pr.1 = none ∧ pr.1 ≠ Y.env.locals ∧ pr.1 ∉ Y.fs ∧ ∀ v, pr.2.data ≠ .cell v) : Inv { Y with pn := [pr] } [] σ H s :=
  ⟨⟨J.ok.mod, J.ok.kind, J.ok.glob, J.ok.blt, J.ok.above, J.ok.inj, J.ok.has, J.ok.cab, J.ok.hd, J.ok.frames, J.ok.stk, J.ok.exf, J.ok.bs, J.ok.bsz, J.ok.noex, J.ok.exfs, J.ok.funs, J.ok.frf⟩, J.os, J.bare, J.base, J.loc, J.cell, J.free, J.freeC, fun q hq => by
    have e : q = pr := by simpa using hq
    rw [e]
    exact hp, J.hok, J.len⟩
theorem hot_lc {pins : List (Addr × Obj)} {s : Shared} {σ : L2.St} {H : Hp} {Q : VK} {elt tg iter : Expr} {ifs : List Expr} {scope : Scope} {own : List (Str × Nat)} {ps1 ps2 : Pos} {wi : TI} {g : TG} {tt : TT} {te : TE} {use : Option (Value → Sem Unit)} {Qf : Value → Shared → Prop}
    (hc : HotC X) (hN : X.N.Nodup) (I : Inv X pins σ H s) (hi : PIH X tg iter wi) (ok : BlkOk X.N X.env.scope scope own)
    (hg : ∀ (p : Addr × Obj) (s : Shared) (H : Hp) (C : Addr) (cl : List (Str × Addr)) (fp : List Addr), PG (blkP X p s H scope (compEnvC scope cl C X.env) fp) tg g)
    (ht : ∀ (p : Addr × Obj) (s : Shared) (H : Hp) (C : Addr) (cl : List (Str × Addr)) (fp : List Addr), PTs (blkP X p s H scope (compEnvC scope cl C X.env) fp) ifs tt)
    (he : ∀ (p : Addr × Obj) (s : Shared) (H : Hp) (C : Addr) (cl : List (Str × Addr)) (fp : List Addr), PE (blkP X p s H scope (compEnvC scope cl C X.env) fp) elt te) (hs : ∀ x, foldedSetIterable iter X.env x = pure x)
    (h : tLc wi g tt te (own.map (·.2)) σ H Q)
    (hRR : ∀ D C s' m H', Inv X pins σ H' s' → Q (.ref D) H' → s'.heap.Ns C m → FpOk X pins H' C → compPost (model X.prog X.w) X.A X.xe use Qf (.ref D) C (.ok .next) s') :
    wpAny (model X.prog X.w) X.A (comprehension (.ListComp elt [⟨tg, iter, ifs, 0⟩] scope ps1) scope X.env ps2 (newList []) false (eval iter X.env) use) Qf X.xe s := by
  have fr0 : ∀ y ∈ scope.names, y.2 = .free → ∃ c, X.env.cells.lookup y.1 = some c := fun y hy e => (ok.free y hy e).elim (fun k => I.ok.has _ (.inl k)) fun k => I.ok.has _ (.inr k)
  obtain ⟨p, hot, hp⟩ := hc
  refine wpAny_comprehension_free (use := use) rfl hs (closure_ok fr0) ok.kind (fun y hy z => by rw [ok.uniq y hy, z]) (thn (hi.run pins s σ H _ I h) fun _ sa hx => thn hx fun iv sb hb => ?_)
  obtain ⟨it, fp, tn, J, Hb, rfl, Ib, T, stb, fb, q⟩ := hb
  refine wpAny_newObj_type (newEnv_comp ?_) (by show 0 ≤ sizeLine; decide)
  generalize eD : sb.heap.objs.size = D
  have nD : Hb D = none := Ib.hok.fresh (Nat.le_of_eq eD)
  obtain ⟨Wt, ⟨m0, w0⟩, turn⟩ := q D nD
  generalize esc : ({ sb with heap := sb.heap.push { cls := .type "list", data := .seq ([] : List Value).toArray } } : Shared) = sc
  have Ic : Inv X pins σ (upd Hb D (.lst [])) sc := by
    rw [← esc]
    refine Ib.laid (t' := sb.toks) (fun b o z => Heap.get?_push_of_some _ z) (Nat.le_of_eq eD) ⟨Nat.zero_le _, [], 0, .nil, ?_⟩
    rw [← eD]
    exact Heap.get?_push_size _ rfl
  have hc3 : sc.heap = sb.heap.push { cls := .type "list", data := .seq ([] : List Value).toArray } := by rw [← esc]
  have below : ∀ b ∈ fp, b < sb.heap.objs.size := fun b hb => by
    obtain ⟨o, z, _⟩ := T.obj _ _ stb b hb
    exact Heap.lt_size z
  have fc : ∀ b ∈ fp, FpOk X pins (upd Hb D (.lst [])) b ∧ b < sc.heap.objs.size := fun b hb => by
    have lt := below b hb
    refine ⟨⟨?_, (fb b hb).2⟩, by rw [hc3, Heap.size_push]; exact Nat.lt_succ_of_lt lt⟩
    rw [upd_ne (by rw [← eD]; exact Nat.ne_of_lt lt)]
    exact (fb b hb).1
  have stc : tn 0 sc.heap := T.keep _ _ _ stb fun b _ o z => by rw [hc3]; exact Heap.get?_push_of_some _ z
  have Id0 := block_start Ic ok hN fc
  have pg := hg p sc (upd Hb D (.lst [])) sc.heap.objs.size (cellsFrom (sc.heap.objs.size + 1) scope.names (cloFrom X.env.cells scope.names [])) fp
  have pt := ht p sc (upd Hb D (.lst [])) sc.heap.objs.size (cellsFrom (sc.heap.objs.size + 1) scope.names (cloFrom X.env.cells scope.names [])) fp
  have pe := he p sc (upd Hb D (.lst [])) sc.heap.objs.size (cellsFrom (sc.heap.objs.size + 1) scope.names (cloFrom X.env.cells scope.names [])) fp
  have PP := Ic.pin p (List.mem_append_left _ hp)
  have ePn : ∀ b ∈ fp, p.1 ≠ b := fun b hb => (fc b hb).1.2.2.2.2.2 p (List.mem_append_left _ hp)
  show codeAny _ _ (.compStart (.ListComp elt [⟨tg, iter, ifs, 0⟩] scope ps1) 0 (.ref it) (.ref D) (compEnvC scope (cellsFrom (sc.heap.objs.size + 1) scope.names (cloFrom X.env.cells scope.names [])) sc.heap.objs.size X.env)) (compPost (model X.prog X.w) X.A X.xe use Qf (.ref D) sc.heap.objs.size) { sc with heap := pushCells (sc.heap.push { cls := .type "dict", data := .dict #[] }) scope.names }
  have nfp : ∀ b ∈ fp, (upd Hb D (.lst [])) b = none := fun b hb => (fc b hb).1.1
  generalize ece : compEnvC scope (cellsFrom (sc.heap.objs.size + 1) scope.names (cloFrom X.env.cells scope.names [])) sc.heap.objs.size X.env = ce at Id0 pg pt pe ⊢
  have cL : ce.locals = sc.heap.objs.size := by subst ece; rfl
  generalize eHc : upd Hb D (.lst []) = Hc at Ic Id0 pg pt pe w0 nfp fc PP
  generalize esd : ({ sc with heap := pushCells (sc.heap.push { cls := .type "dict", data := .dict #[] }) scope.names } : Shared) = sd at Id0 ⊢
  have Id : Inv (blkP X p sc Hc scope ce fp) [] (wipe σ (own.map (·.2))) Hc sd := by
    refine addPin (Y := X.blk sc Hc scope ce fp) Id0 ⟨?_, PP.2.1, ?_, fun z => (List.mem_cons.mp (Ic.stkSub p.1 z)).elim PP.2.2.1 PP.2.2.2.1, PP.2.2.2.2⟩
    · rw [← esd]
      exact pushCells_keeps _ _ _ _ (Heap.get?_push_of_some _ PP.1)
    · show p.1 ≠ ce.locals
      rw [cL]
      exact Nat.ne_of_lt (Heap.lt_size PP.1)
  have hotB : HotC (blkP X p sc Hc scope ce fp) := ⟨p, hot, List.mem_cons_self⟩
  have std : tn 0 sd.heap := T.keep _ _ _ stc fun b _ o z => by rw [← esd]; exact pushCells_keeps _ _ _ _ (Heap.get?_push_of_some _ z)
  have stat : ∀ {σ' : L2.St} {H' : Hp} {s' : Shared}, Inv (blkP X p sc Hc scope ce fp) [] σ' H' s' → (∀ b ∈ fp, H' b = none) → ∀ b ∈ fp, FpOk (blkP X p sc Hc scope ce fp) [] H' b := fun {σ' H' s'} I' hn b hb =>
    ⟨hn b hb, (I'.ok.exf b hb).1, I'.ok.exfs b hb, .inl hb, fun x c z => (I'.ok.exf b hb).2 x c z, fun r hr => by
      have z : r = p := by simpa using hr
      rw [z]
      exact ePn b hb⟩
  have loop : codeAny (model X.prog X.w) X.A (.compLoop (.ListComp elt [⟨tg, iter, ifs, 0⟩] scope ps1) 0 (.ref it) (.ref D) ce) (compPost (model X.prog X.w) X.A X.xe use Qf (.ref D) sc.heap.objs.size) sd := by
    refine compLoop_any (fun n s' => ∃ i H', Inv (blkP X p sc Hc scope ce fp) [] (wipe σ (own.map (·.2))) H' s' ∧ tn i s'.heap ∧ (∀ b ∈ fp, H' b = none) ∧ Wt i n H') ?_ m0 ⟨0, Hc, Id, std, nfp, w0⟩
    rintro n se ⟨i, He, Ie, ste, ne, we⟩
    rcases turn i n He we with ⟨stop, qq⟩ | ⟨go, Nx, hNx, step⟩
    · refine thnF (T.done (blkP X p sc Hc scope ce fp) rfl rfl rfl hotB i [] se _ He (fun _ _ => False) Ie (stat Ie ne) ste stop) fun r sf ⟨hr, If⟩ => ?_
      subst hr
      have Ig : Inv X pins σ He sf := Ic.call' (ch := fp) If.os If.base If.hok If.bare fun b hb => ⟨(fc b hb).1.2.2.2.1, (fc b hb).1.2.1, (fc b hb).1.2.2.2.2.1, (fc b hb).1.2.2.2.2.2⟩
      have nC : He sc.heap.objs.size = none := by
        have z : He ce.locals = none := If.free
        rwa [cL] at z
      obtain ⟨m, hn, _⟩ := If.loc
      have hn' : sf.heap.Ns ce.locals m := hn
      rw [cL] at hn'
      exact hRR D sc.heap.objs.size sf m He Ig qq hn' (Ic.fpOk (Nat.le_refl _) nC)
    · refine thnF (T.item (blkP X p sc Hc scope ce fp) rfl rfl rfl hotB i [] se _ He (fun _ _ => False) Ie (stat Ie ne) ste go) fun r sf ⟨u, hr, hf⟩ => ?_
      subst hr
      refine thnF hf fun _ sg ⟨x, Hg, Ig, rg, yg, stg, ng⟩ => ?_
      have Ig' := Ig.pinned (stat Ig ng) (T.obj _ _ stg)
      refine thnF (pg.run _ sg _ Hg x u _ Ig' rg (step x Hg yg)) fun _ sh ⟨σh, Hh, Ih, hwh, qh⟩ => ?_
      refine thnF (pt.run _ sh σh Hh _ Ih qh) fun b si ⟨Hi, Ii, qi⟩ => ?_
      have fin : ∀ {s' : Shared} {H' : Hp}, Inv (blkP X p sc Hc scope ce fp) ([] ++ pinsAt fp sg.heap) σh H' s' → Nx H' → ∃ m, m < n ∧ ∃ i H', Inv (blkP X p sc Hc scope ce fp) [] (wipe σ (own.map (·.2))) H' s' ∧ tn i s'.heap ∧ (∀ b ∈ fp, H' b = none) ∧ Wt i m H' := fun {s' H'} I' nx => by
        obtain ⟨m', hm, w'⟩ := hNx H' nx
        have kept : ∀ b ∈ fp, ∀ o, sg.heap.get? b = some o → s'.heap.get? b = some o ∧ H' b = none := fun b hb o z => by
          have y := I'.pin (b, o) (List.mem_append_right _ (List.mem_append_right _ (mem_pinsAt hb z)))
          exact ⟨y.1, y.2.1⟩
        refine ⟨m', hm, i + 1, H', (I'.unpinned (pins := [])).weak (by rw [← hwh, wipe_length]) (fun j v z => ?_), T.keep _ _ _ stg fun b hb o z => (kept b hb o z).1, fun b hb => ?_, w'⟩
        · rw [← hwh] at z
          exact (wipe_some z).1
        · obtain ⟨o, z, _⟩ := T.obj _ _ stg b hb
          exact (kept b hb o z).2
      cases b with
      | false => exact fin Ii qi
      | true => exact thnF (pe.run _ si σh Hi _ Ii qi) fun z sj ⟨yv, Hj, Ij, rj, acc, hDj, hzj, nx⟩ => app_ok (X := blkP X p sc Hc scope ce fp) Ij hDj hzj rj fun sk Ik => fin Ik nx
  exact codeAny_compStart_list loop (T.self X.A 0 _ _ _ std loop)
theorem pe_lcH {elt tg iter : Expr} {ifs : List Expr} {scope : Scope} {own : List (Str × Nat)} {ps1 : Pos} {wi : TI} {g : TG} {tt : TT} {te : TE} (hc : HotC X) (hN : X.N.Nodup) (hi : PIH X tg iter wi) (ok : BlkOk X.N X.env.scope scope own)
    (hg : ∀ (p : Addr × Obj) (s : Shared) (H : Hp) (C : Addr) (cl : List (Str × Addr)) (fp : List Addr), PG (blkP X p s H scope (compEnvC scope cl C X.env) fp) tg g)
    (ht : ∀ (p : Addr × Obj) (s : Shared) (H : Hp) (C : Addr) (cl : List (Str × Addr)) (fp : List Addr), PTs (blkP X p s H scope (compEnvC scope cl C X.env) fp) ifs tt)
    (he : ∀ (p : Addr × Obj) (s : Shared) (H : Hp) (C : Addr) (cl : List (Str × Addr)) (fp : List Addr), PE (blkP X p s H scope (compEnvC scope cl C X.env) fp) elt te) (hs : ∀ x, foldedSetIterable iter X.env x = pure x := by intro _; rfl) :
    PE X (.ListComp elt [⟨tg, iter, ifs, 0⟩] scope ps1) (tLc wi g tt te (own.map (·.2))) := by
  refine ⟨fun pins s σ H Q I h => ?_⟩
  rw [eval_ListComp]
  refine hot_lc hc hN I hi ok hg ht he hs h fun D C s' m H' J q hn f => ⟨m, hn, fun hh sub => ?_⟩
  obtain ⟨f0, f1, f2, f3, f4, f5⟩ := f
  exact ⟨.ref D, H', J.turned (t' := s'.toks) (fun b o hb z => (sub.2 b hb).trans z) f0 f1 f3 f4 f5, rfl, q⟩
/-- isinstance(e, c), e's object stands in the context -/
theorem call_isP {a D : Addr} {oe : Obj} (C : ExcC X.K D) (hz : Zc (.ref D) none oe) (hf : ∃ vs, oe.data = .fields vs) (hp : (a, oe) ∈ X.pn) : CallR X (.builtin "isinstance") (rIsE X.K D a) := by
  intro pins s σ H xs us Q I r q
  obtain ⟨c, cv, b, rfl, one, e, k⟩ := q
  cases r with
  | cons ra rr =>
    cases rr with
    | cons rt rr =>
      cases rr
      cases ra
      have ec := one _ rt
      subst ec
      have there := (I.pin (a, oe) (List.mem_append_left _ hp)).1
      obtain ⟨vs, hv⟩ := hf
      have J : PySem.W.InstAt s.heap a oe D none := by
        obtain ⟨x1, x2, x3, x4⟩ := oe
        obtain ⟨z1, z2⟩ := hz
        dsimp only at z1 z2 hv
        subst z1 z2 hv
        exact ⟨there, rfl, rfl, trivial⟩
      exact PySem.W.kia_one (PySem.W.handS_kitx_exc C.hg C.hk C.hs C.hd C.ha C.hn C.ht C.hm) I.kIn J e (fun z => nomatch z) fun tk => ⟨.bl b, H, I.kept (t' := tk) fun _ _ z => z, rfl, k⟩
end
end VT

/-! VTI: join; a def that is told the caught error; try. -/
namespace VT
open PySem PySem.Spec PyProof.Rows L2 L2H HotX
variable {Γ : Gx}
/-! ### join -/
def strsOf : List T → Option (List Str)
  | [] => some []
  | .str x :: ts => (strsOf ts).bind fun l => some (x :: l)
  | _ :: _ => none
def joinT (a : Str) : T → Option T
  | .nd k ts => if isSq k = true then (strsOf ts).bind fun ys => if (ys.map (·.length)).sum + ys.length * a.length ≤ 16777216 then some (.str (Txt.join a ys)) else none else none
  | _ => none
theorem strsOf_get {H : Hp} {G : FP} : ∀ {ts : List T} {ys : List Str} {vs : List V}, strsOf ts = some ys → vs.length = ts.length → (∀ (i : Nat) (v : V) (t : T), vs[i]? = some v → ts[i]? = some t → Rep Γ H v t G) → vs = ys.map V.str
  | [], ys, vs, e, hl, _ => by
    cases e
    exact List.length_eq_zero_iff.mp hl
  | t :: ts, ys, vs, e, hl, h => by
    cases t with
    | str x =>
      unfold strsOf at e
      cases e1 : strsOf ts with
      | none => rw [e1] at e; cases e
      | some l =>
        rw [e1] at e
        cases e
        cases vs with
        | nil => simp at hl
        | cons v vs =>
          have r := h 0 v (.str x) rfl rfl
          cases r
          rw [List.map_cons, ← strsOf_get e1 (by simpa using hl) fun i v t a b => h (i + 1) v t (by simpa using a) (by simpa using b)]
    | _ => cases e
theorem joinT_ok {a : Str} : UnT Γ (fun x H Q => ∃ p, ∃ ys : List Str, x = .ref p ∧ (SqL Γ.K H p (ys.map V.str) ∨ SqT Γ.K H p (ys.map V.str)) ∧ (ys.map (·.length)).sum + ys.length * a.length ≤ 16777216 ∧ Q (.str (Txt.join a ys)) H) (joinT a) := by
  intro H x t1 t G1 Q r1 e k
  unfold joinT at e
  split at e
  · rename_i kd ts
    by_cases hk : isSq kd = true
    · rw [if_pos hk] at e
      cases e1 : strsOf ts with
      | none => rw [e1] at e; cases e
      | some ys =>
        rw [e1] at e
        simp only [Option.bind_some] at e
        by_cases hz : (ys.map (·.length)).sum + ys.length * a.length ≤ 16777216
        · rw [if_pos hz] at e
          cases e
          obtain ⟨p, vs, rfl, q, hl, hc⟩ := r1.sq hk
          have ev := strsOf_get e1 hl hc
          subst ev
          exact ⟨p, ys, rfl, q, hz, k _ H FE (Same.refl H) (.str _) new_FE⟩
        · rw [if_neg hz] at e; cases e
    · rw [if_neg hk] at e; cases e
  · cases e
section
variable {X : Cx} {ar : Fx} {W : WX} {e : Expr} {fa : EF} {ga : BF} {pos p0 apos : Pos} {a : Str} {j0 : Nat}
theorem e_join (he : PE X e (rdE Γ ar W fa)) (hK : X.K = Γ.K := by rfl) (hs : starEach [e] X.env = [(false, eval e X.env)] := by rfl) (hbase : attributeBase (.Constant (.str a) j0 p0) "join" X.env (eval (.Constant (.str a) j0 p0) X.env) = eval (.Constant (.str a) j0 p0) X.env := by rfl) (hline : (apos.endLine == pos.line) = true := by rfl) :
    PE X (.Call (.Attribute (.Constant (.str a) j0 p0) "join" apos) [e] [] pos) (rdE Γ ar W (eUn (joinT a) fa)) :=
  PE.imp (pe_join pe_str he hs hbase hline) fun σ H Q q =>
    ⟨⟨a, rfl⟩, rdE_mono (tUn_e joinT_ok σ H Q q) fun y H2 ⟨p, ys, h1, h2, h3, h4⟩ => ⟨a, p, ys, rfl, by rw [h1], by rw [hK]; exact h2, h3, h4⟩⟩
/-! ### isinstance of the caught error -/
theorem n_isE {i : Nat} {ad D : Addr} {x y : Str} {v : V} {cv : Value} {b : Bool} {p1 p2 p3 : Pos} (hc : CallR X (.builtin "isinstance") (rIsE X.K D ad)) (har : ar i = some (.ref ad)) (hx : PE X (.Name x p2) (tC v)) (one : ∀ u, RelV v u → u = cv) (hb : PySem.W.kitOne X.K (.ref D) cv = some b) (hm : X.mg "isinstance" = none)
    (hg : Gl X "isinstance" := by rfl) (hN : X.N[i]? = some y := by rfl) (hv : Vis X.env.scope y := by first | exact Or.inl rfl | exact Or.inr (Or.inl rfl) | exact Or.inr (Or.inr rfl)) (hd : (y == ("__debug__" : Str)) = false := by decide) (hcd : (y == ("__classdict__" : Str)) = false := by decide)
    (he : starEach [.Name y p1, .Name x p2] X.env = (false, eval (.Name y p1) X.env) :: starEach [.Name x p2] X.env := by rfl) : PE X (.Call (.Name "isinstance" p3) [.Name y p1, .Name x p2] [] pos) (rdN Γ ar (nC (.bl b))) :=
  PE.imp (pe_callB hc hg hm PyProof.Rows.boot_isinstance (pa_cons (pe_var hN hv hd hcd) (pa_cons hx pa_nil) he) (by decide) (by decide) he) fun σ H Q q => by
    obtain ⟨S, F, t, R, e, k⟩ := q
    cases e
    exact ⟨.ref ad, R.arg i _ har, v, cv, b, rfl, one, hb, k _ H FE (Same.refl H) (.bl _) new_FE⟩
/-! ### a comprehension over a range there -/
variable {elt : Expr} {tg : Expr} {ifs : List Expr} {scope : Scope} {own : List (Str × Nat)} {cond el : EF} {j : Nat}
theorem e_lcRH {e1 : Expr} {p1 pos1 : Pos} (hc : HotC X) (hN : X.N.Nodup) (hm : X.mg "range" = none) (hi : PE X e1 (rdE Γ ar W fa)) (ok : BlkOk X.N X.env.scope scope own)
    (hg : ∀ (p : Addr × Obj) (s : Shared) (H : Hp) (C : Addr) (cl : List (Str × Addr)) (fp : List Addr), PG (blkP X p s H scope (compEnvC scope cl C X.env) fp) tg (gName j))
    (ht : ∀ (p : Addr × Obj) (s : Shared) (H : Hp) (C : Addr) (cl : List (Str × Addr)) (fp : List Addr), PTs (blkP X p s H scope (compEnvC scope cl C X.env) fp) ifs (rdTX Γ (fun _ => True) cond))
    (he : ∀ (p : Addr × Obj) (s : Shared) (H : Hp) (C : Addr) (cl : List (Str × Addr)) (fp : List Addr), PE (blkP X p s H scope (compEnvC scope cl C X.env) fp) elt (rdEX Γ (fun _ => True) el))
    (hj : j ∈ own.map (·.2) := by decide) (hgl : Gl X "range" := by rfl) (hst : starEach [e1] X.env = (false, eval e1 X.env) :: starEach [] X.env := by rfl) (hs : ∀ x, foldedSetIterable (.Call (.Name "range" p1) [e1] [] pos1) X.env x = pure x := by intro _; rfl) :
    PE X (.ListComp elt [⟨tg, .Call (.Name "range" p1) [e1] [] pos1, ifs, 0⟩] scope pos) (rdE Γ ar W (eLcR j (own.map (·.2)) fa cond el)) :=
  PE.imp (pe_lcH hc hN (pi_range1H hgl hm (pa_cons hi pa_nil hst) hst) ok hg ht he hs) fun σ H Q q => lcR_ok hj trivial q
end
/-! ### a def that is told the caught error -/
structure FnE (P : Program) (w : World) (K : PySem.W.Frag) (mg : Str → Option Value) (base : Heap) (CX : CXT) (k : Nat) (f : Addr) (fd : FuncData) (ps : List Str) (sp : Addr × Obj → Sp) : Prop where
  len : ∀ pr vs H Q E, sp pr vs H Q E → vs.length = ps.length
  run : ∀ (A : Around) (outer : List Env) (s : Shared) (H : Hp) (args : Args) (us : List Value) (vs : List V) (Q : VK) (E : XK) (pr : Addr × Obj), RoomH k A → Hot1 A pr → PinOk outer H s pr → Env0 P w K mg base A outer s H → BindsTo s fd args (ps.zip us) → Vals vs us → sp pr vs H Q E →
    codeAny (model P w) A (.call (.ref f) args) (CR CX outer P w H s Q E) s
theorem fnE_of {CX : CXT} {P : Program} {w : World} {K : PySem.W.Frag} {mg : Str → Option Value} {base : Heap} {k : Nat} {f : Addr} {x1 q1 : Str} {prm : Arguments} {bd : List Stmt} {sc : Scope} {v1 v2 v3 v4 v5 v6 v7 : Value} {a1 a2 : Option Addr}
    {sl : Array (Option Value)} {N ps : List Str} {sp : Addr × Obj → Sp} (lk : K.lookup f = some ⟨v7, a2, .func (PySem.W.fnOf x1 q1 prm bd sc v1 v2 v3 v4 a1 v5 v6), sl⟩) (hcd : PySem.W.codeIn K v5 q1 = true) (S : FnScope N ps sc)
    (len : ∀ pr vs H Q E, sp pr vs H Q E → vs.length = ps.length)
    (hbody : ∀ (A : Around) (outer : List Env) (s : Shared) (H : Hp) (vs : List V) (Q : VK) (E : XK) (pr : Addr × Obj), Hot1 A pr → RoomH k (A.deeper (envOfC q1 sc s.heap.objs.size f v5)) → sp pr vs H Q E →
      ∃ t, PSs (cxH CX P w K mg base N q1 sc f v5 A outer s H E pr) bd t ∧ t { nx := fun _ H' => Q .non H', rt := Q } (L2.start N vs) H) :
    FnE P w K mg base CX (k + 1) f (PySem.W.fnOf x1 q1 prm bd sc v1 v2 v3 v4 a1 v5 v6) ps sp := by
  refine ⟨len, fun A outer s H args us vs Q E pr room hot hpin e0 hb rv hsp => ?_⟩
  have same0 := len _ _ _ _ _ hsp
  have kin : K.In s.heap := e0.mod.kin.keeps fun b o z => (e0.bs b o z).1
  have nlim : s.heap.NoLimit := e0.mod.nolimit.keeps fun b o z => (e0.bs b o z).1
  refine codeAny_call_function room.depth (kin _ _ lk) rfl S.co S.gen rfl (PySem.W.codeRec_of kin hcd) (hb _ _ _ _ ?_)
  refine wpAny_newFunctionEnv_cells S.kind (fun ⟨n, v⟩ hy => (S.par n (List.of_mem_zip hy).1).elim .inl fun z => .inr ⟨z, PySem.W.cellsFrom_some _ _ _ (.inl z)⟩) fun env he s1 x => ?_
  subst he
  refine ⟨nlim.keeps x.toInCall.keep, codeAny_func ?_⟩
  obtain ⟨t, ht, hq⟩ := hbody A outer s H vs Q E pr hot (room.deeper _) hsp
  have I : Inv (cxH CX P w K mg base N q1 sc f v5 A outer s H E pr) [] (L2.start N vs) H s1 := inv_startH S hpin e0 same0 rv x
  refine wpAny_mono (ht.run [] s1 (L2.start N vs) H _ I hq) (fun fl s' hs => ?_) fun e s' hs => hs
  cases fl with
  | ret u =>
    obtain ⟨v, σ', H', J, rr, q⟩ := hs
    exact ⟨v, H', J.os, J.bare, J.base, J.hok, rr, q⟩
  | next =>
    obtain ⟨σ', H', J, q⟩ := hs
    exact ⟨V.non, H', J.os, J.bare, J.base, J.hok, rfl, q⟩
  | brk => obtain ⟨_, _, _, q⟩ := hs; exact q.elim
  | cont => obtain ⟨_, _, _, q⟩ := hs; exact q.elim
section
variable {X : Cx} {CX : CXT} {k : Nat} {f : Addr} {fd : FuncData} {ps : List Str} {sp : Addr × Obj → Sp} {x : Str} {q pos : Pos} {e : Expr} {es : List Expr} {t : TA}
def tCallE (pr : Addr × Obj) (sp : Addr × Obj → Sp) (t : TA) : TE := fun σ H Q => t σ H fun vs H1 => sp pr vs H1 Q E0
/-- the call there; it lets nothing out -/
theorem pe_callE {pr : Addr × Obj} (F : FnE X.prog X.w X.K X.mg X.base CX k f fd ps sp) (room : RoomH k X.A) (hot : Hot1 X.A pr) (hp : pr ∈ X.pn) (hg : Gl X x) (hm : X.mg x = some (.ref f)) (hk : PySem.W.keepIn X.K (.ref f) = true) (hb : Binds X.K fd ps []) (hx : ∀ σ, PassesAt CX X σ E0)
    (ha : PA X (e :: es) t) (hdb : (x == ("__debug__" : Str)) = false := by decide) (he : starEach (e :: es) X.env = (false, eval e X.env) :: starEach es X.env := by rfl) (hpl : (backTo pos (starEach es X.env)).any (·.1) = false := by rfl) :
    PE X (.Call (.Name x q) (e :: es) [] pos) (tCallE pr sp t) := by
  refine ⟨fun pins s σ H Q I h => wpAny_Call_Name_kw (ld_glob I hg hm ?_ hdb)⟩
  refine PySem.W.callWith_K (h₀ := X.base) I.ok.mod.kin hk (thn (ha.run pos pins s σ H _ I h) fun us s1 ⟨vs, H1, J, r, qq⟩ => ⟨J.kIn, ?_⟩) he hpl
  have hl : us.length = ps.length := by rw [← r.length]; exact F.len _ _ _ _ _ qq
  have b := hb s1 us J.kIn (by rw [List.append_nil]; exact hl)
  rw [List.append_nil] at b
  have P1 := J.pin pr (List.mem_append_left _ hp)
  have ok : PinOk X.stack H1 s1 pr := ⟨P1.1, P1.2.1, fun z => (List.mem_cons.mp (J.stkSub pr.1 z)).elim P1.2.2.1 P1.2.2.2.1, P1.2.2.2.2⟩
  refine wpAny_call (codeAny_mono (F.run X.A X.stack s1 H1 ⟨us, []⟩ us vs Q E0 pr room hot ok J.env0 b r qq) fun res s' hq => ?_)
  cases res with
  | error er => exact hx σ pins H1 s1 er s' J hq
  | ok fl =>
    cases fl with
    | ret u => exact J.after hq
    | next => exact hq.elim
    | brk => exact hq.elim
    | cont => exact hq.elim
end
/-! ### _law_kinds and its like: a text, by the error's class alone -/
def spK (D : Addr) (kd : Str) : Addr × Obj → Sp := fun pr vs H Q _ => vs = [.ref pr.1] ∧ Zc (.ref D) none pr.2 ∧ (∃ fs, pr.2.data = .fields fs) ∧ ∀ H', Same H H' → Q (.str kd) H'
def arE (a : Addr) : Fx := fun i => if i = 0 then some (.ref a) else none
theorem repS_none {H : Hp} {N : List Str} {a : Addr} (hN : 1 ≤ N.length) : RepS Γ (arE a) H (L2.start N [.ref a]) (List.replicate N.length none) FE := by
  refine ⟨?_, fun i v e => ?_, ⟨fun _ => FE, fun i t e => ?_, fun _ _ _ _ z _ => z, fun _ _ z => z⟩, fun _ z => z.elim⟩
  · unfold L2.start
    simp
    omega
  · unfold arE at e
    split at e
    · rename_i h
      cases e
      subst h
      rfl
    · cases e
  · have := List.mem_of_getElem? e
    rw [List.mem_replicate] at this
    cases this.2
theorem fn_okE {P : Program} {w : World} {mg : Str → Option Value} {base : Heap} {x q : Str} {f : Addr} {fd : FuncData} {N : List Str} {y : Str} {k : Nat} {st : Stmt} {body : SF} {D : Addr} {kd : Str} {S' : TSt} {W : WX} (F : Fun Γ.K x q st f fd) (S : FnScope N [y] (defScope st)) (hN : 1 ≤ N.length)
    (hbody : ∀ (cdv : Value) (A : Around) (outer : List Env) (s : Shared) (H : Hp) (E : XK) (pr : Addr × Obj), Hot1 A pr → RoomH k (A.deeper (PyProof.Rows.envOfC q (defScope st) s.heap.objs.size f cdv)) → Zc (.ref D) none pr.2 → (∃ fs, pr.2.data = .fields fs) →
      PSs (cxH (L2N.CX P w) P w Γ.K mg base N q (defScope st) f cdv A outer s H E pr) (defBody st) (rdS Γ (arE pr.1) W body))
    (he : body (List.replicate N.length none) = some (.rt (.str kd), S')) : FnE P w Γ.K mg base (L2N.CX P w) (k + 1) f fd [y] (spK D kd) := by
  obtain ⟨xc, xd, xk, dc, pq, na, cdv, tc, zs, rfl, lk, hcd⟩ := F.ex
  refine fnE_of lk hcd S (fun pr vs H Q E h => by rw [h.1]; rfl) (fun A outer s H vs Q E pr hot room h => ?_)
  obtain ⟨rfl, z, fs, kk⟩ := h
  refine ⟨_, hbody cdv A outer s H E pr hot room z fs, List.replicate N.length none, FE, _, S', repS_none hN, he, fun v σ' H' F' G o => ?_⟩
  have r := o.r
  cases r
  exact kk H' fun b u hb => o.u.keep b u hb fun z => z
end VT

/-! VTJ: try .. except CallError as e: kind = _law_kinds(e). -/
namespace VT
open PySem PySem.Spec PyProof.Rows L2 L2H HotX
variable {Γ : Gx}
theorem RepS.junk {ar : Fx} {H : Hp} {σ : L2.St} {S : TSt} {F : FP} {i : Nat} (R : RepS Γ ar H σ S F) (hi : ar i = none) (o : Option V) : RepS Γ ar H (σ.set i o) (S.set i none) F := by
  obtain ⟨len, arg, ⟨Fs, h1, h2, h3⟩, al⟩ := R
  refine ⟨by rw [List.length_set, List.length_set, len], fun j v e => ?_, ⟨Fs, fun j t e => ?_, h2, h3⟩, al⟩
  · have hj : i ≠ j := fun z => by rw [z, e] at hi; cases hi
    rw [List.getElem?_set_ne hj]
    exact arg j v e
  · by_cases hj : i = j
    · subst hj
      rw [List.getElem?_set] at e
      split at e
      · split at e <;> cases e
      · rename_i z; exact absurd rfl z
    · rw [List.getElem?_set_ne hj] at e
      obtain ⟨v, ev, r⟩ := h1 j t e
      exact ⟨v, by rw [List.getElem?_set_ne hj]; exact ev, r⟩
structure KindsOk (P : Program) (w : World) (Γ : Gx) (mg : Str → Option Value) (base : Heap) (k : Nat) (x ce : Str) (kn : Nat → Option Str) : Prop where
  ex : ∃ f fd y, mg x = some (.ref f) ∧ PySem.W.keepIn Γ.K (.ref f) = true ∧ Binds Γ.K fd [y] [] ∧ ∀ c kd, kn c = some kd → FnE P w Γ.K mg base (L2N.CX P w) k f fd [y] (spK (Γ.cl c) kd)
  ca : ∃ C : Addr, mg ce = some (.ref C) ∧ ∀ c kd, kn c = some kd → PySem.W.exmOne Γ.K (.ref (Γ.cl c)) (.ref C) = some true
def sTryK (kn : Nat → Option Str) (ie ik : Nat) (s : SF) : SF := fun S => (s S).bind fun rx => match rx with
  | (.ex c, S1) => if ie < S1.length then (kn c).bind fun kd => some (.nx, ((S1.set ie none).set ik (some (.str kd))).set ie none) else none
  | r => some r
section
variable {X : Cx} {ar : Fx} {W : WX} {body : List Stmt} {sb : SF} {pos p1 p2 p3 p4 p5 p6 : Pos} {kn : Nat → Option Str} {k ie ik : Nat} {x ce yk ye : Str}
/-- what the suite does -/
def tsK (Γ : Gx) (kn : Nat → Option Str) (ie ik : Nat) : Addr → Value → Option Addr → TS := fun a cls d D σ H => ∃ c kd, cls = .ref (Γ.cl c) ∧ d = none ∧ kn c = some kd ∧ σ[ie]? = some (some (.ref a)) ∧ ∀ H', Same H H' → D.nx (σ.set ik (some (.str kd))) H'
theorem s_tryK (D : KindsOk X.prog X.w Γ X.mg X.base k x ce kn) (hr : Room k X.A) (tk : L2N.Takes X W) (hie : ar ie = none) (hik : ar ik = none) (hN : X.N.Nodup)
    (hb : ∀ (W : WX) (pn : List (Addr × Obj)) (xe : Value → Shared → Prop), L2N.Takes (X.tr pn xe) W → PassesOwn (model X.prog X.w) X.A X.env xe → PSs (X.tr pn xe) body (rdS Γ ar W sb))
    (hK : X.K = Γ.K := by rfl) (hs : X.stack = X.env :: X.outer := by rfl) (hf : X.env.frame = some X.env.locals := by rfl) (ne : X.N[ie]? = some ye := by rfl) (nk : X.N[ik]? = some yk := by rfl) (le : X.env.kindOf ye = some .local := by rfl) (lk : Loc X.env.scope yk := by first | exact Or.inl rfl | exact Or.inr rfl)
    (ve : Vis X.env.scope ye := by first | exact Or.inl rfl | exact Or.inr (Or.inl rfl) | exact Or.inr (Or.inr rfl)) (hfn : X.fn yk = true ∨ X.env.scope.names.lookup yk = some .local := by first | exact .inl rfl | exact .inr rfl) (hg : Gl X x := by rfl) (gc : Gl X ce := by rfl)
    (d1 : (x == ("__debug__" : Str)) = false := by decide) (d2 : (ce == ("__debug__" : Str)) = false := by decide) (d3 : (ye == ("__debug__" : Str)) = false := by decide) (d4 : (ye == ("__classdict__" : Str)) = false := by decide)
    (hsw : swapsWith (.Call (.Name x p3) [.Name ye p4] [] p5) (some (.Name yk p2)) p6.line X.env = pure false := by rfl)
    (hst : starEach [.Name ye p4] X.env = (false, eval (.Name ye p4) X.env) :: starEach [] X.env := by rfl) (hpl : (backTo p5 (starEach [] X.env)).any (·.1) = false := by rfl) {np p7 : Pos} :
    PS X (.Try body [.ExceptHandler (some (.Name ce np)) (some ye) [.Assign [.Name yk p2] (.Call (.Name x p3) [.Name ye p4] [] p5) p6] p7] [] [] pos) (rdS Γ ar W (sTryK kn ie ik sb)) := by
  obtain ⟨f, fd, y, hm, hk, hbi, hF⟩ := D.ex
  obtain ⟨C, hce, hex⟩ := D.ca
  refine PS.imp (L2N.ps_try_as (tb := fun W => rdS Γ ar W sb) (ts := tsK Γ kn ie ik) (Wout := W) hs hf hN ne le ⟨gc, d2, .inl hce⟩ tk hb fun a oe cls d pn hz hfl => ?_) fun E σ H q => ?_
  · refine ⟨fun pins s σ H E I q => ?_⟩
    obtain ⟨c, kd, rfl, rfl, hkn, hσ, kk⟩ := q
    have hot : Hot1 (X.suite a ((a, oe) :: pn)).A (a, oe) := by
      obtain ⟨vs, hv⟩ := hfl
      exact ⟨rfl, vs, hv, hz.2.2 vs hv⟩
    have F := hF c kd hkn
    rw [← hK] at F hk hbi
    have pc : PE (X.suite a ((a, oe) :: pn)) (.Call (.Name x p3) [.Name ye p4] [] p5) (tCallE (a, oe) (spK (Γ.cl c) kd) (tCons (tVar ie) tNil)) :=
      pe_callE (X := X.suite a ((a, oe) :: pn)) F ⟨hr.dp, hr.un⟩ hot List.mem_cons_self hg hm hk hbi (fun σ pins H s e s' I z => by
        obtain ⟨a', B, H', cls', d', h1, h2, h3, h4, h5, h6, h7, z⟩ := z
        exact z.elim) (pa_cons (pe_var ne ve d3 d4) pa_nil hst) d1 hst hpl
    have pp : PSs (X.suite a ((a, oe) :: pn)) [.Assign [.Name yk p2] (.Call (.Name x p3) [.Name ye p4] [] p5) p6] _ := pss_one (ps_set (X := X.suite a ((a, oe) :: pn)) hN nk lk pc hsw hfn)
    exact pp.run pins s σ H E I ⟨.ref a, hσ, rfl, hz.zc, hfl, fun H' sm => kk H' sm⟩
  · obtain ⟨S, F, fl, S', R, e, kk⟩ := q
    unfold sTryK at e
    cases e1 : sb S with
    | none => rw [e1] at e; cases e
    | some o =>
      obtain ⟨f1, S1⟩ := o
      rw [e1] at e
      simp only [Option.bind_some] at e
      refine ⟨S, F, f1, S1, R, e1, ?_⟩
      cases f1 with
      | ex c =>
        simp only at e
        by_cases hl : ie < S1.length
        · rw [if_pos hl] at e
          cases e2 : kn c with
          | none => rw [e2] at e; cases e
          | some kd =>
          rw [e2] at e
          cases e
          intro σ' H' F' R' u
          refine ⟨true, by rw [hK]; exact hex c kd e2, fun _ a ha => ⟨c, kd, rfl, rfl, e2, ?_, fun H2 sm => ?_⟩, fun z => nomatch z⟩
          · rw [List.getElem?_set_self (by rw [← R'.len]; exact hl)]
          · have R2 := ((((R'.junk hie (some (.ref a))).same sm).putIm (G := FE) hik (.str kd) rfl).junk hie none)
            exact kk _ H2 F' R2 (u.trans (Upd.of_same sm))
        · rw [if_neg hl] at e; cases e
      | nx => cases e; exact kk
      | bk => cases e; exact kk
      | ct => cases e; exact kk
      | rt t => cases e; exact kk
end
end VT

/-! VTK: unpacking, o[i] += n, raise. -/
namespace VT
open PySem PySem.Spec PyProof.Rows L2
section
variable {Γ : Gx} {X : Cx} {ar : Fx} {W : WX} {e o : Expr} {fa : EF} {pos : Pos} {pl : PF} {g gb : BF}
/-! ### a, b = e -/
def tgU (is : List Nat) : GF := fun t S => match t with
  | .nd .tup ts => if T.imAll ts = true then setAll is ts S else none
  | .nd .lst ts => if T.imAll ts = true then setAll is ts S else none
  | _ => none
def gTL (K : PySem.W.Frag) (n : Nat) (t : TGs) : TG := fun v σ H Q => gTup K n t v σ H Q ∨ gLst K n t v σ H Q
theorem pg_tl {es : List Expr} {k : Nat} {t : TGs} {n : Nat} (hc : X.calm = true) (h : PGs X es t) (hn : (assignEach es X.env).length = n := by rfl) (hst : (assignEach es X.env).findIdx? (·.1) = none := by rfl) : PG X (.Tuple es k pos) (gTL X.K n t) :=
  ⟨fun pins s σ H v u Q I r q => q.elim (fun q => (pg_tup hc h hn hst).run pins s σ H v u Q I r q) fun q => (pg_lst hc h hn hst).run pins s σ H v u Q I r q⟩
theorem tgU_ok {is : List Nat} (hi : ∀ i ∈ is, ar i = none) : TgOk Γ ar (gTL Γ.K is.length (gNames is)) (tgU is) := by
  intro H σ S F G v t S1 Q R r e k
  unfold tgU at e
  split at e
  · rename_i ts
    by_cases im : T.imAll ts = true
    · rw [if_pos im] at e
      obtain ⟨a, vs, rfl, hq, hl, hc⟩ := r.tupl
      exact .inl ⟨a, vs, rfl, hq, by rw [hl]; exact (setAll_len e).symm, setAll_ok hi R hl hc im e k⟩
    · rw [if_neg im] at e; cases e
  · rename_i ts
    by_cases im : T.imAll ts = true
    · rw [if_pos im] at e
      obtain ⟨a, vs, rfl, hq, hl, hc⟩ := r.list (.inl rfl)
      exact .inr ⟨a, vs, rfl, hq, by rw [hl]; exact (setAll_len e).symm, setAll_ok hi R hl hc im e k⟩
    · rw [if_neg im] at e; cases e
  · cases e
def sUnp (tf : GF) (fa : EF) : SF := fun S => (fa S).bind fun rx => match rx with
  | (.ex c, S1) => some (.ex c, S1)
  | (.ok t, S1) => (tf t S1).bind fun S2 => some (.nx, S2)
theorem s_unp {tg : Expr} {tf : GF} {gg : TG} (tk : TgOk Γ ar gg tf) (hg : PG X tg gg) (he : PE X e (rdE Γ ar W fa)) (hs : swapsWithSole [tg] e pos.line X.env = pure false := by rfl) (hw : swappedStores [tg] e X.env = pure none := by rfl)
    (h1 : (assignEach [tg] X.env).map (·.2) = [assign tg X.env] := by rfl) : PS X (.Assign [tg] e pos) (rdS Γ ar W (sUnp tf fa)) := PS.imp (ps_asg he hg hs hw h1) fun D σ H q => by
  obtain ⟨S, F, fl, S', R, e, k⟩ := q
  unfold sUnp at e
  cases e1 : fa S with
  | none => rw [e1] at e; cases e
  | some o =>
    obtain ⟨r, S1⟩ := o
    rw [e1] at e
    simp only [Option.bind_some] at e
    refine ⟨S, F, r, S1, R, e1, ?_⟩
    cases r with
    | ex c => cases e; exact fun H' F' R' u => k σ H' F' R' u
    | ok t =>
      simp only at e
      cases e2 : tf t S1 with
      | none => rw [e2] at e; cases e
      | some S2 =>
        rw [e2] at e
        cases e
        exact fun v H' F' G w => tk H' σ S1 F' G v t S' D.nx w.rs w.r e2 fun σ1 R1 => k σ1 H' F' R1 (w.u.sub fun a z => .inl z)
/-! ### o[i] += n -/
def augM (fo : Int → Int → Int) (k b : Int) (u : T) : Option T := match u with
  | .nd .lst ts => if 0 ≤ k then (ixN ts.length k).bind fun j => (ts[j]?).bind fun t => match t with
    | .int a => some (.nd .lst (ts.set j (.int (fo a b))))
    | _ => none
    else none
  | _ => none
def sAugI (fo : Int → Int → Int) (pl : PF) (g gb : BF) : SF := fun S => (pl S).bind fun ip => (sl S ip.1).bind fun t0 => (tAt ip.2 t0).bind fun u => (g S).bind fun w => (gb S).bind fun b => match w, b with
  | .int k, .int b => (augM fo k b u).bind fun u' => some (.nx, S.set ip.1 (some (tPut ip.2 t0 u')))
  | _, _ => none
def rGetP (K : PySem.W.Frag) : V → V → Hp → VK → Prop := fun x y H Q => ∃ p xs i v, x = .ref p ∧ y = .int i ∧ 0 ≤ i ∧ SqL K H p xs ∧ atI xs i = some v ∧ Q v H
theorem get_listP : PGet X (rGetP X.K) := by
  intro pins s σ H o i ov iv Q I ro ri h
  obtain ⟨p, xs, k, z, rfl, rfl, h0, hq, he, q⟩ := h
  cases ro
  obtain ⟨t, rfl⟩ := ri
  obtain ⟨its, r, pl, hz⟩ := I.list hq
  obtain ⟨j, h1, h2, h3, h4, h5⟩ := atI_get he
  obtain ⟨w, ew, rw'⟩ := r.get h2
  have hl := r.length
  have hn := line63
  have hj : k.toNat = j := by
    rw [seqIndex_of h0 h5] at h1
    exact Option.some.inj h1
  exact wpAny_getItem_list pl.isList h0 (by omega) (by rw [hj]; simpa using ew) ⟨z, H, I, rw', q⟩
theorem s_augI {op : Operator} {fo : Int → Int → Int} {i value : Expr} {tpos : Pos} (hop : PIp X op (ipI fo)) (ho : PE X o (rdP Γ ar pl)) (hi : PE X i (rdB Γ ar g)) (hv : PE X value (rdB Γ ar gb)) (hK : X.K = Γ.K := by rfl)
    (ha : ∀ ov iv new, augStore i ov iv new = (do holding [new, ov, iv] (setItem ov iv new); release [new, ov, iv] []; pure .next) := by intros; rfl) : PS X (.AugAssign (.Subscript o i tpos) op value pos) (rdS Γ ar W (sAugI fo pl g gb)) := by
  refine PS.imp (ps_augS ho hi (hK ▸ get_listP) hv hop set_list ha) fun D σ H q => ?_
  obtain ⟨S, F, fl, S', R, ee, kk⟩ := q
  unfold sAugI at ee
  cases q1 : pl S with
  | none => rw [q1] at ee; cases ee
  | some ip =>
    obtain ⟨i, p⟩ := ip
    rw [q1] at ee
    simp only [Option.bind_some] at ee
    cases q2 : sl S i with
    | none => rw [q2] at ee; cases ee
    | some t0 =>
      rw [q2] at ee
      simp only [Option.bind_some] at ee
      cases q3 : tAt p t0 with
      | none => rw [q3] at ee; cases ee
      | some u =>
        rw [q3] at ee
        simp only [Option.bind_some] at ee
        cases q4 : g S with
        | none => rw [q4] at ee; cases ee
        | some w =>
          rw [q4] at ee
          simp only [Option.bind_some] at ee
          cases q5 : gb S with
          | none => rw [q5] at ee; cases ee
          | some b =>
            rw [q5] at ee
            simp only [Option.bind_some] at ee
            split at ee
            · rename_i k b
              cases q6 : augM fo k b u with
              | none => rw [q6] at ee; cases ee
              | some u' =>
                rw [q6] at ee
                cases ee
                unfold augM at q6
                split at q6
                · rename_i ts
                  have k0 : 0 ≤ k := by
                    cases Classical.em (0 ≤ k) with
                    | inl h => exact h
                    | inr h => rw [if_neg h] at q6; cases q6
                  rw [if_pos k0] at q6
                  cases q7 : ixN ts.length k with
                  | none => rw [q7] at q6; cases q6
                  | some j =>
                    rw [q7] at q6
                    simp only [Option.bind_some] at q6
                    cases q8 : ts[j]? with
                    | none => rw [q8] at q6; cases q6
                    | some t =>
                      rw [q8] at q6
                      simp only [Option.bind_some] at q6
                      split at q6
                      · rename_i a
                        cases q6
                        refine ⟨S, F, i, p, t0, _, R, q1, q2, q3, fun v0 v H1 h1 h2 s1 => ?_⟩
                        refine ⟨S, F, _, R.same s1, q4, fun iv H2 G2 s2 r2 => ?_⟩
                        cases r2
                        have s12 := s1.trans s2
                        obtain ⟨v0', v', G0, ev, b1, b2⟩ := R.place q2 q3
                        have z0 : v0 = v0' := Option.some.inj (Option.some.inj (h1.symm.trans ev))
                        subst z0
                        have z1 : v = v' := Option.some.inj (h2.symm.trans b1)
                        subst z1
                        have rv := b2.same s12
                        obtain ⟨ad, vs, rfl, hq, hl, hc⟩ := rv.list (.inl rfl)
                        have hjv : j < vs.length := by rw [hl]; exact (List.getElem?_eq_some_iff.mp q8).1
                        have rj := hc j vs[j] (.int a) (List.getElem?_eq_getElem hjv) q8
                        have ej : vs[j]? = some (.int a) := by
                          rw [List.getElem?_eq_getElem hjv]
                          generalize vs[j] = vj at rj
                          cases rj
                          rfl
                        refine ⟨ad, vs, k, .int a, rfl, rfl, k0, hq, ?_, ?_⟩
                        · show (ixN vs.length k).bind _ = _
                          rw [hl, q7, Option.bind_some]
                          exact ej
                        have s13 := s12
                        refine ⟨S, F, _, R.same s13, q5, fun y H4 G4 s4 r4 => ?_⟩
                        cases r4
                        have s14 := s13.trans s4
                        have A : ArgsP Γ H4 σ [.int (fo a b)] [.val (.int (fo a b))] (FU FE FE) := argsP_nil.val (.int _) fun _ _ z => z
                        have em : setM k (.nd .lst ts) [.int (fo a b)] = some (.nd .lst (ts.set j (.int (fo a b))), .non) := by
                          show (ixN ts.length k).bind _ = _
                          rw [q7]
                          rfl
                        have fin := mut_core (Q := fun _ H' => D.nx σ H') setM_ok (R.same s14) A rfl (fun a f g => g.elim id id) (fun a g => g.elim False.elim False.elim) q2 q3 em h1 (vAt_same s14 h2) fun w H' F' G R' rw' d al u2 => kk σ H' F' R' ?_
                        · obtain ⟨y', ey, q⟩ := fin
                          cases ey
                          exact ⟨a, b, rfl, rfl, q⟩
                        · exact ⟨⟨fun c z hc nf => u2.keep c z (s14 c z hc) fun y => y.elim nf fun y => y.elim id id, fun c z im hc => u2.imm c z im (s14 c z hc)⟩, fun c hc => (u2.new c (.inl hc)).elim (fun y => y.elim .inl fun y => y.elim False.elim False.elim) fun y => .inr (s14.free y)⟩
                      · cases q6
                · cases q6
            · cases ee
end
end VT

/-! VTL: a list display as a new value, xs[f()] = e, raise X('..'), o.f += n. -/
namespace VT
open PySem PySem.Spec PyProof.Rows L2
section
variable {Γ : Gx} {X : Cx} {ar : Fx} {W : WX} {e o : Expr} {fa fi : EF} {pos : Pos} {pl : PF} {g gb : BF}
def nLst (gs : BAF) : BF := fun S => (gs S).bind fun l => (valsOf l).bind fun ts => gd (ts.length ≤ 100000 ∧ T.imAll ts = true) (.nd .lst ts)
theorem n_lst {es : List Expr} {gs : BAF} (h : PA X es (rdBA Γ ar gs)) : PE X (.List es pos) (rdN Γ ar (nLst gs)) := PE.imp (pe_lst h) fun σ H Q q => by
  obtain ⟨S, F, t, R, e, k⟩ := q
  unfold nLst at e
  cases e1 : gs S with
  | none => rw [e1] at e; cases e
  | some l =>
    rw [e1] at e
    simp only [Option.bind_some] at e
    cases e2 : valsOf l with
    | none => rw [e2] at e; cases e
    | some ts =>
      rw [e2] at e
      obtain ⟨⟨c1, c2⟩, rfl⟩ := gd_some.mp e
      refine ⟨S, F, l, R, e1, fun vs H1 G1 s1 A1 n1 => ?_⟩
      obtain ⟨len, Gs, h1, h3, h4⟩ := A1.vals e2
      refine ⟨sz5 (by omega), fun p hp => ?_⟩
      have s2 : Same H1 (upd H1 p (.lst vs)) := fun b u z => by rw [upd_ne (ne_of_none z hp)]; exact z
      refine k _ _ (fun a => a = p) (s1.trans s2) (.nd (Fs := fun _ => FE) upd_same len (fun _ => ⟨rfl, fun _ z => z⟩) (fun i v t q1 q2 => ((h1 i v t q1 q2).same s2).im (imAll_iff.mp c2 i t q2) FE) (fun _ _ _ _ z _ => z) fun _ _ z => z.elim) ⟨fun a z => ?_, fun a z => ?_⟩
      · rw [z]; exact s1.free hp
      · rw [z, upd_same]; exact fun y => nomatch y
/-! ### xs[f()] = e -/
def sSetVE (i : Nat) (fi fa : EF) : SF := fun S => (fa S).bind fun rx => match rx with
  | (.ex c, S1) => some (.ex c, S1)
  | (.ok t, S1) => if t.im = true then (sl S1 i).bind fun _ => (fi S1).bind fun ry => match ry with
    | (.ex c, S2) => some (.ex c, S2)
    | (.ok (.int k), S2) => (sl S2 i).bind fun u => (setM k u [t]).bind fun ur => some (.nx, S2.set i (some ur.1))
    | _ => none
    else none
theorem s_setVE (i : Nat) {y : Str} {ix : Expr} {pos' pv : Pos} (hi : PE X ix (rdE Γ ar W fi)) (hv : PE X e (rdE Γ ar W fa))
    (hN : X.N[i]? = some y := by rfl) (hvis : Vis X.env.scope y := by first | exact Or.inl rfl | exact Or.inr (Or.inl rfl) | exact Or.inr (Or.inr rfl)) (hd : (y == ("__debug__" : Str)) = false := by decide) (hcd : (y == ("__classdict__" : Str)) = false := by decide)
    (hs : swapsWithSole [.Subscript (.Name y pv) ix pos'] e pos.line X.env = pure false := by rfl) (hw : swappedStores [.Subscript (.Name y pv) ix pos'] e X.env = pure none := by rfl) (h1 : (assignEach [.Subscript (.Name y pv) ix pos'] X.env).map (·.2) = [assign (.Subscript (.Name y pv) ix pos') X.env] := by rfl)
    (hasg : ∀ v, assign (.Subscript (.Name y pv) ix pos') X.env v = (do let ov ← holding [v] (eval (.Name y pv) X.env); let iv ← holding [v, ov] (eval ix X.env); standAt pos'; holding [v, ov, iv] (setItem ov iv v); release [v, ov, iv] []) := by intro _; rfl) :
    PS X (.Assign [.Subscript (.Name y pv) ix pos'] e pos) (rdS Γ ar W (sSetVE i fi fa)) := by
  refine PS.imp (ps_asg hv (pg_sub (pe_var hN hvis hd hcd) hi set_list hasg) hs hw h1) fun D σ H q => ?_
  obtain ⟨S, F, fl, S', R, ee, kk⟩ := q
  unfold sSetVE at ee
  cases q0 : fa S with
  | none => rw [q0] at ee; cases ee
  | some o1 =>
    obtain ⟨r1, S1⟩ := o1
    rw [q0] at ee
    simp only [Option.bind_some] at ee
    refine ⟨S, F, r1, S1, R, q0, ?_⟩
    cases r1 with
    | ex c => cases ee; exact fun H' F' R' u => kk σ H' F' R' u
    | ok t =>
      simp only at ee
      by_cases im : t.im = true
      · rw [if_pos im] at ee
        cases q2 : sl S1 i with
        | none => rw [q2] at ee; cases ee
        | some t0 =>
          rw [q2] at ee
          simp only [Option.bind_some] at ee
          intro v H1 F1 G1 o1
          obtain ⟨v0, ev0, r0⟩ := o1.rs.slot (sl_some.mp q2)
          refine ⟨v0, ev0, ?_⟩
          have u1 : Upd H H1 F F1 := o1.u.sub fun a z => .inl z
          cases q3 : fi S1 with
          | none => rw [q3] at ee; cases ee
          | some o2 =>
            obtain ⟨r2, S2⟩ := o2
            rw [q3] at ee
            simp only [Option.bind_some] at ee
            refine ⟨S1, F1, r2, S2, o1.rs, q3, ?_⟩
            cases r2 with
            | ex c => cases ee; exact fun H' F' R' u => kk σ H' F' R' (u1.trans u)
            | ok w =>
              cases w with
              | int k =>
                simp only at ee
                intro iv H2 F2 G2 o2
                have ri := o2.r
                cases ri
                cases q4 : sl S2 i with
                | none => rw [q4] at ee; cases ee
                | some u =>
                  rw [q4] at ee
                  simp only [Option.bind_some] at ee
                  cases q5 : setM k u [t] with
                  | none => rw [q5] at ee; cases ee
                  | some ur =>
                    obtain ⟨u', res⟩ := ur
                    rw [q5] at ee
                    cases ee
                    have rt : Rep Γ H2 v t FE := by
                      exact (o1.r.im im FE).ke o2.u.toKe fun a z _ => z
                    have A : ArgsP Γ H2 σ [v] [.val t] (FU FE FE) := argsP_nil.val rt fun _ _ z => z
                    have fin := mut_core (p := []) (Q := fun _ H' => D.nx σ H') setM_ok o2.rs A rfl (fun a f g => g.elim id id) (fun a g => g.elim False.elim False.elim) q4 rfl q5 ev0 rfl fun w H' F' G R' rw' d al u2 => kk σ H' F' R' ?_
                    · obtain ⟨y', ey, q⟩ := fin
                      cases ey
                      exact q
                    · exact u1.trans ((o2.u.sub fun a z => .inl z).trans ⟨⟨fun c z hc nf => u2.keep c z hc fun y => y.elim nf fun y => y.elim id id, u2.imm⟩, fun c hc => (u2.new c (.inl hc)).elim (fun y => y.elim .inl fun y => y.elim False.elim False.elim) .inr⟩)
              | _ => cases ee
      · rw [if_neg im] at ee; cases ee
/-! ### raise X('..') -/
structure RaiseOk (K : PySem.W.Frag) (mg : Str → Option Value) (x : Str) (C : Addr) : Prop where
  exc : PySem.W.excIn K C [.type "ValueError", .type "Exception", .type "BaseException", .type "object"] "ValueError.__new__" = true
  at_ : mg x = some (.ref C)
  kp : PySem.W.keepIn K (.ref C) = true
  sub : PySem.W.subIn K (.ref C) (.type "BaseException") = some true
  ty : PySem.W.typeIn K (.ref C) = some (.type "type")
theorem s_raiseX {c : Nat} {x m : Str} {j : Nat} {p p2 pos2 : Pos} (Rx : RaiseOk X.K X.mg x (Γ.cl c)) (tk : L2N.Takes X W) (hc : X.calm = true := by rfl) (hg : Gl X x := by rfl) (hdb : (x == ("__debug__" : Str)) = false := by decide) :
    PS X (.Raise (some (.Call (.Name x p) [.Constant (.str m) j p2] [] pos)) none pos2) (rdS Γ ar W (sRaise c)) :=
  s_raise hc tk (L2N.pmk_own PySem.F.excBase_ValueError Rx.exc Rx.at_ Rx.kp (raises_own Rx.sub Rx.ty) hg hdb)
end
end VT

/-! VTM: facts of classes, for the end. -/
namespace VT
open PySem L2
theorem kit_self {K : PySem.W.Frag} {C : Addr} : PySem.W.kitOne K (.ref C) (.ref C) = some true := by
  unfold PySem.W.kitOne
  rw [if_pos (by simp)]
theorem kit_ve {K : PySem.W.Frag} {C : Addr} (h : PySem.W.subIn K (.ref C) (.type "ValueError") = some true) : PySem.W.kitOne K (.ref C) (.type "ValueError") = some true := by
  unfold PySem.W.kitOne PySem.W.kitCls
  rw [if_neg (by simp)]
  simp only
  rw [if_pos (by decide), h]
theorem kit_no {K : PySem.W.Frag} {C A : Addr} (hs : PySem.W.subIn K (.ref C) (.ref C) = some true) (hc : PySem.W.isClsIn K A = true) (ht : PySem.W.typeIn K (.ref A) = some (.type "type")) (h : PySem.W.subIn K (.ref C) (.ref A) = some false) : PySem.W.kitOne K (.ref C) (.ref A) = some false := by
  have hne : C ≠ A := fun z => by rw [← z, hs] at h; cases h
  unfold PySem.W.kitOne PySem.W.kitCls
  rw [if_neg (by simpa using hne)]
  simp only
  have hc' : (PySem.W.clsIn K A).isSome = true := hc
  rw [if_pos (by rw [hc', ht]; decide), h]
end VT

/-! VTN: reckoning, the newer constructs. -/
namespace VT
open PySem L2
section
variable {fa fb fi : EF} {g gb : BF} {S S1 : TSt} {i j n c ie ik : Nat} {s : SF} {b : Bool} {t x y u : T} {pl : PF} {gs : BAF} {ts : List T} {p : List Nat} {kn : Nat → Option Str} {tf : GF} {fo : Int → Int → Int} {vs : List Nat} {cond elt : EF}
theorem kSet_ex : kSet i (.ex c, S) = some (.ex c, S) := rfl
theorem kRet_ex : kRet (.ex c, S) = some (.ex c, S) := rfl
theorem kExpr_ex : kExpr (.ex c, S) = some (.ex c, S) := rfl
theorem sRaise_q : sRaise c S = some (.ex c, S) := rfl
def kTry2 (ie ik : Nat) (S : TSt) (kd : Str) : Option (Fl × TSt) := some (.nx, ((S.set ie none).set ik (some (.str kd))).set ie none)
def kTry (kn : Nat → Option Str) (ie ik : Nat) : Fl × TSt → Option (Fl × TSt)
  | (.ex c, S1) => if ie < S1.length then (kn c).bind (kTry2 ie ik S1) else none
  | r => some r
theorem sTryK_q : sTryK kn ie ik s S = (s S).bind (kTry kn ie ik) := by
  unfold sTryK
  cases s S with
  | none => rfl
  | some r => obtain ⟨f, S1⟩ := r; cases f <;> rfl
theorem kTry_ex : kTry kn ie ik (.ex c, S) = if ie < S.length then (kn c).bind (kTry2 ie ik S) else none := rfl
theorem kTry_nx : kTry kn ie ik (.nx, S) = some (.nx, S) := rfl
theorem kTry_rt : kTry kn ie ik (.rt t, S) = some (.rt t, S) := rfl
theorem kTry2_q {kd : Str} : kTry2 ie ik S kd = some (.nx, ((S.set ie none).set ik (some (.str kd))).set ie none) := rfl
def kUnp2 (S : TSt) : Option (Fl × TSt) := some (.nx, S)
def kUnp (tf : GF) : Rs T × TSt → Option (Fl × TSt)
  | (.ex c, S1) => some (.ex c, S1)
  | (.ok t, S1) => (tf t S1).bind kUnp2
theorem sUnp_q : sUnp tf fa S = (fa S).bind (kUnp tf) := rfl
theorem kUnp_ok : kUnp tf (.ok t, S) = (tf t S).bind kUnp2 := rfl
theorem kUnp2_q : kUnp2 S = some (.nx, S) := rfl
theorem tgU_lst {is : List Nat} : tgU is (.nd .lst ts) S = if T.imAll ts = true then setAll is ts S else none := rfl
theorem tgU_tup {is : List Nat} : tgU is (.nd .tup ts) S = if T.imAll ts = true then setAll is ts S else none := rfl
theorem setAll_n : setAll [] [] S = some S := rfl
theorem setAll_c {is : List Nat} : setAll (i :: is) (t :: ts) S = setAll is ts (S.set i (some t)) := rfl
def kAg5 (S : TSt) (i : Nat) (p : List Nat) (t0 u' : T) : Option (Fl × TSt) := some (.nx, S.set i (some (tPut p t0 u')))
def kAg4 (fo : Int → Int → Int) (S : TSt) (i : Nat) (p : List Nat) (t0 u w b : T) : Option (Fl × TSt) := match w, b with
  | .int k, .int b => (augM fo k b u).bind (kAg5 S i p t0)
  | _, _ => none
def kAg3 (fo : Int → Int → Int) (gb : BF) (S : TSt) (i : Nat) (p : List Nat) (t0 u w : T) : Option (Fl × TSt) := (gb S).bind (kAg4 fo S i p t0 u w)
def kAg2 (fo : Int → Int → Int) (g gb : BF) (S : TSt) (i : Nat) (p : List Nat) (t0 u : T) : Option (Fl × TSt) := (g S).bind (kAg3 fo gb S i p t0 u)
def kAg1 (fo : Int → Int → Int) (g gb : BF) (S : TSt) (i : Nat) (p : List Nat) (t0 : T) : Option (Fl × TSt) := (tAt p t0).bind (kAg2 fo g gb S i p t0)
def kAg0 (fo : Int → Int → Int) (g gb : BF) (S : TSt) (ip : Nat × List Nat) : Option (Fl × TSt) := (sl S ip.1).bind (kAg1 fo g gb S ip.1 ip.2)
theorem sAugI_q : sAugI fo pl g gb S = (pl S).bind (kAg0 fo g gb S) := rfl
theorem kAg0_q : kAg0 fo g gb S (i, p) = (sl S i).bind (kAg1 fo g gb S i p) := rfl
theorem kAg1_q : kAg1 fo g gb S i p t = (tAt p t).bind (kAg2 fo g gb S i p t) := rfl
theorem kAg2_q : kAg2 fo g gb S i p t u = (g S).bind (kAg3 fo gb S i p t u) := rfl
theorem kAg3_q : kAg3 fo gb S i p t u x = (gb S).bind (kAg4 fo S i p t u x) := rfl
theorem kAg4_q {k b : Int} : kAg4 fo S i p t u (.int k) (.int b) = (augM fo k b u).bind (kAg5 S i p t) := rfl
theorem kAg5_q : kAg5 S i p t u = some (.nx, S.set i (some (tPut p t u))) := rfl
theorem augM_ints {k b : Int} {l : List Int} (h0 : 0 ≤ k) (h1 : k < l.length) : augM fo k b (.nd .lst (l.map .int)) = some (.nd .lst ((l.set k.toNat (fo (l.getD k.toNat 0) b)).map .int)) := by
  unfold augM
  simp only
  have hk : k.toNat < l.length := by omega
  have e : ixN (l.map T.int).length k = some k.toNat := by
    unfold ixN
    rw [List.length_map, if_pos h0, if_pos h1]
  rw [if_pos h0, e, Option.bind_some, List.getElem?_map, List.getElem?_eq_getElem hk]
  simp [List.map_set, List.getD_eq_getElem?_getD, List.getElem?_eq_getElem hk]
def kSv3 (t : T) (i : Nat) : Rs T × TSt → Option (Fl × TSt)
  | (.ex c, S2) => some (.ex c, S2)
  | (.ok (.int k), S2) => (sl S2 i).bind fun u => (setM k u [t]).bind fun ur => some (.nx, S2.set i (some ur.1))
  | _ => none
def kSv2 (t : T) (i : Nat) (fi : EF) (S : TSt) (_ : T) : Option (Fl × TSt) := (fi S).bind (kSv3 t i)
def kSv1 (i : Nat) (fi : EF) : Rs T × TSt → Option (Fl × TSt)
  | (.ex c, S1) => some (.ex c, S1)
  | (.ok t, S1) => if t.im = true then (sl S1 i).bind (kSv2 t i fi S1) else none
theorem sSetVE_q : sSetVE i fi fa S = (fa S).bind (kSv1 i fi) := by
  unfold sSetVE
  cases fa S with
  | none => rfl
  | some r =>
    obtain ⟨r, S1⟩ := r
    cases r with
    | ex c => rfl
    | ok t =>
      show (if t.im = true then _ else _) = (if t.im = true then _ else _)
      congr 1
theorem kSv1_ok : kSv1 i fi (.ok t, S) = if t.im = true then (sl S i).bind (kSv2 t i fi S) else none := rfl
theorem kSv2_q : kSv2 t i fi S u = (fi S).bind (kSv3 t i) := rfl
def kSv4 (k : Int) (t : T) (i : Nat) (S : TSt) (u : T) : Option (Fl × TSt) := (setM k u [t]).bind fun ur => some (.nx, S.set i (some ur.1))
theorem kSv3_q {k : Int} : kSv3 t i (.ok (.int k), S) = (sl S i).bind (kSv4 k t i S) := rfl
theorem kSv4_ints {k v : Int} {l : List Int} (h0 : 0 ≤ k) (h1 : k < l.length) : kSv4 k (.int v) i S (.nd .lst (l.map .int)) = some (.nx, S.set i (some (.nd .lst ((l.set k.toNat v).map .int)))) := by
  have e : ixN (l.map T.int).length k = some k.toNat := by
    unfold ixN
    rw [List.length_map, if_pos h0, if_pos h1]
  unfold kSv4
  show ((ixN (l.map T.int).length k).bind _).bind _ = _
  rw [e]
  simp [List.map_set]
def kNL2 (ts : List T) : Option T := gd (ts.length ≤ 100000 ∧ T.imAll ts = true) (.nd .lst ts)
def kNL (l : List Arg) : Option T := (valsOf l).bind kNL2
theorem nLst_q : nLst gs S = (gs S).bind kNL := rfl
theorem kNL_q {as : List Arg} : kNL as = (valsOf as).bind kNL2 := rfl
theorem kNL2_q : kNL2 ts = gd (ts.length ≤ 100000 ∧ T.imAll ts = true) (.nd .lst ts) := rfl
def kLR (j : Nat) (vs : List Nat) (cond elt : EF) : Rs T × TSt → Option (Rs T × TSt)
  | (.ex c, S1) => some (.ex c, S1)
  | (.ok (.int n), S1) => if 0 ≤ n ∧ n < 100000 then lcEnd vs S1 (eLcFrom j vs cond elt (rgT n) S1) else none
  | _ => none
theorem eLcR_q : eLcR j vs fa cond elt S = (fa S).bind (kLR j vs cond elt) := by
  unfold eLcR
  cases fa S with
  | none => rfl
  | some r => obtain ⟨r, S1⟩ := r; cases r with
    | ex c => rfl
    | ok w => cases w <;> rfl
theorem kLR_q {k : Int} : kLR j vs cond elt (.ok (.int k), S) = if 0 ≤ k ∧ k < 100000 then lcEnd vs S (eLcFrom j vs cond elt (rgT k) S) else none := rfl
theorem mulT_l {k : Int} : mulT (.nd .lst [u]) (.int k) = gd (0 ≤ k ∧ k ≤ 100000 ∧ u.im = true) (.nd .lst (List.replicate k.toNat u)) := rfl
theorem addT_ll {ts us : List T} : addT (.nd .lst ts) (.nd .lst us) = addT (.nd .lst ts) (.nd .lst us) := rfl
theorem lrgT_q {k : Int} : lrgT (.int k) = if 0 ≤ k ∧ k ≤ 100000 then some (.nd .lst (rgT k)) else none := rfl
def rgI (n : Int) : List Int := (List.range n.toNat).map fun (k : Nat) => (k : Int)
theorem rgT_ints (n : Int) : rgT n = (rgI n).map .int := by unfold rgT rgI; rw [List.map_map]; rfl
theorem rgI_length {n : Int} : (rgI n).length = n.toNat := by simp [rgI]
theorem mem_rgI {n k : Int} : k ∈ rgI n ↔ 0 ≤ k ∧ k < n := by
  unfold rgI
  constructor
  · intro h
    obtain ⟨j, hj, rfl⟩ := List.mem_map.mp h
    have := List.mem_range.mp hj
    omega
  · intro h
    exact List.mem_map.mpr ⟨k.toNat, List.mem_range.mpr (by omega), by omega⟩
theorem rep_ints {n : Nat} {v : Int} : List.replicate n (T.int v) = (List.replicate n v).map .int := by simp
theorem get_int {l : List Int} {k : Int} (h0 : 0 ≤ k) (h1 : k < l.length) : (l.map T.int)[k.toNat]? = some (.int (l.getD k.toNat 0)) := by
  have hk : k.toNat < l.length := by omega
  rw [List.getElem?_map, List.getElem?_eq_getElem hk]
  simp [List.getD_eq_getElem?_getD, List.getElem?_eq_getElem hk]
theorem getD_set {l : List Int} {k : Nat} {v : Int} (h : k < l.length) : (l.set k v).getD k 0 = v := by simp [List.getD_eq_getElem?_getD, h]
theorem set_int {l : List Int} {k : Nat} {v : Int} : (l.map T.int).set k (.int v) = (l.set k v).map .int := by rw [List.map_set]
theorem app_int {l : List Int} {v : Int} : l.map T.int ++ [.int v] = (l ++ [v]).map .int := by simp
theorem plI {d : Nat} (l : List Int) : plT (d + 1) (.nd .lst (l.map .int)) = true := by rw [plT]; exact pl_ints l
theorem teq_li {l m : List Int} : teq (.nd .lst (l.map .int)) (.nd .lst (m.map .int)) = decide (l = m) := by
  have h := teq_iff (plI (d := 0) l) (plI (d := 0) m)
  cases e : decide (l = m) with
  | true =>
    have := of_decide_eq_true e
    rw [this]
    exact teq_self (plI (d := 0) m)
  | false =>
    cases e2 : teq (.nd .lst (l.map .int)) (.nd .lst (m.map .int)) with
    | false => rfl
    | true =>
      have z := h.mp e2
      injection z with _ z
      have inj : ∀ {a b : List Int}, a.map T.int = b.map T.int → a = b := fun {a b} => by
        induction a generalizing b with
        | nil => cases b <;> simp
        | cons x a ih => cases b with
          | nil => simp
          | cons y b => intro w; simp only [List.map_cons, List.cons.injEq, T.int.injEq] at w; rw [w.1, ih w.2]
      exact absurd (inj z) (of_decide_eq_false e)
theorem eqT_ln {l : List Int} : eqT (.nd .lst (l.map .int)) (.nd .lst []) = some (.bl (decide (l = []))) := by
  have := teq_li (l := l) (m := [])
  rw [← this]
  exact eqT_pl (plI (d := 7) l) (plI (d := 7) [])
theorem neT_ln {l : List Int} : neT (.nd .lst (l.map .int)) (.nd .lst []) = some (.bl (!decide (l = []))) := by
  have := teq_li (l := l) (m := [])
  rw [← this]
  exact neT_pl (plI (d := 7) l) (plI (d := 7) [])
end
end VT

/-! VTO: -x; dicts with tuples of ints and texts as keys. -/
namespace VT
open PySem PySem.Spec PyProof.Rows L2
section
variable {Γ : Gx} {X : Cx} {ar : Fx} {W : WX} {e o : Expr} {fa fi : EF} {pos : Pos} {pl : PF} {g ga gb : BF}
def negT : T → Option T
  | .int i => some (.int (-i))
  | _ => none
theorem negT_ok : UnT Γ (fun x H Q => rU (fun i => .int (-i)) x H Q) negT := by
  intro H x t1 t G1 Q r1 e k
  unfold negT at e
  split at e
  · cases e
    cases r1
    exact ⟨_, rfl, k _ H FE (Same.refl H) (.int _) new_FE⟩
  · cases e
theorem n_neg (ha : PE X e (rdB Γ ar ga)) : PE X (.UnaryOp .USub e pos) (rdN Γ ar (bUn negT ga)) := PE.imp (pe_un un_neg ha) fun σ H Q q => tUn_b negT_ok σ H Q q
theorem e_neg (ha : PE X e (rdE Γ ar W fa)) : PE X (.UnaryOp .USub e pos) (rdE Γ ar W (eUn negT fa)) := PE.imp (pe_un un_neg ha) fun σ H Q q => tUn_e negT_ok σ H Q q
end
end VT

/-! VTP: dicts (keys ints and texts, or tuples of them): d[k], k in d, d.get, d[k] = v, places in dicts. -/
namespace VT
open PySem PySem.Spec PyProof.Rows L2
def keyT : T → Option Key
  | .int i => some (.inl i)
  | .str x => some (.inr x)
  | _ => none
def keysT : List T → Option (List Key)
  | [] => some []
  | t :: ts => (keyT t).bind fun k => (keysT ts).bind fun ks => some (k :: ks)
def ixK {κ : Type} [DecidableEq κ] (k : κ) : List κ → Option Nat
  | [] => none
  | k' :: ks => if k' = k then some 0 else (ixK k ks).bind fun j => some (j + 1)
theorem ixK_lt {κ : Type} [DecidableEq κ] {k : κ} : ∀ {ks : List κ} {j : Nat}, ixK k ks = some j → j < ks.length
  | [], _, e => by cases e
  | k' :: ks, j, e => by
    unfold ixK at e
    by_cases h : k' = k
    · rw [if_pos h] at e; cases e; simp
    · rw [if_neg h] at e
      cases e3 : ixK k ks with
      | none => rw [e3] at e; cases e
      | some j' =>
        rw [e3] at e
        cases e
        have := ixK_lt e3
        simp
        omega
theorem valV_ix {κ : Type} [DecidableEq κ] {k : κ} : ∀ {ks : List κ} {vs : List V}, ks.length = vs.length → valV (ks.zip vs) k = (ixK k ks).bind fun j => vs[j]?
  | [], [], _ => rfl
  | k' :: ks, v :: vs, h => by
    rw [List.zip_cons_cons]
    unfold ixK
    by_cases e : k' = k
    · rw [if_pos e, valV_pos e]; rfl
    · rw [if_neg e, valV_neg e, valV_ix (by simpa using h)]
      cases ixK k ks <;> rfl
  | [], _ :: _, h => by simp at h
  | _ :: _, [], h => by simp at h
theorem putK_some {κ : Type} [DecidableEq κ] {k : κ} {y : V} : ∀ {ks : List κ} {vs : List V} {j : Nat}, ks.Nodup → ks.length = vs.length → ixK k ks = some j → putK (ks.zip vs) k y = ks.zip (vs.set j y) := by
  intro ks vs j nd hl e
  have hs : (valV (ks.zip vs) k).isSome = true := by
    rw [valV_ix hl, e]
    have := ixK_lt e
    show (vs[j]?).isSome = true
    rw [List.getElem?_eq_getElem (by omega)]
    rfl
  unfold putK
  rw [if_pos (by rw [valV_any]; exact hs)]
  clear hs
  induction ks generalizing vs j with
  | nil => cases e
  | cons k' ks ih =>
    cases vs with
    | nil => simp at hl
    | cons v vs =>
      unfold ixK at e
      rw [List.nodup_cons] at nd
      rw [List.zip_cons_cons, List.map_cons]
      by_cases h : k' = k
      · rw [if_pos h] at e
        cases e
        subst h
        rw [List.set_cons_zero, List.zip_cons_cons]
        simp only [if_true]
        congr 1
        have : ∀ (l : List (κ × V)), (∀ p ∈ l, p.1 ≠ k') → l.map (fun kv => if kv.1 = k' then (kv.1, y) else kv) = l := fun l hl => by
          induction l with
          | nil => rfl
          | cons p l ih2 =>
            rw [List.map_cons, if_neg (hl p List.mem_cons_self), ih2 fun q hq => hl q (List.mem_cons_of_mem _ hq)]
        exact this _ fun p hp hz => nd.1 (by
          rw [← hz]
          exact (List.of_mem_zip (a := p.1) (b := p.2) hp).1)
      · rw [if_neg h] at e
        cases e3 : ixK k ks with
        | none => rw [e3] at e; cases e
        | some j' =>
          rw [e3] at e
          cases e
          rw [if_neg h, List.set_cons_succ, List.zip_cons_cons, ih nd.2 (by simpa using hl) e3]
theorem putK_none {κ : Type} [DecidableEq κ] {k : κ} {y : V} {ks : List κ} {vs : List V} (hl : ks.length = vs.length) (e : ixK k ks = none) : putK (ks.zip vs) k y = (ks ++ [k]).zip (vs ++ [y]) := by
  rw [putK_new y (by rw [valV_ix hl, e]; rfl), List.zip_append hl]
  rfl

section
variable {Γ : Gx} {ar : Fx} {W : WX} {X : Cx} {a b e o : Expr} {pos : Pos} {ga gb gc g : BF} {fa fb : EF} {pl : PF}
theorem keyT_rep {H : Hp} {v : V} {t : T} {G : FP} {k : Key} (r : Rep Γ H v t G) (e : keyT t = some k) : v = kV k := by
  cases r <;> cases e <;> rfl
theorem keysT_rep {H : Hp} {G : FP} : ∀ {vs : List V} {ts : List T} {ks : List Key}, vs.length = ts.length → (∀ (i : Nat) (v : V) (t : T), vs[i]? = some v → ts[i]? = some t → Rep Γ H v t G) → keysT ts = some ks → vs = ks.map kV
  | [], [], ks, _, _, e => by cases e; rfl
  | v :: vs, t :: ts, ks, hl, h, e => by
    unfold keysT at e
    cases e1 : keyT t with
    | none => rw [e1] at e; cases e
    | some k =>
      rw [e1] at e
      simp only [Option.bind_some] at e
      cases e2 : keysT ts with
      | none => rw [e2] at e; cases e
      | some l =>
        rw [e2] at e
        cases e
        have z := keysT_rep (vs := vs) (ts := ts) (by simpa using hl) (fun i v t a b => h (i + 1) v t (by simpa using a) (by simpa using b)) e2
        rw [List.map_cons, keyT_rep (h 0 v t rfl rfl) e1, z]
  | [], _ :: _, _, hl, _, _ => by simp at hl
  | _ :: _, [], _, hl, _, _ => by simp at hl
def T.kd : T → List T
  | .nd _ ts => ts
  | _ => []
def isDi : T → Bool
  | .nd (.dK _) _ => true
  | .nd (.dT _) _ => true
  | _ => false
/-- where a key stands in a dict -/
def dix : T → T → Option (Option Nat)
  | .nd (.dK ks) _, w => (keyT w).bind fun k => some (ixK k ks)
  | .nd (.dT ks) _, .nd .tup us => (keysT us).bind fun k => some (ixK k ks)
  | _, _ => none
/-- a tuple's object, by its address -/
theorem Rep.tupAt {H : Hp} {x : V} {ts : List T} {G : FP} (h : Rep Γ H x (.nd .tup ts) G) :
    ∃ a vs, x = .ref a ∧ H a = some (.tup vs) ∧ vs.length = ts.length ∧ ∀ (i : Nat) (v : V) (t : T), vs[i]? = some v → ts[i]? = some t → Rep Γ H v t G := by
  cases h with
  | @nd _ _ a vs _ Fs hat hl hm hc hd hs => exact ⟨a, vs, rfl, hat, hl, fun i v t e1 e2 => (hc i v t e1 e2).mono (hs i)⟩
/-- what a look into a dict finds, by the objects -/
theorem dix_at {H : Hp} {k : Kd} {a : Addr} {vs : List V} {ts : List T} {y : V} {w : T} {G' : FP} {o : Option Nat} (hat : At Γ H k a vs) (hl : vs.length = ts.length) (r' : Rep Γ H y w G') (e : dix (.nd k ts) w = some o) :
    IsD H a ∧ DGet H a y (o.bind fun j => vs[j]?) ∧ (∀ j, o = some j → j < ts.length) ∧ isDi (.nd k ts) = true := by
  cases k with
  | dK ks =>
    obtain ⟨hl2, ha⟩ : ks.length = vs.length ∧ H a = some (.dK (ks.zip vs)) := hat
    have e : (keyT w).bind (fun k => some (ixK k ks)) = some o := e
    cases e1 : keyT w with
    | none => rw [e1] at e; cases e
    | some kk =>
      rw [e1] at e
      cases e
      refine ⟨.inl ⟨_, .inl ha⟩, ?_, fun j hj => ?_, rfl⟩
      · rw [keyT_rep r' e1, ← valV_ix hl2]
        exact DGet.k ha
      · have := ixK_lt hj; omega
  | dT ks =>
    obtain ⟨hl2, ha⟩ : ks.length = vs.length ∧ H a = some (.dT (ks.zip vs)) := hat
    cases w with
    | nd kw us =>
      cases kw with
      | tup =>
        have e : (keysT us).bind (fun k => some (ixK k ks)) = some o := e
        cases e1 : keysT us with
        | none => rw [e1] at e; cases e
        | some kk =>
          rw [e1] at e
          cases e
          obtain ⟨b, ws, rfl, hb, hlw, hc⟩ := r'.tupAt
          refine ⟨.inr ⟨_, .inl ha⟩, ?_, fun j hj => ?_, rfl⟩
          · rw [keysT_rep hlw hc e1] at hb
            rw [← valV_ix hl2]
            exact DGet.t ha hb
          · have := ixK_lt hj; omega
      | _ => cases e
    | _ => cases e
  | _ => cases e
theorem dix_get {H : Hp} {x y : V} {u w : T} {G G' : FP} {o : Option Nat} (r : Rep Γ H x u G) (r' : Rep Γ H y w G') (e : dix u w = some o) :
    ∃ (a : Addr) (vs : List V), x = .ref a ∧ vs.length = u.kd.length ∧ IsD H a ∧ DGet H a y (o.bind fun j => vs[j]?) ∧ (∀ j, o = some j → j < u.kd.length) ∧ ∀ (i : Nat) (v : V) (t : T), vs[i]? = some v → u.kd[i]? = some t → Rep Γ H v t G := by
  cases r with
  | @nd _ k a vs ts Fs hat hl hm hc hd hs =>
    obtain ⟨h1, h2, h3, h4⟩ := dix_at hat hl r' e
    exact ⟨a, vs, rfl, hl, h1, h2, h3, fun i v t e1 e2 => (hc i v t e1 e2).mono (hs i)⟩
  | _ => unfold dix at e; cases e

/-! ### d[k] -/
def rDix : R2 := fun x y H Q => ∃ a v, x = .ref a ∧ DGet H a y (some v) ∧ Q v H
theorem ix_dict (hu : X.A.units + 1 < cLine) : IxR X rDix := by
  intro value slice pins s σ H x y v u Q I rx ry h hs
  obtain ⟨a, z, rfl, g, q⟩ := h
  obtain rfl : v = Value.ref a := rx
  have hT := dict_typeIs I g
  unfold subscriptTail
  refine wpAny_bind ?_
  rw [getitemInPython_of_ne hT.not_modules]
  refine wpAny_bind (wpAny_specialOf hT PySem.F.slot_dict_getitem.lookup ?_)
  have fin : wpAny (model X.prog X.w) X.A (subscripted slice false (.ref a) u) (fun r s₃ => wpAny (model X.prog X.w) X.A (letTemporaryGo value (.ref a) r >>= fun _ => pure r) (EP X pins σ Q) X.xe s₃) X.xe s := by
    rw [hs]
    exact wpAny_operating (wpAny_mono (d_getItem hu I g ry fun w' s3 I3 rw' => ⟨z, H, I3, rw', q⟩) (fun r s₃ h₃ => wpAny_bind (wpAny_letTemporaryGo (wpAny_pure h₃))) fun _ _ x => x)
  first
    | exact wpAny_pure (wpAny_bind fin)
    | exact wpAny_bind (wpAny_pure (wpAny_bind fin))
    | exact wpAny_bind fin
def dgetT (u w : T) : Option T := (dix u w).bind fun o => o.bind fun j => (u.kd[j]?).bind imO
theorem dgetT_ok : OpT Γ rDix dgetT := by
  intro H x y t1 t2 t G1 G2 Q r1 r2 e k
  unfold dgetT at e
  cases e1 : dix t1 t2 with
  | none => rw [e1] at e; cases e
  | some o =>
    rw [e1] at e
    simp only [Option.bind_some] at e
    cases o with
    | none => cases e
    | some j =>
      simp only [Option.bind_some] at e
      obtain ⟨e2, hi⟩ := bind_im e
      obtain ⟨a, vs, rfl, hl, _, g, hj, hc⟩ := dix_get r1 r2 e1
      have hj' := hj j rfl
      have ev : vs[j]? = some (vs[j]'(by omega)) := List.getElem?_eq_getElem (by omega)
      refine ⟨a, _, rfl, ?_, k _ H FE (Same.refl H) ((hc j _ t ev e2).im hi FE) new_FE⟩
      rw [← ev]
      exact g
def ixA (u w : T) : Option T := if isDi u = true then dgetT u w else ixT u w
def rIxA (K : PySem.W.Frag) : R2 := fun x y H Q => rIx K x y H Q ∨ rDix x y H Q
theorem ix_any (hu : X.A.units + 1 < cLine) : IxR X (rIxA X.K) := ix_seq.or (ix_dict hu)
theorem ixA_ok : OpT Γ (rIxA Γ.K) ixA := by
  intro H x y t1 t2 t G1 G2 Q r1 r2 e k
  unfold ixA at e
  by_cases h : isDi t1 = true
  · rw [if_pos h] at e
    exact .inr (dgetT_ok H x y t1 t2 t G1 G2 Q r1 r2 e k)
  · rw [if_neg h] at e
    exact .inl (ixT_ok H x y t1 t2 t G1 G2 Q r1 r2 e k)
theorem nIxA (hu : X.A.units + 1 < cLine) (ha : PE X a (rdB Γ ar ga)) (hb : PE X b (rdB Γ ar gb)) (hs : PlainIx b) (hK : X.K = Γ.K := by rfl) : PE X (.Subscript a b pos) (rdN Γ ar (bOp ixA ga gb)) := PE.imp (pe_ix (hK ▸ ix_any hu) ha hb hs) (tOp_b ixA_ok)
theorem eIxA (hu : X.A.units + 1 < cLine) (ha : PE X a (rdE Γ ar W fa)) (hb : PE X b (rdE Γ ar W fb)) (hs : PlainIx b) (hK : X.K = Γ.K := by rfl) : PE X (.Subscript a b pos) (rdE Γ ar W (eOp ixA fa fb)) := PE.imp (pe_ix (hK ▸ ix_any hu) ha hb hs) (tOp_e ixA_ok)
theorem eIxEB (hu : X.A.units + 1 < cLine) (ha : PE X a (rdE Γ ar W fa)) (hb : PE X b (rdB Γ ar gb)) (hs : PlainIx b) (hK : X.K = Γ.K := by rfl) : PE X (.Subscript a b pos) (rdE Γ ar W (eOpB ixA fa gb)) := PE.imp (pe_ix (hK ▸ ix_any hu) ha hb hs) fun _ _ _ q => tOp_eb ixA_ok q
/-! ### places -/
def pIxA (pl : PF) (g : BF) : PF := fun S => (pl S).bind fun ip => (sl S ip.1).bind fun t => (tAt ip.2 t).bind fun u => (g S).bind fun w => match u, w with
  | .nd .lst ts, .int k => (ixN ts.length k).bind fun j => some (ip.1, ip.2 ++ [j])
  | u, w => (dix u w).bind fun o => o.bind fun j => some (ip.1, ip.2 ++ [j])
theorem p_ixA (hu : X.A.units + 1 < cLine) (ha : PE X a (rdP Γ ar pl)) (hb : PE X b (rdB Γ ar g)) (hs : PlainIx b) (hK : X.K = Γ.K := by rfl) : PE X (.Subscript a b pos) (rdP Γ ar (pIxA pl g)) := by
  refine PE.imp (pe_ix (hK ▸ ix_list.or (ix_dict hu)) ha hb hs) fun σ H Q q => ?_
  obtain ⟨S, F, i, p', t, t1, R, ep, e0, e1, kk⟩ := q
  unfold pIxA at ep
  cases q1 : pl S with
  | none => rw [q1] at ep; cases ep
  | some ip =>
    obtain ⟨i', p⟩ := ip
    rw [q1] at ep
    simp only [Option.bind_some] at ep
    cases q2 : sl S i' with
    | none => rw [q2] at ep; cases ep
    | some t' =>
      rw [q2] at ep
      simp only [Option.bind_some] at ep
      cases q3 : tAt p t' with
      | none => rw [q3] at ep; cases ep
      | some u =>
        rw [q3] at ep
        simp only [Option.bind_some] at ep
        cases q4 : g S with
        | none => rw [q4] at ep; cases ep
        | some w =>
          rw [q4] at ep
          simp only [Option.bind_some] at ep
          split at ep
          · rename_i ts k
            cases q5 : ixN ts.length k with
            | none => rw [q5] at ep; cases ep
            | some j =>
              rw [q5] at ep
              cases ep
              rw [e0] at q2
              cases q2
              refine ⟨S, F, i, p, t, _, R, q1, e0, q3, fun v0 v H1 h1 h2 s1 => ?_⟩
              refine ⟨S, F, _, R.same s1, q4, fun y H2 G2 s2 r2 => ?_⟩
              cases r2
              obtain ⟨a, vs, vj, rfl, hat, hl, hj, fin⟩ := step_down (u := .non) R e0 e1 q3 kk v0 v h1 h2
              have s12 := s1.trans s2
              refine .inl ⟨a, vs, k, vj, rfl, rfl, .inl (.inl (s12 _ _ hat)), ?_, fin H2 s12⟩
              unfold atI
              rw [hl, q5]
              exact hj
          · cases q5 : dix u w with
            | none => rw [q5] at ep; cases ep
            | some oo =>
              rw [q5] at ep
              simp only [Option.bind_some] at ep
              cases oo with
              | none => cases ep
              | some j =>
                cases ep
                rw [e0] at q2
                cases q2
                refine ⟨S, F, i, p, t, _, R, q1, e0, q3, fun v0 v H1 h1 h2 s1 => ?_⟩
                refine ⟨S, F, _, R.same s1, q4, fun y H2 G2 s2 r2 => ?_⟩
                have s12 := s1.trans s2
                obtain ⟨k, ts, rfl⟩ : ∃ k ts, u = .nd k ts := by
                  cases u with
                  | nd k ts => exact ⟨k, ts, rfl⟩
                  | _ => unfold dix at q5; cases q5
                obtain ⟨a, vs, vj, rfl, hat, hl, hj, fin⟩ := step_down (u := .non) R e0 e1 q3 kk v0 v h1 h2
                have hat2 : At Γ H2 k a vs := hat.keep (fun _ o eo => s12 _ _ eo) fun b o _ eo => s12 _ _ eo
                obtain ⟨_, g, _, _⟩ := dix_at hat2 hl r2 q5
                refine .inr ⟨a, vj, rfl, ?_, fin H2 s12⟩
                rw [← hj]
                exact g
/-! ### in -/
def rDIn (neg : Bool) : R2 := fun y x H Q => ∃ a o, x = .ref a ∧ DGet H a y o ∧ Q (.bl (if neg then !o.isSome else o.isSome)) H
theorem op_dIn (hu : X.A.units + 1 < cLine) : OpR X (compareOp .In) (rDIn false) := by
  intro pins s σ H x y v u Q I rx ry h
  obtain ⟨a, o, rfl, g, q⟩ := h
  obtain rfl : u = Value.ref a := ry
  exact d_in hu I g rx fun s3 I3 => ⟨.bl o.isSome, H, I3, rfl, q⟩
theorem op_dNotIn (hu : X.A.units + 1 < cLine) : OpR X (compareOp .NotIn) (rDIn true) := by
  intro pins s σ H x y v u Q I rx ry h
  obtain ⟨a, o, rfl, g, q⟩ := h
  obtain rfl : u = Value.ref a := ry
  exact d_notIn hu I g rx fun s3 I3 => ⟨.bl (!o.isSome), H, I3, rfl, q⟩
def inAO (t1 t2 : T) : Option Bool := if isDi t2 = true then (dix t2 t1).bind fun o => some o.isSome else inO t1 t2
def inA (t1 t2 : T) : Option T := (inAO t1 t2).map .bl
def notInA (t1 t2 : T) : Option T := (inAO t1 t2).map fun b => .bl (!b)
def rInA (K : PySem.W.Frag) (neg : Bool) : R2 := fun x y H Q => rInT K neg x y H Q ∨ rDIn neg x y H Q
theorem op_inA (hu : X.A.units + 65 < cLine) : OpR X (compareOp .In) (rInA X.K false) := or_OpR (op_inT hu) (op_dIn (by omega))
theorem op_notInA (hu : X.A.units + 65 < cLine) : OpR X (compareOp .NotIn) (rInA X.K true) := or_OpR (op_notInT hu) (op_dNotIn (by omega))
theorem inAO_ok {neg : Bool} {H : Hp} {x y : V} {t1 t2 : T} {b : Bool} {G1 G2 : FP} {Q : VK} (r1 : Rep Γ H x t1 G1) (r2 : Rep Γ H y t2 G2) (e : inAO t1 t2 = some b) (k : Q (.bl (if neg then !b else b)) H) : rInA Γ.K neg x y H Q := by
  unfold inAO at e
  by_cases h : isDi t2 = true
  · rw [if_pos h] at e
    cases e1 : dix t2 t1 with
    | none => rw [e1] at e; cases e
    | some o =>
      rw [e1] at e
      cases e
      obtain ⟨a, vs, rfl, hl, _, g, hj, hc⟩ := dix_get r2 r1 e1
      refine .inr ⟨a, _, rfl, g, ?_⟩
      have : (o.bind fun j => vs[j]?).isSome = o.isSome := by
        cases o with
        | none => rfl
        | some j =>
          have := hj j rfl
          show (vs[j]?).isSome = true
          rw [List.getElem?_eq_getElem (by omega)]
          rfl
      rw [this]
      exact k
  · rw [if_neg h] at e
    exact .inl (inO_ok r1 r2 e k)
theorem inA_ok : OpT Γ (rInA Γ.K false) inA := by
  intro H x y t1 t2 t G1 G2 Q r1 r2 e k
  unfold inA at e
  cases e1 : inAO t1 t2 with
  | none => rw [e1] at e; cases e
  | some b =>
    rw [e1] at e
    cases e
    exact inAO_ok r1 r2 e1 (k _ H FE (Same.refl H) (.bl _) new_FE)
theorem notInA_ok : OpT Γ (rInA Γ.K true) notInA := by
  intro H x y t1 t2 t G1 G2 Q r1 r2 e k
  unfold notInA at e
  cases e1 : inAO t1 t2 with
  | none => rw [e1] at e; cases e
  | some b =>
    rw [e1] at e
    cases e
    exact inAO_ok r1 r2 e1 (k _ H FE (Same.refl H) (.bl _) new_FE)
/-! ### {} -/
def nDK : BF := nC (.nd (.dK []) [])
def nDT : BF := nC (.nd (.dT []) [])
theorem new_dict {H : Hp} {p : Addr} {k : Kd} {ob : HO} (hp : H p = none) (hat : At Γ (upd H p ob) k p []) : Same H (upd H p ob) ∧ Rep Γ (upd H p ob) (.ref p) (.nd k []) (fun a => a = p) ∧ New H (upd H p ob) (fun a => a = p) := by
  refine ⟨fun b o e => ?_, .nd (Fs := fun _ => FE) hat rfl (fun _ => ⟨rfl, fun _ z => z⟩) (fun i v t e => by simp at e) (fun _ _ _ _ z => z.elim) (fun _ _ z => z.elim), fun a e => by rw [e]; exact hp, fun a e => ?_⟩
  · have : b ≠ p := fun z => by rw [z, hp] at e; cases e
    rw [upd_ne this]; exact e
  · rw [e, upd_same]; exact fun z => nomatch z
theorem n_dK : PE X (.Dict [] [] pos) (rdN Γ ar nDK) := PE.imp pe_dnewK fun σ H Q q p hp => by
  obtain ⟨S, F, t, R, e, k⟩ := q
  cases e
  obtain ⟨s, r, n⟩ := new_dict (Γ := Γ) (k := .dK []) (ob := .dK []) hp ⟨rfl, upd_same⟩
  exact k _ _ _ s r n
theorem n_dT : PE X (.Dict [] [] pos) (rdN Γ ar nDT) := PE.imp pe_dnewT fun σ H Q q p hp => by
  obtain ⟨S, F, t, R, e, k⟩ := q
  cases e
  obtain ⟨s, r, n⟩ := new_dict (Γ := Γ) (k := .dT []) (ob := .dT []) hp ⟨rfl, upd_same⟩
  exact k _ _ _ s r n
/-! ### d.get(k, x) -/
def dgetD (u w z : T) : Option T := (dix u w).bind fun o => match o with
  | some j => (u.kd[j]?).bind imO
  | none => imO z
def bGet (ga gb gc : BF) : BF := fun S => (ga S).bind fun u => if isDi u = true then (gb S).bind fun w => (gc S).bind fun z => dgetD u w z else none
theorem n_get {f : Expr} {apos cpos : Pos} (hu : X.A.units + 1 < cLine) (ho : PE X o (rdB Γ ar ga)) (he : PE X e (rdB Γ ar gb)) (hf : PE X f (rdB Γ ar gc)) (m : M2 X o "get" apos e f cpos := by exact ⟨rfl, rfl, rfl, rfl⟩) :
    PE X (.Call (.Attribute o "get" apos) [e, f] [] cpos) (rdN Γ ar (bGet ga gb gc)) := by
  refine PE.imp (pe_dget2 hu ho he hf m) fun σ H Q q => ?_
  obtain ⟨S, F, t, R, ee, k⟩ := q
  unfold bGet at ee
  cases e1 : ga S with
  | none => rw [e1] at ee; cases ee
  | some u =>
    rw [e1] at ee
    simp only [Option.bind_some] at ee
    by_cases hd : isDi u = true
    · rw [if_pos hd] at ee
      cases e2 : gb S with
      | none => rw [e2] at ee; cases ee
      | some w =>
        rw [e2] at ee
        simp only [Option.bind_some] at ee
        cases e3 : gc S with
        | none => rw [e3] at ee; cases ee
        | some z =>
          rw [e3] at ee
          simp only [Option.bind_some] at ee
          unfold dgetD at ee
          cases e4 : dix u w with
          | none => rw [e4] at ee; cases ee
          | some oo =>
            rw [e4] at ee
            simp only [Option.bind_some] at ee
            refine ⟨S, F, u, R, e1, fun x H1 G1 s1 r1 => ?_⟩
            have hx : ∃ a, x = .ref a ∧ IsD H1 a := by
              unfold isDi at hd
              split at hd
              · cases r1 with
                | @nd _ _ a vs _ Fs hat hl hm hc hd hs => exact ⟨a, rfl, .inl ⟨_, .inl hat.2⟩⟩
              · cases r1 with
                | @nd _ _ a vs _ Fs hat hl hm hc hd hs => exact ⟨a, rfl, .inr ⟨_, .inl hat.2⟩⟩
              · cases hd
            obtain ⟨a, rfl, isd⟩ := hx
            refine ⟨a, rfl, isd, S, F, w, R.same s1, e2, fun y H2 G2 s2 r2 => ⟨S, F, z, (R.same s1).same s2, e3, fun zz H3 G3 s3 r3 => ?_⟩⟩
            have s23 := s2.trans s3
            obtain ⟨a', vs, ea, hl, _, g, hj, hc⟩ := dix_get (r1.same s23) (r2.same s3) e4
            cases ea
            refine ⟨_, g, ?_⟩
            have s13 := s1.trans s23
            cases oo with
            | none =>
              simp only at ee
              have e5 : imO z = some t := ee
              unfold imO at e5
              by_cases hi : z.im = true
              · rw [if_pos hi] at e5
                cases e5
                exact k zz H3 FE s13 (r3.im hi FE) new_FE
              · rw [if_neg hi] at e5; cases e5
            | some j =>
              simp only at ee
              obtain ⟨e5, hi⟩ := bind_im ee
              have hj' := hj j rfl
              have ev : vs[j]? = some (vs[j]'(by omega)) := List.getElem?_eq_getElem (by omega)
              show Q ((vs[j]?).getD zz) H3
              rw [ev]
              exact k _ H3 FE s13 ((hc j _ t ev e5).im hi FE) new_FE
    · rw [if_neg hd] at ee; cases ee
/-! ### d[k] = v -/
def dput (ts : List T) (t : T) (w : Kd) (w' : Kd) : Option Nat → T
  | some j => .nd w (ts.set j t)
  | none => .nd w' (ts ++ [t])
def dputM (w : T) : MuF := fun u us => match u, us with
  | .nd (.dK ks) ts, [t] => (keyT w).bind fun k => if ts.length < 100000 ∧ ks.Nodup then some (dput ts t (.dK ks) (.dK (ks ++ [k])) (ixK k ks), .non) else none
  | .nd (.dT ks) ts, [t] => (match w with | .nd .tup us => keysT us | _ => none).bind fun k => if ts.length < 100000 ∧ ks.Nodup then some (dput ts t (.dT ks) (.dT (ks ++ [k])) (ixK k ks), .non) else none
  | _, _ => none
def rDPut (y : V) : V → List V → Hp → VK → Prop := fun x vs H Q => ∃ v a H4, vs = [v] ∧ x = .ref a ∧ DPut H a y v H4 ∧ Q .non H4
/-- a dict is written -/
theorem dput_core {κ : Type} [DecidableEq κ] {mk : List (κ × V) → HO} {kk : List κ → Kd} {ks : List κ} {k : κ} {H : Hp} {a : Addr} {ws : List V} {ts : List T} {Fs : Nat → FP} {G Gx G0 : FP} {y : V} {t : T} {Q : VK}
    (hmk : ∀ l, ¬ Im (mk l)) (hAt : ∀ (H : Hp) (ks : List κ) (ws : List V), ks.length = ws.length → H a = some (mk (ks.zip ws)) → At Γ H (kk ks) a ws) (hmu : ∀ ks, (kk ks).mu = true)
    (nd : ks.Nodup) (hl : ks.length = ws.length) (ha : H a = some (mk (ks.zip ws))) (hlw : ws.length = ts.length) (ga : G a) (na : ∀ i, ¬ Fs i a)
    (hc : ∀ (i : Nat) (v : V) (t : T), ws[i]? = some v → ts[i]? = some t → Rep Γ H v t (Fs i)) (hdd : ∀ i j a, i ≠ j → Fs i a → Fs j a → False) (hss : ∀ i a, Fs i a → G a)
    (ry : Rep Γ H y t G0) (h0 : ∀ a, G0 a → Gx a) (dj : ∀ a, G a → Gx a → False)
    (kq : ∀ v H' G' Gr, Ke H H' G → (∀ a, G' a ∨ Gr a → G a ∨ Gx a) → (∀ a, G' a → Gr a → False) → (∀ a, H a ≠ none → H' a ≠ none) → Rep Γ H' (.ref a) (dput ts t (kk ks) (kk (ks ++ [k])) (ixK k ks)) G' → Rep Γ H' v .non Gr → Q v H') : Q .non (upd H a (mk (putK (ks.zip ws) k y))) := by
  have dj1 : ∀ a, G a → G0 a → False := fun a g z => dj a g (h0 a z)
  cases ej : ixK k ks with
  | some j =>
    rw [ej] at kq
    have hj : j < ts.length := by have := ixK_lt ej; omega
    rw [putK_some nd hl ej]
    refine kq _ _ (fun x => x = a ∨ ∃ i, (fun m => if m = j then G0 else Fs m) i x) FE (ke_upd ha (hmk _) ga) (fun b z => ?_) (fun _ _ z => z) al_upd
      (node_upd ha (hmk _) (hAt _ _ _ (by rw [List.length_set]; exact hl) upd_same) (by rw [List.length_set, List.length_set]; exact hlw) (set_kids hc ry hj hlw) (set_dj hdd hss dj1) fun i z => ?_) .non
    · rcases z with (z | ⟨i, z⟩) | z
      · rw [z]; exact .inl ga
      · by_cases c1 : i = j
        · simp only [if_pos c1] at z; exact .inr (h0 b z)
        · simp only [if_neg c1] at z; exact .inl (hss i b z)
      · exact z.elim
    · by_cases c1 : i = j
      · simp only [if_pos c1] at z; exact dj1 a ga z
      · simp only [if_neg c1] at z; exact na i z
  | none =>
    rw [ej] at kq
    rw [putK_none hl ej]
    have kkk : ∀ (i : Nat) (v : V) (t' : T), (ws ++ [y])[i]? = some v → (ts ++ [t])[i]? = some t' → Rep Γ H v t' ((fun m => if m = ts.length then G0 else Fs m) i) := fun i v t' q1 q2 => by
      by_cases c1 : i < ts.length
      · simp only [if_neg (show ¬ i = ts.length by omega)]
        rw [List.getElem?_append_left (by omega)] at q1 q2
        exact hc i v t' q1 q2
      · have hj : i = ts.length := by
          have := (List.getElem?_eq_some_iff.mp q2).1
          simp at this
          omega
        subst hj
        simp only [if_true]
        simp at q2
        subst q2
        rw [← hlw] at q1
        simp at q1
        subst q1
        exact ry
    refine kq _ _ (fun x => x = a ∨ ∃ i, (fun m => if m = ts.length then G0 else Fs m) i x) FE (ke_upd ha (hmk _) ga) (fun b z => ?_) (fun _ _ z => z) al_upd
      (node_upd ha (hmk _) (hAt _ _ _ (by simp [hl]) upd_same) (by simp [hlw]) kkk (set_dj hdd hss dj1) fun i z => ?_) .non
    · rcases z with (z | ⟨i, z⟩) | z
      · rw [z]; exact .inl ga
      · by_cases c1 : i = ts.length
        · simp only [if_pos c1] at z; exact .inr (h0 b z)
        · simp only [if_neg c1] at z; exact .inl (hss i b z)
      · exact z.elim
    · by_cases c1 : i = ts.length
      · simp only [if_pos c1] at z; exact dj1 a ga z
      · simp only [if_neg c1] at z; exact na i z
theorem dputM_ok {w : T} {y : V} {Gw : FP} : ∀ (H : Hp) (x : V) (u : T) (us : List T) (u' res : T) (G Gx : FP) (Gs : Nat → FP) (vs : List V) (Q : VK), Rep Γ H y w Gw → Rep Γ H x u G → vs.length = us.length →
  (∀ (j : Nat) (v : V) (t : T), vs[j]? = some v → us[j]? = some t → Rep Γ H v t (Gs j)) → (∀ i j a, i ≠ j → Gs i a → Gs j a → False) → (∀ j a, Gs j a → Gx a) → (∀ a, G a → Gx a → False) → dputM w u us = some (u', res) →
  (∀ v H' G' Gr, Ke H H' G → (∀ a, G' a ∨ Gr a → G a ∨ Gx a) → (∀ a, G' a → Gr a → False) → (∀ a, H a ≠ none → H' a ≠ none) → Rep Γ H' x u' G' → Rep Γ H' v res Gr → Q v H') → rDPut y x vs H Q := by
  intro H x u us u' res G Gx Gs vs Q rk r hl hg hd hs dj e k
  unfold dputM at e
  split at e
  · rename_i ks ts t
    cases e1 : keyT w with
    | none => rw [e1] at e; cases e
    | some kk =>
      rw [e1] at e
      simp only [Option.bind_some] at e
      by_cases hz : ts.length < 100000 ∧ ks.Nodup
      · rw [if_pos hz] at e
        cases e
        cases r with
        | @nd _ _ a ws _ Fs hat hlw hm hc hdd hss =>
          obtain ⟨hln, ha⟩ : ks.length = ws.length ∧ H a = some (.dK (ks.zip ws)) := hat
          match vs, hl with
          | [v], _ =>
            have ry := hg 0 v _ rfl rfl
            refine ⟨v, a, upd H a (.dK (putK (ks.zip ws) kk v)), rfl, rfl, ?_, ?_⟩
            · rw [keyT_rep rk e1]
              exact DPut.k ha (sz5' (by rw [List.length_zip]; omega))
            · exact dput_core (mk := HO.dK) (kk := Kd.dK) (fun _ z => z) (fun _ _ _ h1 h2 => ⟨h1, h2⟩) (fun _ => rfl) hz.2 hln ha hlw (hm rfl).1 (hm rfl).2 hc hdd hss ry (hs 0) dj k
      · rw [if_neg hz] at e; cases e
  · rename_i ks ts t
    cases w with
    | nd kd us' =>
      cases kd with
      | tup =>
        simp only at e
        cases e1 : keysT us' with
        | none => rw [e1] at e; cases e
        | some kk =>
          rw [e1] at e
          simp only [Option.bind_some] at e
          by_cases hz : ts.length < 100000 ∧ ks.Nodup
          · rw [if_pos hz] at e
            cases e
            cases r with
            | @nd _ _ a ws _ Fs hat hlw hm hc hdd hss =>
              obtain ⟨hln, ha⟩ : ks.length = ws.length ∧ H a = some (.dT (ks.zip ws)) := hat
              obtain ⟨b, ys, rfl, hb, hlb, hcb⟩ := rk.tupAt
              rw [keysT_rep hlb hcb e1] at hb
              match vs, hl with
              | [v], _ =>
                have ry := hg 0 v _ rfl rfl
                refine ⟨v, a, upd H a (.dT (putK (ks.zip ws) kk v)), rfl, rfl, ?_, ?_⟩
                · exact DPut.t ha hb (sz5' (by rw [List.length_zip]; omega))
                · exact dput_core (mk := HO.dT) (kk := Kd.dT) (fun _ z => z) (fun _ _ _ h1 h2 => ⟨h1, h2⟩) (fun _ => rfl) hz.2 hln ha hlw (hm rfl).1 (hm rfl).2 hc hdd hss ry (hs 0) dj k
          · rw [if_neg hz] at e; cases e
      | _ => cases e
    | _ => cases e
  · cases e
end
end VT

/-! VTQ: stores into lists and dicts. -/
namespace VT
open PySem PySem.Spec PyProof.Rows L2
section
variable {Γ : Gx} {ar : Fx} {W : WX} {X : Cx} {a b e o : Expr} {pos : Pos} {ga gb gc g : BF} {fa fb : EF} {pl : PF}
def rSetD : V → V → V → Hp → (Hp → Prop) → Prop := fun o i v H Q => ∃ a H4, o = .ref a ∧ DPut H a i v H4 ∧ Q H4
theorem set_dict (hu : X.A.units + 1 < cLine) : PSet X rSetD := by
  intro pins s σ H o i v ov iv u Q I ro ri rv h
  obtain ⟨a, H4, rfl, g, q⟩ := h
  obtain rfl : ov = Value.ref a := ro
  exact d_setItem hu I g ri rv fun s4 I4 => ⟨H4, I4, q⟩
def rSetA : V → V → V → Hp → (Hp → Prop) → Prop := fun o i v H Q => rSetL o i v H Q ∨ rSetD o i v H Q
theorem set_any (hu : X.A.units + 1 < cLine) : PSet X rSetA := by
  intro pins s σ H o i v ov iv u Q I ro ri rv h
  rcases h with h | h
  · exact set_list pins s σ H o i v ov iv u Q I ro ri rv h
  · exact set_dict hu pins s σ H o i v ov iv u Q I ro ri rv h
def setA (w : T) : MuF := fun u us => if isDi u = true then dputM w u us else match w with
  | .int k => setM k u us
  | _ => none
def rSetK (Γ : Gx) (y : V) (w : T) : V → List V → Hp → VK → Prop := fun x vs H Q => (∃ G, Rep Γ H y w G) → ∃ v, vs = [v] ∧ rSetA x y v H fun H3 => Q .non H3
theorem setA_ok {w : T} {y : V} : MutT Γ (rSetK Γ y w) (setA w) := by
  intro H x u us u' res G Gx Gs vs Q r hl hg hd hs dj e k ⟨Gw, rk⟩
  unfold setA at e
  by_cases h : isDi u = true
  · rw [if_pos h] at e
    obtain ⟨v, a, H4, ev, rfl, p, q⟩ := dputM_ok H x u us u' res G Gx Gs vs Q rk r hl hg hd hs dj e k
    exact ⟨v, ev, .inr ⟨a, H4, rfl, p, q⟩⟩
  · rw [if_neg h] at e
    split at e
    · cases rk
      obtain ⟨v, ev, q⟩ := setM_ok H x u us u' res G Gx Gs vs Q r hl hg hd hs dj e k
      exact ⟨v, ev, .inl q⟩
    · cases e
def sSetA (pl : PF) (g : BF) (f : EF) : SF := fun S => (f S).bind fun rx => match rx with
  | (.ex c, S1) => some (.ex c, S1)
  | (.ok t, S1) => (pl S1).bind fun ip => (sl S1 ip.1).bind fun t0 => (tAt ip.2 t0).bind fun u => (g S1).bind fun w => (setA w u [t]).bind fun ur => some (.nx, S1.set ip.1 (some (tPut ip.2 t0 ur.1)))
theorem s_setA {i : Expr} {pos' : Pos} (hu : X.A.units + 1 < cLine) (ho : PE X o (rdP Γ ar pl)) (hi : PE X i (rdB Γ ar g)) (hv : PE X e (rdE Γ ar W fa))
    (hs : swapsWithSole [.Subscript o i pos'] e pos.line X.env = pure false := by rfl) (hw : swappedStores [.Subscript o i pos'] e X.env = pure none := by rfl) (h1 : (assignEach [.Subscript o i pos'] X.env).map (·.2) = [assign (.Subscript o i pos') X.env] := by rfl)
    (hasg : ∀ v, assign (.Subscript o i pos') X.env v = (do let ov ← holding [v] (eval o X.env); let iv ← holding [v, ov] (eval i X.env); standAt pos'; holding [v, ov, iv] (setItem ov iv v); release [v, ov, iv] []) := by intro _; rfl) :
    PS X (.Assign [.Subscript o i pos'] e pos) (rdS Γ ar W (sSetA pl g fa)) := by
  refine PS.imp (ps_asg hv (pg_sub ho hi (set_any hu) hasg) hs hw h1) fun D σ H q => ?_
  obtain ⟨S, F, fl, S', R, ee, kk⟩ := q
  unfold sSetA at ee
  cases q0 : fa S with
  | none => rw [q0] at ee; cases ee
  | some o1 =>
    obtain ⟨r1, S1⟩ := o1
    rw [q0] at ee
    simp only [Option.bind_some] at ee
    cases r1 with
    | ex c => cases ee; exact ⟨S, F, _, _, R, q0, fun H' F' R' u => kk σ H' F' R' u⟩
    | ok t =>
      simp only at ee
      cases q1 : pl S1 with
      | none => rw [q1] at ee; cases ee
      | some ip =>
        obtain ⟨i, p⟩ := ip
        rw [q1] at ee
        simp only [Option.bind_some] at ee
        cases q2 : sl S1 i with
        | none => rw [q2] at ee; cases ee
        | some t0 =>
          rw [q2] at ee
          simp only [Option.bind_some] at ee
          cases q3 : tAt p t0 with
          | none => rw [q3] at ee; cases ee
          | some u =>
            rw [q3] at ee
            simp only [Option.bind_some] at ee
            cases q5 : g S1 with
            | none => rw [q5] at ee; cases ee
            | some w =>
              rw [q5] at ee
              simp only [Option.bind_some] at ee
              cases q4 : setA w u [t] with
              | none => rw [q4] at ee; cases ee
              | some ur =>
                obtain ⟨u', res⟩ := ur
                rw [q4] at ee
                cases ee
                refine ⟨S, F, _, _, R, q0, fun y H1 F1 G1 o1 => ⟨S1, F1, i, p, t0, u, o1.rs, q1, q2, q3, fun v0 v H2 h1 h2 s => ?_⟩⟩
                refine ⟨S1, F1, _, (o1.same s).rs, q5, fun iv H3 G3 s3 r3 => ?_⟩
                have s23 := s.trans s3
                have o2 := o1.same s23
                have A : ArgsP Γ H3 σ [y] [.val t] (FU G1 FE) := argsP_nil.val o2.r fun _ _ z => z
                have fin := mut_core (Q := fun _ H' => D.nx σ H') (setA_ok (w := w) (y := iv)) o2.rs A rfl (fun a f g => g.elim (o2.d a f) fun z => z) (fun a g => g.elim (o2.al a) fun z => z.elim) q2 q3 q4 h1 (vAt_same s23 h2) fun w H' F' G R' rw' d al u2 => kk σ H' F' R' ((o2.u.sub fun a z => z.elim .inl fun z => z.elim .inr fun z => z.elim).trans (u2.sub fun a z => .inl z))
                obtain ⟨y', ey, q⟩ := fin ⟨_, r3⟩
                cases ey
                exact q
end
end VT
/-! ### what is read of a thing: a part of it -/
namespace VT
open PySem PySem.Spec PyProof.Rows L2
section
variable {Γ : Gx} {ar : Fx} {W : WX} {X : Cx} {a b e o : Expr} {pos : Pos} {ga gb gc g : BF} {fa fb : EF} {pl : PF}
def OpB (Γ : Gx) (r : R2) (f : T → T → Option T) : Prop := ∀ (H : Hp) (x y : V) (t1 t2 t : T) (G1 G2 : FP) (Q : VK), Rep Γ H x t1 G1 → Rep Γ H y t2 G2 → f t1 t2 = some t →
  (∀ v H' G, Same H H' → Rep Γ H' v t G → Q v H') → r x y H Q
theorem tOp_bb {r : R2} {f : T → T → Option T} (h : OpB Γ r f) (σ : L2.St) (H : Hp) (Q : VK) (q : rdB Γ ar (bOp f ga gb) σ H Q) : tOp r (rdB Γ ar ga) (rdB Γ ar gb) σ H Q := by
  obtain ⟨S, F, t, R, e, k⟩ := q
  unfold bOp at e
  cases e1 : ga S with
  | none => rw [e1] at e; cases e
  | some t1 =>
    rw [e1] at e
    simp only [Option.bind_some] at e
    cases e2 : gb S with
    | none => rw [e2] at e; cases e
    | some t2 =>
      rw [e2] at e
      refine ⟨S, F, t1, R, e1, fun x H1 G1 s1 r1 => ⟨S, F, t2, R.same s1, e2, fun y H2 G2 s2 r2 => ?_⟩⟩
      exact h H2 x y t1 t2 t G1 G2 Q (r1.same s2) r2 e fun v H3 G s3 r3 => k v H3 G ((s1.trans s2).trans s3) r3
def ixB (u w : T) : Option T := match u, w with
  | .nd .lst ts, .int i => atI ts i
  | .nd .fz ts, .int i => atI ts i
  | .nd .tup ts, .int i => atI ts i
  | .str z, .int i => if z.length ≤ 100000 then (atI z.cps.toList i).bind fun c => some (.str ⟨#[c]⟩) else none
  | u, w => (dix u w).bind fun o => o.bind fun j => u.kd[j]?
theorem ixB_ok : OpB Γ (rIxA Γ.K) ixB := by
  intro H x y t1 t2 t G1 G2 Q r1 r2 e k
  unfold ixB at e
  split at e
  · obtain ⟨a, vs, rfl, hq, hl, hc⟩ := r1.list (.inl rfl)
    cases r2
    obtain ⟨v, j, q1, q2, q3⟩ := atI_map hl e
    exact .inl (.inl ⟨a, vs, _, v, rfl, rfl, hq, q1, k v H _ (Same.refl H) (hc j v t q2 q3)⟩)
  · obtain ⟨a, vs, rfl, hq, hl, hc⟩ := r1.list (.inr rfl)
    cases r2
    obtain ⟨v, j, q1, q2, q3⟩ := atI_map hl e
    exact .inl (.inl ⟨a, vs, _, v, rfl, rfl, hq, q1, k v H _ (Same.refl H) (hc j v t q2 q3)⟩)
  · obtain ⟨a, vs, rfl, hq, hl, hc⟩ := r1.tupl
    cases r2
    obtain ⟨v, j, q1, q2, q3⟩ := atI_map hl e
    exact .inl (.inr (.inl ⟨a, vs, _, v, rfl, rfl, hq, q1, k v H _ (Same.refl H) (hc j v t q2 q3)⟩))
  · rename_i z i
    by_cases hz : z.length ≤ 100000
    · rw [if_pos hz] at e
      cases e1 : atI z.cps.toList i with
      | none => rw [e1] at e; cases e
      | some c =>
        rw [e1] at e
        cases e
        cases r1
        cases r2
        exact .inl (.inr (.inr ⟨z, i, c, rfl, rfl, sz5 hz, e1, k _ H FE (Same.refl H) (.str _)⟩))
    · rw [if_neg hz] at e; cases e
  · cases e1 : dix t1 t2 with
    | none => rw [e1] at e; cases e
    | some o =>
      rw [e1] at e
      simp only [Option.bind_some] at e
      cases o with
      | none => cases e
      | some j =>
        simp only [Option.bind_some] at e
        obtain ⟨a, vs, rfl, hl, _, g, hj, hc⟩ := dix_get r1 r2 e1
        have hj' := hj j rfl
        have ev : vs[j]? = some (vs[j]'(by omega)) := List.getElem?_eq_getElem (by omega)
        refine .inr ⟨a, _, rfl, ?_, k _ H _ (Same.refl H) (hc j _ t ev e)⟩
        rw [← ev]
        exact g
theorem b_ix (hu : X.A.units + 1 < cLine) (ha : PE X a (rdB Γ ar ga)) (hb : PE X b (rdB Γ ar gb)) (hs : PlainIx b) (hK : X.K = Γ.K := by rfl) : PE X (.Subscript a b pos) (rdB Γ ar (bOp ixB ga gb)) := PE.imp (pe_ix (hK ▸ ix_any hu) ha hb hs) (tOp_bb ixB_ok)
end
/-! ### reckoning -/
section
variable {ts us : List T} {t u w x y : T} {i : Int} {S : TSt} {ks : List Key} {kt : List (List Key)} {pl : PF} {g ga gb gc : BF} {fa : EF} {n : Nat} {p : List Nat} {k : Kd}
theorem ixA_lst : ixA (.nd .lst ts) w = ixT (.nd .lst ts) w := rfl
theorem ixA_fz : ixA (.nd .fz ts) w = ixT (.nd .fz ts) w := rfl
theorem ixA_tup : ixA (.nd .tup ts) w = ixT (.nd .tup ts) w := rfl
theorem ixA_str {z : Str} : ixA (.str z) w = ixT (.str z) w := rfl
theorem ixB_lst : ixB (.nd .lst ts) (.int i) = atI ts i := rfl
theorem ixB_fz : ixB (.nd .fz ts) (.int i) = atI ts i := rfl
theorem ixB_tup : ixB (.nd .tup ts) (.int i) = atI ts i := rfl
def kDo (u : T) (o : Option Nat) : Option T := o.bind fun j => u.kd[j]?
theorem ixB_dK : ixB (.nd (.dK ks) ts) w = (dix (.nd (.dK ks) ts) w).bind (kDo (.nd (.dK ks) ts)) := by cases w <;> rfl
theorem ixB_dT : ixB (.nd (.dT kt) ts) w = (dix (.nd (.dT kt) ts) w).bind (kDo (.nd (.dT kt) ts)) := by cases w <;> rfl
theorem kDo_s : kDo (.nd k ts) (some n) = ts[n]? := rfl
theorem dix_Ki : dix (.nd (.dK ks) ts) (.int i) = some (ixK (.inl i) ks) := rfl
theorem dix_Ks {z : Str} : dix (.nd (.dK ks) ts) (.str z) = some (ixK (.inr z) ks) := rfl
def kDt (kt : List (List Key)) (k : List Key) : Option (Option Nat) := some (ixK k kt)
theorem dix_T : dix (.nd (.dT kt) ts) (.nd .tup us) = (keysT us).bind (kDt kt) := rfl
theorem kDt_q {q : List Key} : kDt kt q = some (ixK q kt) := rfl
theorem keysT_n : keysT [] = some [] := rfl
def kKc (k : Key) (ks : List Key) : Option (List Key) := some (k :: ks)
theorem keysT_i : keysT (.int i :: us) = (keysT us).bind (kKc (.inl i)) := rfl
theorem keysT_s {z : Str} : keysT (.str z :: us) = (keysT us).bind (kKc (.inr z)) := rfl
theorem kKc_q {q : Key} : kKc q ks = some (q :: ks) := rfl
def kX4 (i : Nat) (p : List Nat) (u w : T) : Option (Nat × List Nat) := match u, w with
  | .nd .lst ts, .int k => (ixN ts.length k).bind (kF4 i p)
  | u, w => (dix u w).bind fun o => o.bind (kF4 i p)
def kX5 (g : BF) (S : TSt) (i : Nat) (p : List Nat) (u : T) : Option (Nat × List Nat) := (g S).bind (kX4 i p u)
def kX6 (g : BF) (S : TSt) (i : Nat) (p : List Nat) (t : T) : Option (Nat × List Nat) := (tAt p t).bind (kX5 g S i p)
def kX7 (g : BF) (S : TSt) (ip : Nat × List Nat) : Option (Nat × List Nat) := (sl S ip.1).bind (kX6 g S ip.1 ip.2)
theorem pIxA_q : pIxA pl g S = (pl S).bind (kX7 g S) := rfl
theorem kX7_q : kX7 g S (n, p) = (sl S n).bind (kX6 g S n p) := rfl
theorem kX6_q : kX6 g S n p t = (tAt p t).bind (kX5 g S n p) := rfl
theorem kX5_q : kX5 g S n p t = (g S).bind (kX4 n p t) := rfl
theorem kX4_lst : kX4 n p (.nd .lst ts) (.int i) = (ixN ts.length i).bind (kF4 n p) := rfl
def kX8 (n : Nat) (p : List Nat) (o : Option Nat) : Option (Nat × List Nat) := o.bind (kF4 n p)
theorem kX4_dK : kX4 n p (.nd (.dK ks) ts) w = (dix (.nd (.dK ks) ts) w).bind (kX8 n p) := by cases w <;> rfl
theorem kX4_dT : kX4 n p (.nd (.dT kt) ts) w = (dix (.nd (.dT kt) ts) w).bind (kX8 n p) := by cases w <;> rfl
theorem kX8_s {j : Nat} : kX8 n p (some j) = some (n, p ++ [j]) := rfl
def kBG2 (u w z : T) : Option T := dgetD u w z
def kBG1 (gc : BF) (S : TSt) (u w : T) : Option T := (gc S).bind (kBG2 u w)
def kBG (gb gc : BF) (S : TSt) (u : T) : Option T := if isDi u = true then (gb S).bind (kBG1 gc S u) else none
theorem bGet_q : bGet ga gb gc S = (ga S).bind (kBG gb gc S) := rfl
theorem kBG_q : kBG gb gc S u = if isDi u = true then (gb S).bind (kBG1 gc S u) else none := rfl
theorem kBG1_q : kBG1 gc S u w = (gc S).bind (kBG2 u w) := rfl
def kGD (u z : T) : Option Nat → Option T
  | some j => (u.kd[j]?).bind imO
  | none => imO z
theorem kBG2_q : kBG2 u w x = (dix u w).bind (kGD u x) := rfl
theorem kGD_s : kGD (.nd k ts) x (some n) = (ts[n]?).bind imO := rfl
theorem kGD_n : kGD u x none = imO x := rfl
theorem isDi_K : isDi (.nd (.dK ks) ts) = true := rfl
theorem isDi_T : isDi (.nd (.dT kt) ts) = true := rfl
theorem isDi_l : isDi (.nd .lst ts) = false := rfl
def kSA4 (S : TSt) (i : Nat) (p : List Nat) (t0 : T) (ur : T × T) : Option (Fl × TSt) := some (.nx, S.set i (some (tPut p t0 ur.1)))
def kSA3 (t : T) (S : TSt) (i : Nat) (p : List Nat) (t0 u w : T) : Option (Fl × TSt) := (setA w u [t]).bind (kSA4 S i p t0)
def kSA2 (g : BF) (t : T) (S : TSt) (i : Nat) (p : List Nat) (t0 u : T) : Option (Fl × TSt) := (g S).bind (kSA3 t S i p t0 u)
def kSA1 (g : BF) (t : T) (S : TSt) (i : Nat) (p : List Nat) (t0 : T) : Option (Fl × TSt) := (tAt p t0).bind (kSA2 g t S i p t0)
def kSA0 (g : BF) (t : T) (S : TSt) (ip : Nat × List Nat) : Option (Fl × TSt) := (sl S ip.1).bind (kSA1 g t S ip.1 ip.2)
def kSA (pl : PF) (g : BF) : Rs T × TSt → Option (Fl × TSt)
  | (.ex c, S1) => some (.ex c, S1)
  | (.ok t, S1) => (pl S1).bind (kSA0 g t S1)
theorem sSetA_q : sSetA pl g fa S = (fa S).bind (kSA pl g) := by
  unfold sSetA
  cases fa S with
  | none => rfl
  | some r =>
    obtain ⟨r, S1⟩ := r
    cases r with
    | ex c => rfl
    | ok t => rfl
theorem kSA_ok : kSA pl g (.ok t, S) = (pl S).bind (kSA0 g t S) := rfl
theorem kSA_ex {c : Nat} : kSA pl g (.ex c, S) = some (.ex c, S) := rfl
theorem kSA0_q : kSA0 g t S (n, p) = (sl S n).bind (kSA1 g t S n p) := rfl
theorem kSA1_q : kSA1 g t S n p u = (tAt p u).bind (kSA2 g t S n p u) := rfl
theorem kSA2_q : kSA2 g t S n p u w = (g S).bind (kSA3 t S n p u w) := rfl
theorem kSA3_q : kSA3 t S n p u w x = (setA x w [t]).bind (kSA4 S n p u) := rfl
theorem kSA4_q : kSA4 S n p u (x, y) = some (.nx, S.set n (some (tPut p u x))) := rfl
theorem setA_l : setA (.int i) (.nd .lst ts) [t] = setM i (.nd .lst ts) [t] := rfl
theorem setA_Ki : setA (.int i) (.nd (.dK ks) ts) [t] = if ts.length < 100000 ∧ ks.Nodup then some (dput ts t (.dK ks) (.dK (ks ++ [.inl i])) (ixK (.inl i) ks), .non) else none := rfl
theorem setA_Ks {z : Str} : setA (.str z) (.nd (.dK ks) ts) [t] = if ts.length < 100000 ∧ ks.Nodup then some (dput ts t (.dK ks) (.dK (ks ++ [.inr z])) (ixK (.inr z) ks), .non) else none := rfl
def kSt (kt : List (List Key)) (ts : List T) (t : T) (k : List Key) : Option (T × T) := if ts.length < 100000 ∧ kt.Nodup then some (dput ts t (.dT kt) (.dT (kt ++ [k])) (ixK k kt), .non) else none
theorem setA_T : setA (.nd .tup us) (.nd (.dT kt) ts) [t] = (keysT us).bind (kSt kt ts t) := rfl
theorem kSt_q {q : List Key} : kSt kt ts t q = if ts.length < 100000 ∧ kt.Nodup then some (dput ts t (.dT kt) (.dT (kt ++ [q])) (ixK q kt), .non) else none := rfl
theorem nDK_q : nDK S = some (.nd (.dK []) []) := rfl
theorem nDT_q : nDT S = some (.nd (.dT []) []) := rfl
theorem mu_dK : (Kd.dK ks).mu = true := rfl
theorem mu_dT : (Kd.dT kt).mu = true := rfl
theorem im_dK : (T.nd (.dK ks) ts).im = false := by simp [T.im]
theorem im_dT : (T.nd (.dT kt) ts).im = false := by simp [T.im]
theorem inA_l : inA t (.nd .lst ts) = inT t (.nd .lst ts) := rfl
theorem inA_t : inA t (.nd .tup ts) = inT t (.nd .tup ts) := rfl
theorem inA_f : inA t (.nd .fz ts) = inT t (.nd .fz ts) := rfl
theorem notInA_l : notInA t (.nd .lst ts) = notInT t (.nd .lst ts) := rfl
theorem notInA_t : notInA t (.nd .tup ts) = notInT t (.nd .tup ts) := rfl
theorem notInA_f : notInA t (.nd .fz ts) = notInT t (.nd .fz ts) := rfl
theorem negT_i : negT (.int i) = some (.int (-i)) := rfl
/-! a dict of plain things: pairs -/
section
variable {α β κ : Type} [DecidableEq α] [DecidableEq κ] {f : α → κ} {h : β → T} {l : List (α × β)} {a : α} {b : β}
def ixP (a : α) (l : List (α × β)) : Option Nat := ixK a (l.map (·.1))
def lkP (a : α) : List (α × β) → Option β
  | [] => none
  | p :: l => if p.1 = a then some p.2 else lkP a l
def putP (a : α) (b : β) : List (α × β) → List (α × β)
  | [] => [(a, b)]
  | p :: l => if p.1 = a then (a, b) :: l else p :: putP a b l
theorem ixK_map (hf : ∀ a b, f a = f b → a = b) : ∀ ks : List α, ixK (f a) (ks.map f) = ixK a ks
  | [] => rfl
  | k :: ks => by
    rw [List.map_cons, ixK, ixK, ixK_map hf ks]
    by_cases e : k = a
    · rw [if_pos e, if_pos (by rw [e])]
    · rw [if_neg e, if_neg fun z => e (hf _ _ z)]
theorem lkP_ix : ∀ l : List (α × β), lkP a l = (ixK a (l.map (·.1))).bind fun j => (l.map (·.2))[j]?
  | [] => rfl
  | p :: l => by
    rw [lkP, List.map_cons, ixK, List.map_cons]
    by_cases e : p.1 = a
    · rw [if_pos e, if_pos e]; rfl
    · rw [if_neg e, if_neg e, lkP_ix l]
      cases ixK a (l.map (·.1)) <;> rfl
theorem dput_map {kk : List κ → Kd} (hf : ∀ a b, f a = f b → a = b) : ∀ l : List (α × β), dput (l.map fun p => h p.2) (h b) (kk (l.map fun p => f p.1)) (kk ((l.map fun p => f p.1) ++ [f a])) (ixK (f a) (l.map fun p => f p.1)) = .nd (kk ((putP a b l).map fun p => f p.1)) ((putP a b l).map fun p => h p.2) := by
  intro l
  have e1 : (l.map fun p => f p.1) = (l.map (·.1)).map f := by rw [List.map_map]; rfl
  rw [e1, ixK_map hf]
  cases e : ixK a (l.map (·.1)) with
  | none =>
    have : putP a b l = l ++ [(a, b)] := by
      induction l with
      | nil => rfl
      | cons p l ih =>
        rw [List.map_cons, ixK] at e
        by_cases c : p.1 = a
        · rw [if_pos c] at e; cases e
        · rw [if_neg c] at e
          rw [putP, if_neg c, ih (by rw [List.map_map]; rfl) (by cases z : ixK a (l.map (·.1)) with | none => rfl | some j => rw [z] at e; cases e)]
          rfl
    rw [this]
    show T.nd _ _ = T.nd _ _
    rw [← e1]
    simp
  | some j =>
    have : (putP a b l).map (fun p => f p.1) = l.map (fun p => f p.1) ∧ (putP a b l).map (fun p => h p.2) = (l.map fun p => h p.2).set j (h b) := by
      clear e1
      induction l generalizing j with
      | nil => cases e
      | cons p l ih =>
        rw [List.map_cons, ixK] at e
        by_cases c : p.1 = a
        · rw [if_pos c] at e
          cases e
          rw [putP, if_pos c]
          simp [c]
        · rw [if_neg c] at e
          cases z : ixK a (l.map (·.1)) with
          | none => rw [z] at e; cases e
          | some j' =>
            rw [z] at e
            cases e
            obtain ⟨h1, h2⟩ := ih j' z
            rw [putP, if_neg c]
            exact ⟨by rw [List.map_cons, List.map_cons, h1], by rw [List.map_cons, List.map_cons, List.set_cons_succ, h2]⟩
    show T.nd _ _ = T.nd _ _
    rw [this.1, this.2, ← e1]
theorem lkP_put {c : α} : ∀ l : List (α × β), lkP c (putP a b l) = if c = a then some b else lkP c l
  | [] => by
    show (if a = c then some b else none) = if c = a then some b else none
    by_cases e : c = a
    · rw [if_pos e.symm, if_pos e]
    · rw [if_neg (Ne.symm e), if_neg e]
  | p :: l => by
    rw [putP]
    by_cases e : p.1 = a
    · rw [if_pos e, lkP, lkP]
      by_cases e2 : c = a
      · rw [if_pos e2.symm, if_pos e2]
      · rw [if_neg (Ne.symm e2), if_neg e2, if_neg fun z => e2 (z.symm.trans e)]
    · rw [if_neg e, lkP, lkP, lkP_put l]
      by_cases e2 : p.1 = c
      · rw [if_pos e2, if_pos e2, if_neg fun z => e (e2.trans z)]
      · rw [if_neg e2, if_neg e2]
theorem mem_putP : ∀ {l : List (α × β)} {p : α × β}, p ∈ putP a b l → p = (a, b) ∨ p ∈ l
  | [], p, h => by simpa [putP] using h
  | q :: l, p, h => by
    rw [putP] at h
    by_cases e : q.1 = a
    · rw [if_pos e] at h
      rcases List.mem_cons.mp h with h | h
      · exact .inl h
      · exact .inr (List.mem_cons_of_mem _ h)
    · rw [if_neg e] at h
      rcases List.mem_cons.mp h with h | h
      · exact .inr (by rw [h]; exact List.mem_cons_self)
      · exact (mem_putP h).imp_right (List.mem_cons_of_mem _)
theorem nodup_putP : ∀ {l : List (α × β)}, (l.map (·.1)).Nodup → ((putP a b l).map (·.1)).Nodup
  | [], _ => by simp [putP]
  | q :: l, h => by
    rw [List.map_cons, List.nodup_cons] at h
    rw [putP]
    by_cases e : q.1 = a
    · rw [if_pos e, List.map_cons, List.nodup_cons]
      exact ⟨by rw [← e]; exact h.1, h.2⟩
    · rw [if_neg e, List.map_cons, List.nodup_cons]
      refine ⟨fun z => ?_, nodup_putP h.2⟩
      obtain ⟨p, hp, ep⟩ := List.mem_map.mp z
      rcases mem_putP hp with rfl | hp
      · exact e ep.symm
      · exact h.1 (List.mem_map.mpr ⟨p, hp, ep⟩)
theorem length_putP : ∀ {l : List (α × β)}, (putP a b l).length ≤ l.length + 1
  | [] => by simp [putP]
  | q :: l => by
    rw [putP]
    by_cases e : q.1 = a
    · rw [if_pos e]; simp
    · rw [if_neg e]
      have : (putP a b l).length ≤ l.length + 1 := length_putP
      simp
      omega
end
end
end VT

/-! VTR: reading alone: tests, and, or, not; comprehensions that only read; a list that is never written any more. -/
namespace VT
open PySem PySem.Spec PyProof.Rows L2
section
variable {Γ : Gx} {ar : Fx} {W : WX} {X : Cx} {a b c e o : Expr} {pos : Pos} {ga gb gc g : BF} {fa fb : EF} {pl : PF} {σ : L2.St} {H : Hp}
/-! ### tests -/
def rdTB (Γ : Gx) (ar : Fx) (g : BF) : TT := fun σ H Q => rdB Γ ar g σ H fun x H' => ∃ k, x = .bl k ∧ Q k H'
theorem tb_val (h : PE X e (rdB Γ ar g)) (he : ∀ whole, isTrue e X.env whole = (do let v ← whole; standAt e.pos; holding [v] (truthy v)) := by intro _; rfl) : PT X e (rdTB Γ ar g) := PT.imp (pt_val h he) fun _ _ _ q => q
theorem rdN_b {Q : VK} (q : rdB Γ ar g σ H Q) : rdN Γ ar g σ H Q := by
  obtain ⟨S, F, t, R, e, k⟩ := q
  exact ⟨S, F, t, R, e, fun v H' G s r _ => k v H' G s r⟩
theorem tb_cmp {op : CmpOp} {r : R2} {f : T → T → Option T} (ho : OpR X (compareOp op) r) (hf : OpT Γ r f) (ha : PE X a (rdB Γ ar ga)) (hb : PE X b (rdB Γ ar gb)) (hm : behindInMarks op b = false) : PT X (.Compare a [op] [b] pos) (rdTB Γ ar (bOp f ga gb)) :=
  PT.imp (pt_cmpR ho ha hb hm) fun σ H Q q => tOp_b hf σ H _ (rdN_b q)
def bNot (ga : BF) : BF := fun S => (ga S).bind fun x => match x with
  | .bl b => some (.bl (!b))
  | _ => none
def bAnd (ga gb : BF) : BF := fun S => (ga S).bind fun x => match x with
  | .bl true => gb S
  | .bl false => some (.bl false)
  | _ => none
def bOr (ga gb : BF) : BF := fun S => (ga S).bind fun x => match x with
  | .bl false => gb S
  | .bl true => some (.bl true)
  | _ => none
def bIf (gc ga gb : BF) : BF := fun S => (gc S).bind fun x => match x with
  | .bl true => ga S
  | .bl false => gb S
  | _ => none
theorem boolB {S : TSt} {F : FP} {k : Bool} {P : Bool → Hp → Prop} (R : RepS Γ ar H σ S F) (e1 : ga S = some (.bl k)) (h : ∀ H1, Same H H1 → P k H1) : rdB Γ ar ga σ H fun x H1 => ∃ c, x = .bl c ∧ P c H1 := by
  refine ⟨S, F, .bl k, R, e1, fun v H1 G s r => ?_⟩
  cases r
  exact ⟨k, rfl, h H1 s⟩
theorem rdB_after {S : TSt} {F : FP} {H1 : Hp} {t : T} {Q : VK} (R : RepS Γ ar H σ S F) (s : Same H H1) (e : gb S = some t) (k : ∀ v H' G, Same H H' → Rep Γ H' v t G → Q v H') : rdB Γ ar gb σ H1 Q :=
  ⟨S, F, t, R.same s, e, fun v H' G s' r => k v H' G (s.trans s') r⟩
theorem bNot_ok {Q : VK} (q : rdB Γ ar (bNot ga) σ H Q) : rdB Γ ar ga σ H fun x H1 => ∃ c, x = .bl c ∧ Q (.bl (!c)) H1 := by
  obtain ⟨S, F, t, R, e, k⟩ := q
  unfold bNot at e
  cases e1 : ga S with
  | none => rw [e1] at e; cases e
  | some x =>
    rw [e1] at e
    simp only [Option.bind_some] at e
    split at e
    · cases e
      exact boolB R e1 fun H1 s => k _ H1 FE s (.bl _)
    · cases e
theorem bAnd_ok {Q : VK} (q : rdB Γ ar (bAnd ga gb) σ H Q) : rdB Γ ar ga σ H fun x H1 => ∃ c, x = .bl c ∧ if c = true then rdB Γ ar gb σ H1 Q else Q (.bl false) H1 := by
  obtain ⟨S, F, t, R, e, k⟩ := q
  unfold bAnd at e
  cases e1 : ga S with
  | none => rw [e1] at e; cases e
  | some x =>
    rw [e1] at e
    simp only [Option.bind_some] at e
    split at e
    · exact boolB R e1 fun H1 s => iteT (rdB_after R s e k)
    · cases e
      exact boolB R e1 fun H1 s => iteF (k _ H1 FE s (.bl _))
    · cases e
theorem bOr_ok {Q : VK} (q : rdB Γ ar (bOr ga gb) σ H Q) : rdB Γ ar ga σ H fun x H1 => ∃ c, x = .bl c ∧ if c = true then Q (.bl true) H1 else rdB Γ ar gb σ H1 Q := by
  obtain ⟨S, F, t, R, e, k⟩ := q
  unfold bOr at e
  cases e1 : ga S with
  | none => rw [e1] at e; cases e
  | some x =>
    rw [e1] at e
    simp only [Option.bind_some] at e
    split at e
    · exact boolB R e1 fun H1 s => iteF (rdB_after R s e k)
    · cases e
      exact boolB R e1 fun H1 s => iteT (k _ H1 FE s (.bl _))
    · cases e
theorem b_not (ha : PE X a (rdB Γ ar ga)) : PE X (.UnaryOp .Not a pos) (rdB Γ ar (bNot ga)) := PE.imp (pe_not ha) fun _ _ _ q => bNot_ok q
theorem b_and {rest : List Expr} (ha : PE X a (rdB Γ ar ga)) (hb : PE X (.BoolOp .And (b :: rest) pos) (rdB Γ ar gb)) : PE X (.BoolOp .And (a :: b :: rest) pos) (rdB Γ ar (bAnd ga gb)) := PE.imp (pe_and ha hb) fun _ _ _ q => bAnd_ok q
theorem b_or {rest : List Expr} (ha : PE X a (rdB Γ ar ga)) (hb : PE X (.BoolOp .Or (b :: rest) pos) (rdB Γ ar gb)) : PE X (.BoolOp .Or (a :: b :: rest) pos) (rdB Γ ar (bOr ga gb)) := PE.imp (pe_or ha hb) fun _ _ _ q => bOr_ok q
theorem rdB_mono {Q Q' : VK} (q : rdB Γ ar ga σ H Q) (k : ∀ v H', Q v H' → Q' v H') : rdB Γ ar ga σ H Q' := by
  obtain ⟨S, F, t, R, e, h⟩ := q
  exact ⟨S, F, t, R, e, fun v H' G s r => k v H' (h v H' G s r)⟩
theorem tb_not (ha : PT X a (rdTB Γ ar ga)) : PT X (.UnaryOp .Not a pos) (rdTB Γ ar (bNot ga)) := PT.imp (pt_not ha) fun σ H Q q => by
  refine rdB_mono (bNot_ok q) fun v H' ⟨c, ev, k, ek, h⟩ => ⟨c, ev, ?_⟩
  cases ek
  exact h
theorem wb_and {rest : List Expr} (ha : PT X a (rdTB Γ ar ga)) (hb : PW X (.BoolOp .And (b :: rest) pos) (rdTB Γ ar gb)) : PW X (.BoolOp .And (a :: b :: rest) pos) (rdTB Γ ar (bAnd ga gb)) := VT.PW.imp (pw_and ha hb) fun σ H Q q => by
  refine rdB_mono (bAnd_ok q) fun v H' ⟨c, ev, h⟩ => ⟨c, ev, ?_⟩
  cases c with
  | true => exact h
  | false =>
    obtain ⟨k, ek, hk⟩ : ∃ k, V.bl false = V.bl k ∧ Q k H' := h
    cases ek
    exact hk
theorem wb_or {rest : List Expr} (ha : PT X a (rdTB Γ ar ga)) (hb : PW X (.BoolOp .Or (b :: rest) pos) (rdTB Γ ar gb)) : PW X (.BoolOp .Or (a :: b :: rest) pos) (rdTB Γ ar (bOr ga gb)) := VT.PW.imp (pw_or ha hb) fun σ H Q q => by
  refine rdB_mono (bOr_ok q) fun v H' ⟨c, ev, h⟩ => ⟨c, ev, ?_⟩
  cases c with
  | false => exact h
  | true =>
    obtain ⟨k, ek, hk⟩ : ∃ k, V.bl true = V.bl k ∧ Q k H' := h
    cases ek
    exact hk
theorem wb_one_and (ha : PT X a (rdTB Γ ar ga)) : PW X (.BoolOp .And [a] pos) (rdTB Γ ar ga) := VT.PW.imp (pw_and1 ha) fun _ _ _ q => q
theorem wb_one_or (ha : PT X a (rdTB Γ ar ga)) : PW X (.BoolOp .Or [a] pos) (rdTB Γ ar ga) := VT.PW.imp (pw_or1 ha) fun _ _ _ q => q
theorem b_if (hc : PT X c (rdTB Γ ar gc)) (ha : PE X a (rdB Γ ar ga)) (hb : PE X b (rdB Γ ar gb)) : PE X (.IfExp c a b pos) (rdB Γ ar (bIf gc ga gb)) := PE.imp (pe_ifExp hc ha hb) fun σ H Q q => by
  obtain ⟨S, F, t, R, e, k⟩ := q
  unfold bIf at e
  cases e1 : gc S with
  | none => rw [e1] at e; cases e
  | some x =>
    rw [e1] at e
    simp only [Option.bind_some] at e
    split at e
    · exact boolB R e1 fun H1 s => iteT (rdB_after R s e k)
    · exact boolB R e1 fun H1 s => iteF (rdB_after R s e k)
    · cases e
/-- a test that reads, among tests with effects -/
theorem t_b (h : PT X c (rdTB Γ ar g)) : PT X c (rdT Γ ar W (eOfN (nOfB g))) := PT.imp h fun σ H Q q => by
  obtain ⟨S, F, r, S', R, e, k⟩ := q
  unfold eOfN nOfB at e
  cases e1 : g S with
  | none => rw [e1] at e; cases e
  | some t =>
    rw [e1] at e
    simp only [Option.bind_some] at e
    cases e2 : imO t with
    | none => rw [e2] at e; cases e
    | some u =>
      rw [e2] at e
      cases e
      unfold imO at e2
      by_cases hi : t.im = true
      · rw [if_pos hi] at e2
        cases e2
        exact ⟨S, F, _, R, e1, fun v H' G s r => k v H' F FE (own_new R s (r.im hi FE) new_FE)⟩
      · rw [if_neg hi] at e2; cases e2

/-! ### a list that is never written any more -/
def lockT : T → Option T
  | .nd .lst ts => if T.imAll ts = true then some (.nd .fz ts) else none
  | _ => none
theorem PE.locked {t : TE} (h : PE X e t) : PE X e (fun σ H Q => t σ H fun v H' => ∃ d u, H' d = some u ∧ Mut (some u) ∧ ∀ od, Q v (upd H' d (.frz od u))) := by
  refine ⟨fun pins s σ H Q I hw => ?_⟩
  refine thn (h.run pins s σ _ _ I hw) fun v s1 ⟨x, H1, I2, r, d, u, hd, mu, q⟩ => ?_
  obtain ⟨od, I3⟩ := I2.lock hd mu
  exact ⟨x, _, I3, r, q od⟩
theorem n_lock (h : PE X e (rdN Γ ar g)) : PE X e (rdN Γ ar (bUn lockT g)) := PE.imp (VT.PE.locked h) fun σ H Q q => by
  obtain ⟨S, F, t, R, e, k⟩ := q
  unfold bUn at e
  cases e1 : g S with
  | none => rw [e1] at e; cases e
  | some u =>
    rw [e1] at e
    simp only [Option.bind_some] at e
    unfold lockT at e
    split at e
    · rename_i ts
      by_cases im : T.imAll ts = true
      · rw [if_pos im] at e
        cases e
        refine ⟨S, F, _, R, e1, fun v H' G s r n => ?_⟩
        cases r with
        | @nd _ _ p vs _ Fs hat hl hm hc hd hs =>
          have hat : H' p = some (.lst vs) := hat
          have np : H p = none := n.1 p (hm rfl).1
          refine ⟨p, _, hat, trivial, fun od => k _ _ FE (fun b o eb => ?_) ?_ new_FE⟩
          · have : b ≠ p := fun z => by rw [z, np] at eb; cases eb
            rw [upd_ne this]; exact s b o eb
          · refine .nd (Fs := fun _ => FE) (.inl ⟨od, upd_same⟩) hl (fun m => nomatch m) (fun i w t q1 q2 => ?_) (fun _ _ _ _ z => z.elim) fun _ _ z => z.elim
            have r1 := (hc i w t q1 q2).im (imAll_iff.mp im i t q2) FE
            refine r1.frame (fun _ _ z => z.elim) fun b o io eb => ?_
            have : b ≠ p := fun z => by rw [z, hat] at eb; cases eb; exact io
            rw [upd_ne this]; exact eb
      · rw [if_neg im] at e; cases e
    · cases e
end
end VT

/-! VTS: comprehensions that only read. -/
namespace VT
open PySem PySem.Spec PyProof.Rows L2
section
variable {Γ : Gx} {ar : Fx} {W : WX} {X : Cx} {a b c e o : Expr} {pos : Pos} {ga gb gc g : BF} {fa fb : EF} {pl : PF} {σ : L2.St} {H : Hp}
/-- a target of a comprehension whose names are vs -/
def TgW (Γ : Gx) (ar : Fx) (vs : List Nat) (g : TG) (tf : GF) : Prop := ∀ (H : Hp) (σ0 : L2.St) (S : TSt) (F G : FP) (v : V) (t : T) (S1 : TSt) (Q : L2.St → Hp → Prop), RepS Γ ar H (wipe σ0 vs) S F → Rep Γ H v t G → tf t S = some S1 →
  (∀ σ1, RepS Γ ar H σ1 S1 F → wipe σ1 vs = wipe σ0 vs → Q σ1 H) → g v (wipe σ0 vs) H Q
theorem tgwN {vs : List Nat} {j : Nat} (hj : j ∈ vs) (har : ar j = none) : TgW Γ ar vs (gName j) (tgN j) := by
  intro H σ0 S F G v t S1 Q R r e k
  unfold tgN at e
  by_cases im : t.im = true
  · rw [if_pos im] at e
    cases e
    exact k _ (R.putIm har r im) (wipe_set hj)
  · rw [if_neg im] at e; cases e
theorem wipe_wipe (σ : L2.St) (vs : List Nat) : wipe (wipe σ vs) vs = wipe σ vs := by
  apply List.ext_getElem?
  intro i
  by_cases hi : i ∈ vs
  · by_cases hlt : i < σ.length
    · have z : ∀ τ : L2.St, τ.length = σ.length → (wipe τ vs)[i]? = some none := fun τ hτ => by
        cases q : (wipe τ vs)[i]? with
        | none => rw [List.getElem?_eq_none_iff, wipe_length] at q; omega
        | some o =>
          cases o with
          | none => rfl
          | some v => exact absurd hi (wipe_some q).2
      rw [z _ (wipe_length σ vs), z σ rfl]
    · rw [List.getElem?_eq_none (by rw [wipe_length, wipe_length]; omega), List.getElem?_eq_none (by rw [wipe_length]; omega)]
  · rw [wipe_other hi]
theorem wipe_set' {σ : L2.St} {x : Option V} {vs : List Nat} {j : Nat} (hj : j ∈ vs) : wipe (σ.set j x) vs = wipe σ vs := by
  apply List.ext_getElem?
  intro i
  by_cases hi : i ∈ vs
  · by_cases hlt : i < σ.length
    · have z : ∀ τ : L2.St, τ.length = σ.length → (wipe τ vs)[i]? = some none := fun τ hτ => by
        cases q : (wipe τ vs)[i]? with
        | none => rw [List.getElem?_eq_none_iff, wipe_length] at q; omega
        | some o =>
          cases o with
          | none => rfl
          | some v => exact absurd hi (wipe_some q).2
      rw [z _ (by rw [List.length_set]), z σ rfl]
    · rw [List.getElem?_eq_none (by rw [wipe_length, List.length_set]; omega), List.getElem?_eq_none (by rw [wipe_length]; omega)]
  · rw [wipe_other hi, wipe_other hi, List.getElem?_set_ne (fun z : j = i => hi (by rw [← z]; exact hj))]
theorem setAll_okW {H : Hp} {F G : FP} {vs : List Nat} {σ0 : L2.St} {Q : L2.St → Hp → Prop} : ∀ {is : List Nat} {ts : List T} {ws : List V} {σ : L2.St} {S S1 : TSt}, (∀ i ∈ is, ar i = none ∧ i ∈ vs) → RepS Γ ar H σ S F → wipe σ vs = σ0 → ws.length = ts.length → (∀ (i : Nat) (v : V) (t : T), ws[i]? = some v → ts[i]? = some t → Rep Γ H v t G) → T.imAll ts = true → setAll is ts S = some S1 →
    (∀ σ1, RepS Γ ar H σ1 S1 F → wipe σ1 vs = σ0 → Q σ1 H) → gNames is ws σ H Q
  | [], [], [], σ, S, S1, _, R, hw, _, _, _, e, k => by
    cases e
    exact ⟨rfl, k σ R hw⟩
  | i :: is, t :: ts, w :: ws, σ, S, S1, hi, R, hw, hl, hc, im, e, k => by
    rw [T.imAll, Bool.and_eq_true] at im
    refine ⟨w, ws, rfl, ?_⟩
    show gNames is ws (σ.set i (some w)) H Q
    exact setAll_okW (is := is) (ts := ts) (ws := ws) (fun j hj => hi j (List.mem_cons_of_mem _ hj)) (R.putIm (hi i List.mem_cons_self).1 (hc 0 w t rfl rfl) im.1) (by rw [wipe_set' (hi i List.mem_cons_self).2]; exact hw) (by simpa using hl) (fun j v t q1 q2 => hc (j + 1) v t (by simpa using q1) (by simpa using q2)) im.2 e k
  | [], _ :: _, _, _, _, _, _, _, _, _, _, _, e, _ => by cases e
  | _ :: _, [], _, _, _, _, _, _, _, _, _, _, e, _ => by cases e
  | _, [], _ :: _, _, _, _, _, _, _, hl, _, _, _, _ => by simp at hl
  | _, _ :: _, [], _, _, _, _, _, _, hl, _, _, _, _ => by simp at hl
theorem tgwT {vs is : List Nat} (hj : ∀ i ∈ is, i ∈ vs) (har : ∀ i ∈ is, ar i = none) : TgW Γ ar vs (gTup Γ.K is.length (gNames is)) (tgT is) := by
  intro H σ0 S F G v t S1 Q R r e k
  unfold tgT at e
  split at e
  · rename_i ts
    by_cases im : T.imAll ts = true
    · rw [if_pos im] at e
      obtain ⟨a, ws, rfl, hq, hl, hc⟩ := r.tupl
      have hlen := setAll_len e
      exact ⟨a, ws, rfl, hq, by omega, setAll_okW (fun i hi => ⟨har i hi, hj i hi⟩) R (wipe_wipe σ0 vs) hl hc im e k⟩
    · rw [if_neg im] at e; cases e
  · cases e
/-- what is made so far, at Dl -/
structure AccN (Γ : Gx) (H0 : Hp) (Dl : Addr) (H : Hp) (tacc : List T) (Ga : FP) : Prop where
  sm : Same H0 H
  at_ : ∃ acc : List V, H Dl = some (.lst acc) ∧ acc.length = tacc.length ∧ ∃ Gs : Nat → FP, (∀ (i : Nat) (v : V) (t : T), acc[i]? = some v → tacc[i]? = some t → Rep Γ H v t (Gs i)) ∧ (∀ i j a, i ≠ j → Gs i a → Gs j a → False) ∧ ∀ i a, Gs i a → Ga a
  nw : ∀ a, Ga a → H0 a = none ∧ H a ≠ none ∧ a ≠ Dl
theorem accN_start {Dl : Addr} (hD : H Dl = none) : AccN Γ H Dl (upd H Dl (.lst [])) [] FE :=
  ⟨fun b o e => by rw [upd_ne (ne_of_none e hD)]; exact e, ⟨[], upd_same, rfl, fun _ => FE, fun i v t e => by simp at e, fun _ _ _ _ z => z.elim, fun _ _ z => z⟩, fun _ z => z.elim⟩
theorem AccN.step {H0 H' : Hp} {Dl : Addr} {tacc : List T} {Ga : FP} (A : AccN Γ H0 Dl H tacc Ga) (s : Same H H') : AccN Γ H0 Dl H' tacc Ga := by
  obtain ⟨sm, ⟨acc, h1, h2, Gs, h3, h4, h5⟩, nw⟩ := A
  exact ⟨sm.trans s, ⟨acc, s _ _ h1, h2, Gs, fun i v t e1 e2 => (h3 i v t e1 e2).same s, h4, h5⟩, fun a z => ⟨(nw a z).1, same_al s (nw a z).2.1, (nw a z).2.2⟩⟩
theorem AccN.add {H0 H' : Hp} {Dl : Addr} {tacc : List T} {Ga G : FP} {v : V} {t : T} (hD : H0 Dl = none) (A : AccN Γ H0 Dl H tacc Ga) (s : Same H H') (r : Rep Γ H' v t G) (n : New H H' G) :
    ∃ acc, H' Dl = some (.lst acc) ∧ acc.length = tacc.length ∧ AccN Γ H0 Dl (upd H' Dl (.lst (acc ++ [v]))) (tacc ++ [t]) (FU Ga G) := by
  have A1 := A.step s
  obtain ⟨sm0, ⟨acc0, k1, _⟩, nw0⟩ := A
  obtain ⟨sm, ⟨acc, h1, h2, Gs, h3, h4, h5⟩, nw⟩ := A1
  have nGD : ∀ a, G a → a ≠ Dl := fun a ga z => by have := n.1 a ga; rw [z, k1] at this; cases this
  have fr : ∀ {w : V} {u : T} {F : FP}, Rep Γ H' w u F → (∀ a, F a → a ≠ Dl) → Rep Γ (upd H' Dl (.lst (acc ++ [v]))) w u F := fun {w u F} rr hF => by
    refine rr.frame (fun b o f q => by rw [upd_ne (hF b f)]; exact q) fun b o im q => ?_
    have : b ≠ Dl := fun z => by rw [z, h1] at q; cases q; exact im
    rw [upd_ne this]; exact q
  have dGa : ∀ a, Ga a → G a → False := fun a z z' => (nw0 a z).2.1 (n.1 a z')
  refine ⟨acc, h1, h2, ⟨fun b o e => ?_, ⟨acc ++ [v], upd_same, by simp [h2], fun i => if i < tacc.length then Gs i else if i = tacc.length then G else FE, fun i w u e1 e2 => ?_, fun i j b ne z z' => ?_, fun i b z => ?_⟩, fun b z => ?_⟩⟩
  · rw [upd_ne (ne_of_none e hD)]; exact sm b o e
  · by_cases c1 : i < tacc.length
    · simp only [if_pos c1]
      rw [List.getElem?_append_left (by omega)] at e1 e2
      exact fr (h3 i w u e1 e2) fun a z => (nw a (h5 i a z)).2.2
    · have hj : i = tacc.length := by
        have := (List.getElem?_eq_some_iff.mp e2).1
        simp at this
        omega
      subst hj
      simp only [if_neg c1, if_true]
      simp at e2
      subst e2
      rw [← h2] at e1
      simp at e1
      subst e1
      exact fr r nGD
  · by_cases c1 : i < tacc.length
    · simp only [if_pos c1] at z
      by_cases c2 : j < tacc.length
      · simp only [if_pos c2] at z'; exact h4 i j b ne z z'
      · simp only [if_neg c2] at z'
        by_cases c3 : j = tacc.length
        · simp only [if_pos c3] at z'; exact dGa b (h5 i b z) z'
        · simp only [if_neg c3] at z'; exact z'
    · simp only [if_neg c1] at z
      by_cases c3 : i = tacc.length
      · simp only [if_pos c3] at z
        by_cases c2 : j < tacc.length
        · simp only [if_pos c2] at z'; exact dGa b (h5 j b z') z
        · simp only [if_neg c2, if_neg (show ¬ j = tacc.length by omega)] at z'; exact z'
      · simp only [if_neg c3] at z; exact z
  · by_cases c1 : i < tacc.length
    · simp only [if_pos c1] at z; exact .inl (h5 i b z)
    · simp only [if_neg c1] at z
      by_cases c3 : i = tacc.length
      · simp only [if_pos c3] at z; exact .inr z
      · simp only [if_neg c3] at z; exact z.elim
  · rcases z with z | z
    · exact ⟨(nw b z).1, al_upd b (nw b z).2.1, (nw b z).2.2⟩
    · refine ⟨?_, al_upd b (n.2 b z), nGD b z⟩
      cases q : H0 b with
      | none => rfl
      | some o =>
        have := n.1 b z
        have h := sm0 b o q
        rw [this] at h
        cases h
theorem AccN.done {H0 : Hp} {Dl : Addr} {tacc : List T} {Ga : FP} (hD : H0 Dl = none) (A : AccN Γ H0 Dl H tacc Ga) : Same H0 H ∧ Rep Γ H (.ref Dl) (.nd .lst tacc) (FU Ga (fun a => a = Dl)) ∧ New H0 H (FU Ga (fun a => a = Dl)) := by
  obtain ⟨sm, ⟨acc, h1, h2, Gs, h3, h4, h5⟩, nw⟩ := A
  refine ⟨sm, .nd (Fs := Gs) h1 h2 (fun _ => ⟨.inr rfl, fun i z => (nw Dl (h5 i Dl z)).2.2 rfl⟩) h3 h4 fun i b z => .inl (h5 i b z), fun b z => z.elim (fun z => (nw b z).1) fun z => by rw [z]; exact hD, fun b z => z.elim (fun z => (nw b z).2.1) fun z => by rw [z, h1]; exact fun y => nomatch y⟩
def runN (tf : GF) (cond elt : BF) : List T → TSt → Option (List T)
  | [], _ => some []
  | t :: ts, S => (tf t S).bind fun S1 => (cond S1).bind fun c => match c with
    | .bl true => (elt S1).bind fun u => (runN tf cond elt ts S).bind fun us => some (u :: us)
    | .bl false => runN tf cond elt ts S
    | _ => none
def rdTBX (Γ : Gx) (C : Fx → Prop) (f : BF) : TT := fun σ H Q => ∃ ar', C ar' ∧ rdTB Γ ar' f σ H Q
def rdNX (Γ : Gx) (C : Fx → Prop) (f : BF) : TE := fun σ H Q => ∃ ar', C ar' ∧ rdN Γ ar' f σ H Q
theorem en_all {C : Fx → Prop} {f : BF} (h : ∀ ar', C ar' → PE X e (rdN Γ ar' f)) : PE X e (rdNX Γ C f) := ⟨fun pins s σ H Q I ⟨ar', c, q⟩ => (h ar' c).run pins s σ H Q I q⟩
theorem tb_one {C : Fx → Prop} {f : BF} {c : Expr} (h : ∀ ar', C ar' → PT X c (rdTB Γ ar' f)) : PTs X [c] (rdTBX Γ C f) := pts_one ⟨fun pins s σ H Q I ⟨ar', c, q⟩ => (h ar' c).run pins s σ H Q I q⟩
def bYes : BF := fun _ => some (.bl true)
theorem tb_nil {C : Fx → Prop} : PTs X [] (rdTBX Γ C bYes) := ⟨fun pins s σ H Q I ⟨ar', c, q⟩ => pts_nil.run pins s σ H Q I (by
  obtain ⟨S, F, t, R, e, k⟩ := q
  cases e
  obtain ⟨b, eb, hb⟩ := k (.bl true) H FE (Same.refl H) (.bl true)
  cases eb
  exact hb)⟩
/-- one turn -/
theorem turnN {vs : List Nat} {tf : GF} {tg : TG} {cond elt : BF} {C : Fx → Prop} (tk : TgW Γ (freeAt ar vs) vs tg tf) (hC : C (freeAt ar vs)) {H0 : Hp} {F : FP} {σ : L2.St} {Dl : Addr} {S : TSt} {tacc : List T} {Ga G : FP} {x : V} {t : T} {ts : List T} {fin : List T} (hD : H0 Dl = none)
    (R : RepS Γ (freeAt ar vs) H0 (wipe σ vs) S F) (A : AccN Γ H0 Dl H tacc Ga) (hacc : tacc.length < 100000) (r : Rep Γ H x t G) (ee : ∃ us, runN tf cond elt (t :: ts) S = some us ∧ tacc ++ us = fin)
    (P : Hp → Prop) (hP : ∀ H' tacc' Ga', AccN Γ H0 Dl H' tacc' Ga' → tacc'.length ≤ tacc.length + 1 → (∃ us, runN tf cond elt ts S = some us ∧ tacc' ++ us = fin) → P H') :
    tg x (wipe σ vs) H fun σ2 H2 => wipe σ2 vs = wipe σ vs ∧ rdTBX Γ C cond σ2 H2 fun b H3 => if b = true then rdNX Γ C elt σ2 H3 fun y H4 => ∃ acc, H4 Dl = some (.lst acc) ∧ acc.length < sizeLine ∧ P (upd H4 Dl (.lst (acc ++ [y]))) else P H3 := by
  obtain ⟨us, ee, ef⟩ := ee
  unfold runN at ee
  cases e1 : tf t S with
  | none => rw [e1] at ee; cases ee
  | some S1 =>
    rw [e1] at ee
    simp only [Option.bind_some] at ee
    refine tk H σ S F G x t S1 _ (R.same A.sm) r e1 fun σ1 R1 hw => ⟨hw, freeAt ar vs, hC, ?_⟩
    cases e2 : cond S1 with
    | none => rw [e2] at ee; cases ee
    | some cc =>
      rw [e2] at ee
      simp only [Option.bind_some] at ee
      split at ee
      · cases e3 : elt S1 with
        | none => rw [e3] at ee; cases ee
        | some u =>
          rw [e3] at ee
          simp only [Option.bind_some] at ee
          cases e4 : runN tf cond elt ts S with
          | none => rw [e4] at ee; cases ee
          | some us' =>
            rw [e4] at ee
            cases ee
            refine boolB R1 e2 fun H3 s3 => iteT ⟨freeAt ar vs, hC, S1, F, u, R1.same s3, e3, fun y H4 G4 s4 r4 n4 => ?_⟩
            obtain ⟨acc, q1, q2, A5⟩ := (A.step s3).add hD s4 r4 n4
            exact ⟨acc, q1, sz5' (by omega), hP _ _ _ A5 (by simp) ⟨us', e4, by rw [← ef]; simp⟩⟩
      · exact boolB R1 e2 fun H3 s3 => iteF (hP _ _ _ (A.step s3) (by omega) ⟨us, ee, ef⟩)
      · cases ee
def lcN (vs : List Nat) (tf : GF) (cond elt : BF) (ts : List T) (S : TSt) : Option T := if ts.length < 100000 then (runN tf cond elt ts (wipeS S vs)).bind fun us => some (.nd .lst us) else none
theorem coreN {vs : List Nat} {tf : GF} {tg : TG} {cond elt : BF} {C : Fx → Prop} (tk : TgW Γ (freeAt ar vs) vs tg tf) (hC : C (freeAt ar vs)) {H1 : Hp} {σ : L2.St} {S : TSt} {F G : FP} {x : V} {k : Kd} {ts : List T} {t : T} {Q : VK} (r : Rep Γ H1 x (.nd k ts) G) (hk : isSq k = true) (im : T.imAll ts = true) (R : RepS Γ ar H1 σ S F)
    (ee : lcN vs tf cond elt ts S = some t) (kk : ∀ v H' G, Same H1 H' → Rep Γ H' v t G → New H1 H' G → Q v H') :
    ∃ a ws, x = .ref a ∧ SqX Γ.K H1 k a ws ∧ CompR tg (rdTBX Γ C cond) (rdNX Γ C elt) vs σ Q (ItX Γ.K a k) H1 := by
  unfold lcN at ee
  by_cases hz : ts.length < 100000
  · rw [if_pos hz] at ee
    cases e1 : runN tf cond elt ts (wipeS S vs) with
    | none => rw [e1] at ee; cases ee
    | some fin =>
      rw [e1] at ee
      cases ee
      cases r with
      | @nd _ _ a ws _ Fs hat hl hm hc hd hs =>
        have R0 := R.wiped (ar' := freeAt ar vs) vs free_ok.2
        have atk : ∀ {H' : Hp}, Same H1 H' → SqX Γ.K H' k a ws := fun s => (hat.keep (fun _ o eo => s _ _ eo) fun b o _ eo => s _ _ eo).sqx hk
        refine ⟨a, ws, rfl, hat.sqx hk, fun Dl hD => ?_⟩
        have h0 : ∃ tacc Ga, AccN Γ H1 Dl (upd H1 Dl (.lst [])) tacc Ga ∧ tacc.length ≤ 0 ∧ ∃ us, runN tf cond elt (ts.drop 0) (wipeS S vs) = some us ∧ tacc ++ us = fin := ⟨[], FE, accN_start hD, Nat.le_refl _, fin, e1, rfl⟩
        have hs' : ∀ (i : Nat) (y : V) (H' : Hp), ws[i]? = some y → (∃ tacc Ga, AccN Γ H1 Dl H' tacc Ga ∧ tacc.length ≤ i ∧ ∃ us, runN tf cond elt (ts.drop i) (wipeS S vs) = some us ∧ tacc ++ us = fin) →
            tg y (wipe σ vs) H' fun σ2 H2 => wipe σ2 vs = wipe σ vs ∧ rdTBX Γ C cond σ2 H2 fun b H3 => if b = true then rdNX Γ C elt σ2 H3 fun y H4 => ∃ acc, H4 Dl = some (.lst acc) ∧ acc.length < sizeLine ∧ (∃ tacc Ga, AccN Γ H1 Dl (upd H4 Dl (.lst (acc ++ [y]))) tacc Ga ∧ tacc.length ≤ i + 1 ∧ ∃ us, runN tf cond elt (ts.drop (i + 1)) (wipeS S vs) = some us ∧ tacc ++ us = fin)
              else ∃ tacc Ga, AccN Γ H1 Dl H3 tacc Ga ∧ tacc.length ≤ i + 1 ∧ ∃ us, runN tf cond elt (ts.drop (i + 1)) (wipeS S vs) = some us ∧ tacc ++ us = fin := by
          rintro i y H' hy ⟨tacc, Ga, A, hta, e'⟩
          have hi : i < ts.length := by rw [← hl]; exact (List.getElem?_eq_some_iff.mp hy).1
          have et : ts[i]? = some ts[i] := List.getElem?_eq_getElem hi
          rw [drop_get et] at e'
          exact turnN tk hC hD R0 A (by omega) ((hc i y _ hy et).same A.sm) e' (fun H' => ∃ tacc Ga, AccN Γ H1 Dl H' tacc Ga ∧ tacc.length ≤ i + 1 ∧ ∃ us, runN tf cond elt (ts.drop (i + 1)) (wipeS S vs) = some us ∧ tacc ++ us = fin)
            fun H2 ta2 Ga2 A2 hl2 e2 => ⟨ta2, Ga2, A2, by omega, e2⟩
        have hd' : ∀ H' : Hp, (∃ tacc Ga, AccN Γ H1 Dl H' tacc Ga ∧ tacc.length ≤ ws.length ∧ ∃ us, runN tf cond elt (ts.drop ws.length) (wipeS S vs) = some us ∧ tacc ++ us = fin) → Q (.ref Dl) H' := by
          rintro H' ⟨tacc, Ga, A, _, us, e', ef⟩
          rw [hl, List.drop_length] at e'
          cases e'
          rw [List.append_nil] at ef
          subst ef
          obtain ⟨d1, d2, d3⟩ := A.done hD
          exact kk _ H' _ d1 d2 d3
        have sq : ∀ (i : Nat) (H' : Hp), i ≤ ws.length → (∃ tacc Ga, AccN Γ H1 Dl H' tacc Ga ∧ tacc.length ≤ i ∧ ∃ us, runN tf cond elt (ts.drop i) (wipeS S vs) = some us ∧ tacc ++ us = fin) → SqX Γ.K H' k a ws := fun i H' _ ⟨_, _, A, _⟩ => atk A.sm
        cases k with
        | tup => exact lc_tup (K := Γ.K) (a := a) (xs := ws) (Qd := fun H' => Q (.ref Dl) H') (fun i H' => ∃ tacc Ga, AccN Γ H1 Dl H' tacc Ga ∧ tacc.length ≤ i ∧ ∃ us, runN tf cond elt (ts.drop i) (wipeS S vs) = some us ∧ tacc ++ us = fin) h0 sq hs' hd'
        | lst => exact lc_list (K := Γ.K) (a := a) (xs := ws) (Qd := fun H' => Q (.ref Dl) H') (fun i H' => ∃ tacc Ga, AccN Γ H1 Dl H' tacc Ga ∧ tacc.length ≤ i ∧ ∃ us, runN tf cond elt (ts.drop i) (wipeS S vs) = some us ∧ tacc ++ us = fin) h0 sq hs' hd'
        | fz => exact lc_list (K := Γ.K) (a := a) (xs := ws) (Qd := fun H' => Q (.ref Dl) H') (fun i H' => ∃ tacc Ga, AccN Γ H1 Dl H' tacc Ga ∧ tacc.length ≤ i ∧ ∃ us, runN tf cond elt (ts.drop i) (wipeS S vs) = some us ∧ tacc ++ us = fin) h0 sq hs' hd'
        | dK _ => cases hk
        | dT _ => cases hk
        | obj _ _ => cases hk
  · rw [if_neg hz] at ee; cases ee
/-- over a list or tuple -/
def bLc (vs : List Nat) (tf : GF) (gs cond elt : BF) : BF := fun S => (gs S).bind fun u => (seqO u).bind fun kt => lcN vs tf cond elt kt.2 S
theorem lcN_ok {vs : List Nat} {tf : GF} {tg : TG} {gs cond elt : BF} {C : Fx → Prop} {Q : VK} (tk : TgW Γ (freeAt ar vs) vs tg tf) (hC : C (freeAt ar vs)) (q : rdN Γ ar (bLc vs tf gs cond elt) σ H Q) : tLc (iSeq Γ.K (rdB Γ ar gs)) tg (rdTBX Γ C cond) (rdNX Γ C elt) vs σ H Q := by
  obtain ⟨S, F, t, R, ee, kk⟩ := q
  unfold bLc at ee
  cases e1 : gs S with
  | none => rw [e1] at ee; cases ee
  | some u =>
    rw [e1] at ee
    simp only [Option.bind_some] at ee
    cases e2 : seqO u with
    | none => rw [e2] at ee; cases ee
    | some kt =>
      obtain ⟨k, ts⟩ := kt
      rw [e2] at ee
      simp only [Option.bind_some] at ee
      obtain ⟨rfl, hk, im⟩ := seqO_some e2
      have main : ∀ v H' G, Same H H' → Rep Γ H' v (.nd k ts) G → ∃ a ws, v = .ref a ∧ SqX Γ.K H' k a ws ∧ CompR tg (rdTBX Γ C cond) (rdNX Γ C elt) vs σ Q (ItX Γ.K a k) H' := fun v H' G s r =>
        coreN tk hC r hk im (R.same s) ee fun w H2 G2 s2 r2 n2 => kk w H2 G2 (s.trans s2) r2 (n2.back s)
      cases k with
      | tup =>
        refine .inr ⟨S, F, _, R, e1, fun v H' G s r => ?_⟩
        obtain ⟨a, ws, ev, hq, lp⟩ := main v H' G s r
        exact ⟨a, ev, ⟨ws, hq⟩, lp⟩
      | lst =>
        refine .inl ⟨S, F, _, R, e1, fun v H' G s r => ?_⟩
        obtain ⟨a, ws, ev, hq, lp⟩ := main v H' G s r
        exact ⟨a, ev, ⟨ws, hq⟩, lp⟩
      | fz =>
        refine .inl ⟨S, F, _, R, e1, fun v H' G s r => ?_⟩
        obtain ⟨a, ws, ev, hq, lp⟩ := main v H' G s r
        exact ⟨a, ev, ⟨ws, hq⟩, lp⟩
      | dK _ => cases hk
      | dT _ => cases hk
      | obj _ _ => cases hk
/-- over a range -/
def bLcR (vs : List Nat) (tf : GF) (gs cond elt : BF) : BF := fun S => (gs S).bind fun u => match u with
  | .int n => if 0 ≤ n ∧ n < 100000 then lcN vs tf cond elt (rgT n) S else none
  | _ => none
theorem lcRN_ok {vs : List Nat} {tf : GF} {tg : TG} {gs cond elt : BF} {C : Fx → Prop} {Q : VK} (tk : TgW Γ (freeAt ar vs) vs tg tf) (hC : C (freeAt ar vs)) (q : rdN Γ ar (bLcR vs tf gs cond elt) σ H Q) : tLc (iRng1 (tCons (rdB Γ ar gs) tNil)) tg (rdTBX Γ C cond) (rdNX Γ C elt) vs σ H Q := by
  obtain ⟨S, F, t, R, ee, kk⟩ := q
  unfold bLcR at ee
  cases e1 : gs S with
  | none => rw [e1] at ee; cases ee
  | some u =>
    rw [e1] at ee
    simp only [Option.bind_some] at ee
    split at ee
    · rename_i n
      by_cases hn : 0 ≤ n ∧ n < 100000
      · rw [if_pos hn] at ee
        refine ⟨S, F, _, R, e1, fun v H1 G s1 rv => ?_⟩
        cases rv
        refine ⟨n, rfl, by omega, by omega, fun Dl hD => ?_⟩
        unfold lcN at ee
        have hl : (rgT n).length = n.toNat := by simp [rgT]
        rw [if_pos (by omega)] at ee
        cases e4 : runN tf cond elt (rgT n) (wipeS S vs) with
        | none => rw [e4] at ee; cases ee
        | some fin =>
          rw [e4] at ee
          cases ee
          have R0 := (R.same s1).wiped (ar' := freeAt ar vs) vs free_ok.2
          refine lc_range (lo := 0) (n := n.toNat) (Qd := fun H' => Q (.ref Dl) H') (fun i H' => ∃ tacc Ga, AccN Γ H1 Dl H' tacc Ga ∧ tacc.length ≤ i ∧ ∃ us, runN tf cond elt ((rgT n).drop i) (wipeS S vs) = some us ∧ tacc ++ us = fin) ⟨[], FE, accN_start hD, Nat.le_refl _, fin, e4, rfl⟩ ?_ ?_
          · rintro i H' hi ⟨tacc, Ga, A, hta, e'⟩
            have et : (rgT n)[i]? = some (.int (i : Int)) := by simp [rgT, hi]
            rw [drop_get et] at e'
            rw [Int.zero_add]
            exact turnN tk hC hD R0 A (by omega) (.int (F := FE) (i : Int)) e' (fun H' => ∃ tacc Ga, AccN Γ H1 Dl H' tacc Ga ∧ tacc.length ≤ i + 1 ∧ ∃ us, runN tf cond elt ((rgT n).drop (i + 1)) (wipeS S vs) = some us ∧ tacc ++ us = fin)
              fun H2 ta2 Ga2 A2 hl2 e2 => ⟨ta2, Ga2, A2, by omega, e2⟩
          · rintro H' ⟨tacc, Ga, A, _, us, e', ef⟩
            rw [List.drop_eq_nil_of_le (by omega)] at e'
            cases e'
            rw [List.append_nil] at ef
            subst ef
            obtain ⟨d1, d2, d3⟩ := A.done hD
            exact kk _ H' _ (s1.trans d1) d2 (d3.back s1)
      · rw [if_neg hn] at ee; cases ee
    · cases ee
section
variable {elt tg iter : Expr} {ifs : List Expr} {scope : Scope} {own : List (Str × Nat)} {cond el gs : BF} {gg : TG} {tf : GF}
abbrev CT' : Fx → Prop := fun _ => True
theorem n_lc (hc : X.calm = true) (hN : X.N.Nodup) (tk : ∀ ar : Fx, (∀ v ∈ own.map (·.2), ar v = none) → TgW Γ ar (own.map (·.2)) gg tf) (hi : PE X iter (rdB Γ ar gs)) (ok : BlkOk X.N X.env.scope scope own) (hg : ∀ (s : Shared) (H : Hp) (C : Addr) (cl : List (Str × Addr)) (fp : List Addr), PG (X.blk s H scope (compEnvC scope cl C X.env) fp) tg gg)
    (ht : ∀ (s : Shared) (H : Hp) (C : Addr) (cl : List (Str × Addr)) (fp : List Addr), PTs (X.blk s H scope (compEnvC scope cl C X.env) fp) ifs (rdTBX Γ CT' cond)) (he : ∀ (s : Shared) (H : Hp) (C : Addr) (cl : List (Str × Addr)) (fp : List Addr), PE (X.blk s H scope (compEnvC scope cl C X.env) fp) elt (rdNX Γ CT' el))
    (hK : X.K = Γ.K := by rfl) (hs : ∀ x, foldedSetIterable iter X.env x = pure x := by intro _; rfl) : PE X (.ListComp elt [⟨tg, iter, ifs, 0⟩] scope pos) (rdN Γ ar (bLc (own.map (·.2)) tf gs cond el)) := by
  refine PE.imp (pe_lc hc hN (pi_seq hi) ok hg ht he hs) fun σ H Q q => ?_
  rw [hK]
  exact lcN_ok (tk _ free_ok.1) trivial q
theorem n_lcR {e1 : Expr} {p1 pos1 : Pos} (hc : X.calm = true) (hN : X.N.Nodup) (hm : X.mg "range" = none) (tk : ∀ ar : Fx, (∀ v ∈ own.map (·.2), ar v = none) → TgW Γ ar (own.map (·.2)) gg tf) (hi : PE X e1 (rdB Γ ar gs)) (ok : BlkOk X.N X.env.scope scope own) (hg : ∀ (s : Shared) (H : Hp) (C : Addr) (cl : List (Str × Addr)) (fp : List Addr), PG (X.blk s H scope (compEnvC scope cl C X.env) fp) tg gg)
    (ht : ∀ (s : Shared) (H : Hp) (C : Addr) (cl : List (Str × Addr)) (fp : List Addr), PTs (X.blk s H scope (compEnvC scope cl C X.env) fp) ifs (rdTBX Γ CT' cond)) (he : ∀ (s : Shared) (H : Hp) (C : Addr) (cl : List (Str × Addr)) (fp : List Addr), PE (X.blk s H scope (compEnvC scope cl C X.env) fp) elt (rdNX Γ CT' el))
    (hgl : Gl X "range" := by rfl) (hst : starEach [e1] X.env = (false, eval e1 X.env) :: starEach [] X.env := by rfl) (hs : ∀ x, foldedSetIterable (.Call (.Name "range" p1) [e1] [] pos1) X.env x = pure x := by intro _; rfl) :
    PE X (.ListComp elt [⟨tg, .Call (.Name "range" p1) [e1] [] pos1, ifs, 0⟩] scope pos) (rdN Γ ar (bLcR (own.map (·.2)) tf gs cond el)) :=
  PE.imp (pe_lc hc hN (pi_range1 hgl hm (pa_cons hi pa_nil hst) hst) ok hg ht he hs) fun σ H Q q => lcRN_ok (tk _ free_ok.1) trivial q
theorem set_okN {i : Nat} (hi : ar i = none) {D : Ends} (q : rdS Γ ar W (sSet i (eOfN g)) D σ H) : rdN Γ ar g σ H fun v H1 => D.nx (σ.set i (some v)) H1 := by
  obtain ⟨S, F, r, S', R, e, k⟩ := set_ok hi q
  unfold eOfN at e
  cases e1 : g S with
  | none => rw [e1] at e; cases e
  | some t =>
    rw [e1] at e
    cases e
    exact ⟨S, F, t, R, e1, fun v H' G s r n => k v H' F G (own_new R s r n)⟩
theorem s_lcN (i : Nat) {y : Str} {py spos : Pos} (hi' : ar i = none) (hc : X.calm = true) (hN : X.N.Nodup) (hsw : swapsWith (.ListComp elt [⟨tg, iter, ifs, 0⟩] scope pos) (some (.Name y py)) spos.line X.env = pure true) (tk : ∀ ar : Fx, (∀ v ∈ own.map (·.2), ar v = none) → TgW Γ ar (own.map (·.2)) gg tf) (hi : PE X iter (rdB Γ ar gs)) (ok : BlkOk X.N X.env.scope scope own) (hg : ∀ (s : Shared) (H : Hp) (C : Addr) (cl : List (Str × Addr)) (fp : List Addr), PG (X.blk s H scope (compEnvC scope cl C X.env) fp) tg gg)
    (ht : ∀ (s : Shared) (H : Hp) (C : Addr) (cl : List (Str × Addr)) (fp : List Addr), PTs (X.blk s H scope (compEnvC scope cl C X.env) fp) ifs (rdTBX Γ CT' cond)) (he : ∀ (s : Shared) (H : Hp) (C : Addr) (cl : List (Str × Addr)) (fp : List Addr), PE (X.blk s H scope (compEnvC scope cl C X.env) fp) elt (rdNX Γ CT' el))
    (hy : X.N[i]? = some y := by rfl) (hyl : X.env.scope.names.lookup y = some .local := by rfl) (hK : X.K = Γ.K := by rfl) (hs : ∀ x, foldedSetIterable iter X.env x = pure x := by intro _; rfl) :
    PS X (.Assign [.Name y py] (.ListComp elt [⟨tg, iter, ifs, 0⟩] scope pos) spos) (rdS Γ ar W (sSet i (eOfN (bLc (own.map (·.2)) tf gs cond el)))) := by
  refine PS.imp (ps_setLc hc hN hy hyl hsw (pi_seq hi) ok hg ht he hs) fun D σ H q => ?_
  rw [hK]
  exact lcN_ok (tk _ free_ok.1) trivial (set_okN hi' q)
theorem s_lcRN (i : Nat) {y : Str} {e1 : Expr} {p1 pos1 py spos : Pos} (hi' : ar i = none) (hc : X.calm = true) (hN : X.N.Nodup) (hm : X.mg "range" = none) (hsw : swapsWith (.ListComp elt [⟨tg, .Call (.Name "range" p1) [e1] [] pos1, ifs, 0⟩] scope pos) (some (.Name y py)) spos.line X.env = pure true) (tk : ∀ ar : Fx, (∀ v ∈ own.map (·.2), ar v = none) → TgW Γ ar (own.map (·.2)) gg tf) (hi : PE X e1 (rdB Γ ar gs)) (ok : BlkOk X.N X.env.scope scope own) (hg : ∀ (s : Shared) (H : Hp) (C : Addr) (cl : List (Str × Addr)) (fp : List Addr), PG (X.blk s H scope (compEnvC scope cl C X.env) fp) tg gg)
    (ht : ∀ (s : Shared) (H : Hp) (C : Addr) (cl : List (Str × Addr)) (fp : List Addr), PTs (X.blk s H scope (compEnvC scope cl C X.env) fp) ifs (rdTBX Γ CT' cond)) (he : ∀ (s : Shared) (H : Hp) (C : Addr) (cl : List (Str × Addr)) (fp : List Addr), PE (X.blk s H scope (compEnvC scope cl C X.env) fp) elt (rdNX Γ CT' el))
    (hy : X.N[i]? = some y := by rfl) (hyl : X.env.scope.names.lookup y = some .local := by rfl) (hgl : Gl X "range" := by rfl) (hst : starEach [e1] X.env = (false, eval e1 X.env) :: starEach [] X.env := by rfl) (hs : ∀ x, foldedSetIterable (.Call (.Name "range" p1) [e1] [] pos1) X.env x = pure x := by intro _; rfl) :
    PS X (.Assign [.Name y py] (.ListComp elt [⟨tg, .Call (.Name "range" p1) [e1] [] pos1, ifs, 0⟩] scope pos) spos) (rdS Γ ar W (sSet i (eOfN (bLcR (own.map (·.2)) tf gs cond el)))) :=
  PS.imp (ps_setLc hc hN hy hyl hsw (pi_range1 hgl hm (pa_cons hi pa_nil hst) hst) ok hg ht he hs) fun D σ H q => lcRN_ok (tk _ free_ok.1) trivial (set_okN hi' q)
end
end
end VT

/-! VTT: + of all kinds, is, str(). -/
namespace VT
open PySem PySem.Spec PyProof.Rows L2
section
variable {Γ : Gx} {ar : Fx} {W : WX} {X : Cx} {a b c e o : Expr} {pos p : Pos} {ga gb gc g : BF} {fa fb : EF} {pl : PF} {σ : L2.St} {H : Hp}
theorem takesN0 {X : Cx} : L2N.Takes X W0 := fun _ _ x => by
  obtain ⟨_, _, _, _, _, _, _, _, _, _, _, _, _, _, _, _, z⟩ := x
  exact z.elim
/-! ### + -/
def rCatL (K : PySem.W.Frag) : R2 := fun x y H Q => ∃ l b xs zs, x = .ref l ∧ y = .ref b ∧ SqL K H l xs ∧ SqL K H b zs ∧ xs.length + zs.length ≤ sizeLine ∧ ∀ p, H p = none → Q (.ref p) (upd H p (.lst (xs ++ zs)))
theorem op_catL : OpR X (binaryOp .Add) (rCatL X.K) := by
  intro pins s σ H x y v u Q I rx ry h
  obtain ⟨l, b, xs, zs, rfl, rfl, hH, hB, hz, q⟩ := h
  cases rx
  cases ry
  obtain ⟨its, r, ⟨⟨cls, dd, data, sl⟩, n, ho, hc, hdd, hd⟩, z⟩ := I.list hH
  obtain ⟨its2, r2, ⟨⟨cls2, dd2, data2, sl2⟩, n2, ho2, hc2, hdd2, hd2⟩, z2⟩ := I.list hB
  simp only at hc hd hc2 hd2
  subst hc hd hc2 hd2
  have e : its.toArray ++ its2.toArray = (its ++ its2).toArray := by simp
  have hl := r.length
  have hl2 := r2.length
  refine concat_meets ⟨_, ho, rfl⟩ ⟨_, ho2, rfl⟩ noFill_list_add seq_list_add PySem.F.slot_list_add PySem.F.entry_list_add (PySem.F.args_list_add_2 _ _) (list_addW l b its.toArray its2.toArray n n2 dd dd2 sl sl2 (by simp; omega)) ⟨ho, ho2, ?_⟩
  rw [e]
  exact ⟨.ref _, _, I.lnew (t' := s.toks) (r.append r2) (by rw [List.length_append]; omega), rfl, q _ I.fresh⟩
def isLs : Kd → Bool
  | .lst => true
  | .fz => true
  | _ => false
def addA : T → T → Option T
  | .int i, .int j => some (.int (i + j))
  | .str x, .str y => gd (x.length + y.length ≤ 100000) (.str (x ++ y))
  | .nd k xs, .nd k' ys =>
    if isLs k = true ∧ isLs k' = true then gd (xs.length + ys.length ≤ 100000 ∧ T.imAll (xs ++ ys) = true) (.nd .lst (xs ++ ys))
    else match k, k' with
      | .tup, .tup => gd (xs.length + ys.length ≤ 100000 ∧ T.imAll (xs ++ ys) = true ∧ xs.isEmpty = false) (.nd .tup (xs ++ ys))
      | _, _ => none
  | _, _ => none
def rAddA (K : PySem.W.Frag) : R2 := fun x y H Q => (rI0 (fun i j => .int (i + j)) x y H Q ∨ (∃ i j, x = .str i ∧ y = .str j ∧ i.length + j.length ≤ sizeLine ∧ Q (.str (i ++ j)) H)) ∨ (rCatL K x y H Q ∨ rCatT K x y H Q)
theorem op_addA : OpR X (binaryOp .Add) (rAddA X.K) := or_OpR (or_OpR op_add op_add_str) (or_OpR op_catL op_catT)
theorem Rep.lsAt {H : Hp} {x : V} {k : Kd} {ts : List T} {G : FP} (h : Rep Γ H x (.nd k ts) G) (hk : isLs k = true) :
    ∃ a vs, x = .ref a ∧ SqL Γ.K H a vs ∧ vs.length = ts.length ∧ ∀ (i : Nat) (v : V) (t : T), vs[i]? = some v → ts[i]? = some t → Rep Γ H v t G := by
  cases k with
  | lst => exact h.list (.inl rfl)
  | fz => exact h.list (.inr rfl)
  | _ => cases hk
theorem addA_ok : OpT Γ (rAddA Γ.K) addA := by
  intro H x y t1 t2 t G1 G2 Q r1 r2 e k
  unfold addA at e
  split at e
  · cases e
    cases r1
    cases r2
    exact .inl (.inl ⟨_, _, rfl, rfl, k _ H FE (Same.refl H) (.int _) new_FE⟩)
  · obtain ⟨c1, rfl⟩ := gd_some.mp e
    cases r1
    cases r2
    exact .inl (.inr ⟨_, _, rfl, rfl, sz5 c1, k _ H FE (Same.refl H) (.str _) new_FE⟩)
  · rename_i k1 xs k2 ys
    by_cases hk : isLs k1 = true ∧ isLs k2 = true
    · rw [if_pos hk] at e
      obtain ⟨⟨c1, c2⟩, rfl⟩ := gd_some.mp e
      obtain ⟨a, vs, rfl, ha, hl, hc⟩ := r1.lsAt hk.1
      obtain ⟨b, ws, rfl, hb, hl2, hc2⟩ := r2.lsAt hk.2
      refine .inr (.inl ⟨a, b, vs, ws, rfl, rfl, ha, hb, sz5 (by rw [hl, hl2]; exact c1), fun p hp => ?_⟩)
      obtain ⟨s, r, n⟩ := new_lst (Γ := Γ) (ts := _ ++ _) hp (by rw [List.length_append, List.length_append, hl, hl2]) (app_kids hl hc hc2) c2
      exact k _ _ _ s r n
    · rw [if_neg hk] at e
      split at e
      · obtain ⟨⟨c1, c2, c3⟩, rfl⟩ := gd_some.mp e
        obtain ⟨a, vs, rfl, ha, hl, hc⟩ := r1.tupl
        obtain ⟨b, ws, rfl, hb, hl2, hc2⟩ := r2.tupl
        have hv : vs ≠ [] := fun z => by
          rw [z] at hl
          cases xs with
          | nil => cases c3
          | cons x xs => simp at hl
        refine .inr (.inr ⟨a, b, vs, ws, rfl, rfl, ha, hb, hv, sz5 (by rw [hl, hl2]; exact c1), fun hw => ?_, fun hw p hp => ?_⟩)
        · have hy : ys = [] := by
            rw [hw] at hl2
            cases ys with
            | nil => rfl
            | cons y ys => simp at hl2
          subst hy
          rw [List.append_nil] at k c2
          exact k _ H FE (Same.refl H) (r1.im (by rw [im_tup]; exact c2) FE) new_FE
        · obtain ⟨s, r, n⟩ := new_tup (Γ := Γ) (ts := _ ++ _) hp (by rw [List.length_append, List.length_append, hl, hl2]) (app_kids hl hc hc2) c2
          exact k _ _ _ s r n
      · cases e
  · cases e
/-! ### is -/
theorem is_bool_gen {M : Model} {A : Around} {Q : Value → Shared → Prop} {E : Value → Shared → Prop} {s : Shared} {v : Value} {b : Bool} (hv : ∀ id, v ≠ .builtin id) (h : Q (.bool (v == .bool b)) s) : wpAny M A (compareOp .Is v (.bool b)) Q E s := by
  cases v <;> first | exact wpAny_pure h | exact absurd rfl (hv _)
theorem isnot_bool_gen {M : Model} {A : Around} {Q : Value → Shared → Prop} {E : Value → Shared → Prop} {s : Shared} {v : Value} {b : Bool} (hv : ∀ id, v ≠ .builtin id) (h : Q (.bool (!(v == .bool b))) s) : wpAny M A (compareOp .IsNot v (.bool b)) Q E s := by
  cases v <;> first | exact wpAny_pure h | exact absurd rfl (hv _)
def T.isB (b : Bool) : T → Bool
  | .bl c => c == b
  | _ => false
def rIsBl (neg : Bool) : R2 := fun x y H Q => ∃ b, y = .bl b ∧ Q (.bl (if neg then !decide (x = .bl b) else decide (x = .bl b))) H
theorem bl_iff {x : V} {v : Value} {b : Bool} (r : RelV x v) : (v == Value.bool b) = decide (x = .bl b) := by
  cases x with
  | bl c =>
    cases (show v = Value.bool c from r)
    by_cases e : c = b
    · rw [e]; simp
    · rw [decide_eq_false (fun z => e (V.bl.inj z))]
      exact beq_eq_false_iff_ne.mpr fun z => e (Value.bool.inj z)
  | non => cases (show v = Value.none from r); rfl
  | ref a => cases (show v = Value.ref a from r); rfl
  | ty n => cases (show v = Value.type n from r); rfl
  | int i => obtain ⟨t, rfl⟩ := r; rfl
  | str i => obtain ⟨t, rfl⟩ := r; rfl
  | byt i => obtain ⟨t, rfl⟩ := r; rfl
  | flt i => obtain ⟨t, rfl⟩ := r; rfl
theorem nobi {x : V} {v : Value} (r : RelV x v) : ∀ id, v ≠ .builtin id := fun id z => by
  cases x with
  | non => cases (show v = Value.none from r); cases z
  | bl b => cases (show v = Value.bool b from r); cases z
  | ref a => cases (show v = Value.ref a from r); cases z
  | ty n => cases (show v = Value.type n from r); cases z
  | int i => obtain ⟨t, rfl⟩ := r; cases z
  | str i => obtain ⟨t, rfl⟩ := r; cases z
  | byt i => obtain ⟨t, rfl⟩ := r; cases z
  | flt i => obtain ⟨t, rfl⟩ := r; cases z
theorem op_isBool : OpR X (compareOp .Is) (rIsBl false) := by
  intro pins s σ H x y v u Q I rx ry h
  obtain ⟨b, rfl, q⟩ := h
  cases (show u = Value.bool b from ry)
  refine is_bool_gen (nobi rx) ?_
  rw [bl_iff rx]
  exact ⟨.bl _, H, I, rfl, q⟩
theorem op_isNotBool : OpR X (compareOp .IsNot) (rIsBl true) := by
  intro pins s σ H x y v u Q I rx ry h
  obtain ⟨b, rfl, q⟩ := h
  cases (show u = Value.bool b from ry)
  refine isnot_bool_gen (nobi rx) ?_
  rw [bl_iff rx]
  exact ⟨.bl _, H, I, rfl, q⟩
def isA (t1 t2 : T) : Option T := match t2 with
  | .non => some (.bl t1.isN)
  | .bl b => some (.bl (t1.isB b))
  | _ => none
def isNotA (t1 t2 : T) : Option T := match t2 with
  | .non => some (.bl (!t1.isN))
  | .bl b => some (.bl (!t1.isB b))
  | _ => none
theorem op_isA : OpR X (compareOp .Is) (fun x y H Q => (y = .non ∧ Q (.bl (decide (x = .non))) H) ∨ rIsBl false x y H Q) := or_OpR op_isN op_isBool
theorem op_isNotA : OpR X (compareOp .IsNot) (fun x y H Q => (y = .non ∧ Q (.bl (!decide (x = .non))) H) ∨ rIsBl true x y H Q) := or_OpR op_notN op_isNotBool
theorem Rep.isB {H : Hp} {v : V} {t : T} {F : FP} {b : Bool} (h : Rep Γ H v t F) : decide (v = .bl b) = t.isB b := by
  cases h with
  | bl c =>
    show _ = (c == b)
    by_cases e : c = b
    · rw [e]; simp
    · rw [decide_eq_false (fun z => e (V.bl.inj z))]
      exact (beq_eq_false_iff_ne.mpr e).symm
  | _ => rfl
theorem isA_ok : OpT Γ (fun x y H Q => (y = .non ∧ Q (.bl (decide (x = .non))) H) ∨ rIsBl false x y H Q) isA := by
  intro H x y t1 t2 t G1 G2 Q r1 r2 e k
  unfold isA at e
  split at e
  · cases e
    cases r2
    rw [r1.isN]
    exact .inl ⟨rfl, k _ H FE (Same.refl H) (.bl _) new_FE⟩
  · cases e
    cases r2
    refine .inr ⟨_, rfl, ?_⟩
    rw [r1.isB]
    exact k _ H FE (Same.refl H) (.bl _) new_FE
  · cases e
theorem isNotA_ok : OpT Γ (fun x y H Q => (y = .non ∧ Q (.bl (!decide (x = .non))) H) ∨ rIsBl true x y H Q) isNotA := by
  intro H x y t1 t2 t G1 G2 Q r1 r2 e k
  unfold isNotA at e
  split at e
  · cases e
    cases r2
    rw [r1.isN]
    exact .inl ⟨rfl, k _ H FE (Same.refl H) (.bl _) new_FE⟩
  · cases e
    cases r2
    refine .inr ⟨_, rfl, ?_⟩
    rw [r1.isB]
    exact k _ H FE (Same.refl H) (.bl _) new_FE
  · cases e
/-! ### str() -/
def strT : T → Option T
  | .int i => gd (i.natAbs.log2 < 1920) (.str (toString i))
  | .str z => some (.str z)
  | _ => none
theorem strT_ok : UnT Γ (fun x => (fun xs H Q => (∃ i, xs = [V.int i] ∧ i.natAbs.log2 < 1920 ∧ Q (.str (toString i)) H) ∨ ∃ a, xs = [V.str a] ∧ Q (.str a) H) [x]) strT := by
  intro H x t1 t G1 Q r1 e k
  unfold strT at e
  split at e
  · obtain ⟨c1, rfl⟩ := gd_some.mp e
    cases r1
    exact .inl ⟨_, rfl, c1, k _ H FE (Same.refl H) (.str _) new_FE⟩
  · cases e
    cases r1
    exact .inr ⟨_, rfl, k _ H FE (Same.refl H) (.str _) new_FE⟩
  · cases e
theorem n_str1 (hm : X.mg "str" = none) (ha : PE X e (rdB Γ ar ga)) (hg : Gl X "str" := by rfl) (he : starEach [e] X.env = (false, eval e X.env) :: starEach [] X.env := by rfl) : PE X (.Call (.Name "str" p) [e] [] pos) (rdN Γ ar (bUn strT ga)) := nCallT strT_ok (or_CallR call_str_int SkE.call_str_str) hm (by decide +kernel) ha hg (he := he)
theorem e_str1 (hm : X.mg "str" = none) (ha : PE X e (rdE Γ ar W fa)) (hg : Gl X "str" := by rfl) (he : starEach [e] X.env = (false, eval e X.env) :: starEach [] X.env := by rfl) : PE X (.Call (.Name "str" p) [e] [] pos) (rdE Γ ar W (eUn strT fa)) := eCallT strT_ok (or_CallR call_str_int SkE.call_str_str) hm (by decide +kernel) ha hg (he := he)
end
/-! ### reckoning -/
section
variable {ts us : List T} {t u w x y : T} {i j : Int} {S : TSt} {ga gb gc gs cond elt : BF} {vs : List Nat} {tf : GF} {k : Kd} {b : Bool}
def kBNot : T → Option T
  | .bl b => some (.bl (!b))
  | _ => none
def kBAnd (gb : BF) (S : TSt) : T → Option T
  | .bl true => gb S
  | .bl false => some (.bl false)
  | _ => none
def kBOr (gb : BF) (S : TSt) : T → Option T
  | .bl false => gb S
  | .bl true => some (.bl true)
  | _ => none
def kBIf (ga gb : BF) (S : TSt) : T → Option T
  | .bl true => ga S
  | .bl false => gb S
  | _ => none
theorem bNot_q : bNot ga S = (ga S).bind kBNot := by unfold bNot; cases ga S with | none => rfl | some x => cases x <;> rfl
theorem kBNot_q : kBNot (.bl b) = some (.bl (!b)) := rfl
theorem bAnd_q : bAnd ga gb S = (ga S).bind (kBAnd gb S) := by unfold bAnd; cases ga S with | none => rfl | some x => cases x with | bl b => cases b <;> rfl | _ => rfl
theorem kBAnd_q : kBAnd gb S (.bl b) = if b = true then gb S else some (.bl false) := by cases b <;> rfl
theorem bOr_q : bOr ga gb S = (ga S).bind (kBOr gb S) := by unfold bOr; cases ga S with | none => rfl | some x => cases x with | bl b => cases b <;> rfl | _ => rfl
theorem kBOr_q : kBOr gb S (.bl b) = if b = true then some (.bl true) else gb S := by cases b <;> rfl
theorem bIf_q : bIf gc ga gb S = (gc S).bind (kBIf ga gb S) := by unfold bIf; cases gc S with | none => rfl | some x => cases x with | bl b => cases b <;> rfl | _ => rfl
theorem kBIf_q : kBIf ga gb S (.bl b) = if b = true then ga S else gb S := by cases b <;> rfl
theorem bYes_q : bYes S = some (.bl true) := rfl
theorem lockT_q : lockT (.nd .lst ts) = if T.imAll ts = true then some (.nd .fz ts) else none := rfl
def kNlc (us : List T) : Option T := some (.nd .lst us)
theorem lcN_q : lcN vs tf cond elt ts S = if ts.length < 100000 then (runN tf cond elt ts (wipeS S vs)).bind kNlc else none := rfl
theorem kNlc_q : kNlc us = some (.nd .lst us) := rfl
def kBLc (vs : List Nat) (tf : GF) (cond elt : BF) (S : TSt) (kt : Kd × List T) : Option T := lcN vs tf cond elt kt.2 S
def kBL (vs : List Nat) (tf : GF) (cond elt : BF) (S : TSt) (u : T) : Option T := (seqO u).bind (kBLc vs tf cond elt S)
theorem bLc_q : bLc vs tf gs cond elt S = (gs S).bind (kBL vs tf cond elt S) := rfl
theorem kBL_q : kBL vs tf cond elt S u = (seqO u).bind (kBLc vs tf cond elt S) := rfl
theorem kBLc_q : kBLc vs tf cond elt S (k, ts) = lcN vs tf cond elt ts S := rfl
def kBLR (vs : List Nat) (tf : GF) (cond elt : BF) (S : TSt) : T → Option T
  | .int n => if 0 ≤ n ∧ n < 100000 then lcN vs tf cond elt (rgT n) S else none
  | _ => none
theorem bLcR_q : bLcR vs tf gs cond elt S = (gs S).bind (kBLR vs tf cond elt S) := by unfold bLcR; cases gs S with | none => rfl | some x => cases x <;> rfl
theorem kBLR_q : kBLR vs tf cond elt S (.int i) = if 0 ≤ i ∧ i < 100000 then lcN vs tf cond elt (rgT i) S else none := rfl
theorem runN_pure {α : Type} {gx : α → T} {q : α → Bool} {h : α → T} (S1 : α → TSt) : ∀ (xs : List α), (∀ x ∈ xs, tf (gx x) S = some (S1 x)) → (∀ x ∈ xs, cond (S1 x) = some (.bl (q x))) → (∀ x ∈ xs, q x = true → elt (S1 x) = some (h x)) → runN tf cond elt (xs.map gx) S = some ((xs.filter q).map h)
  | [], _, _, _ => rfl
  | x :: xs, h1, h2, h3 => by
    have ih := runN_pure S1 xs (fun y hy => h1 y (List.mem_cons_of_mem _ hy)) (fun y hy => h2 y (List.mem_cons_of_mem _ hy)) fun y hy => h3 y (List.mem_cons_of_mem _ hy)
    rw [List.map_cons, runN, h1 x List.mem_cons_self, Option.bind_some, h2 x List.mem_cons_self, Option.bind_some, List.filter_cons]
    cases hq : q x with
    | false => simp only [ih]; rfl
    | true => simp only [h3 x List.mem_cons_self hq, ih, Option.bind_some]; rfl
theorem addA_i : addA (.int i) (.int j) = some (.int (i + j)) := rfl
theorem addA_s {a b : Str} : addA (.str a) (.str b) = gd (a.length + b.length ≤ 100000) (.str (a ++ b)) := rfl
theorem addA_ll : addA (.nd .lst ts) (.nd .lst us) = gd (ts.length + us.length ≤ 100000 ∧ T.imAll (ts ++ us) = true) (.nd .lst (ts ++ us)) := rfl
theorem addA_fl : addA (.nd .fz ts) (.nd .lst us) = gd (ts.length + us.length ≤ 100000 ∧ T.imAll (ts ++ us) = true) (.nd .lst (ts ++ us)) := rfl
theorem addA_tt : addA (.nd .tup ts) (.nd .tup us) = gd (ts.length + us.length ≤ 100000 ∧ T.imAll (ts ++ us) = true ∧ ts.isEmpty = false) (.nd .tup (ts ++ us)) := rfl
theorem isA_n : isA t .non = some (.bl t.isN) := rfl
theorem isA_b : isA t (.bl b) = some (.bl (t.isB b)) := rfl
theorem isNotA_n : isNotA t .non = some (.bl (!t.isN)) := rfl
theorem isNotA_b : isNotA t (.bl b) = some (.bl (!t.isB b)) := rfl
theorem isB_bl {c : Bool} : (T.bl c).isB b = (c == b) := rfl
theorem isB_non : T.non.isB b = false := rfl
theorem isB_int : (T.int i).isB b = false := rfl
theorem isB_str {z : Str} : (T.str z).isB b = false := rfl
theorem isB_nd : (T.nd k ts).isB b = false := rfl
theorem isN_bl : (T.bl b).isN = false := rfl
theorem strT_i : strT (.int i) = gd (i.natAbs.log2 < 1920) (.str (toString i)) := rfl
theorem strT_s {z : Str} : strT (.str z) = some (.str z) := rfl
end
end VT

/-! VTU: data with truth values: likeness. -/
namespace VT
open PySem L2
mutual
def wlT : Nat → T → Bool
  | _, .non => true
  | _, .bl _ => true
  | _, .int _ => true
  | _, .str x => PyData.strOk x
  | d + 1, .nd .tup ts => wlAll d ts
  | d + 1, .nd .lst ts => wlAll d ts
  | d + 1, .nd .fz ts => wlAll d ts
  | _, _ => false
def wlAll : Nat → List T → Bool
  | _, [] => true
  | d, t :: ts => wlT d t && wlAll d ts
end
theorem wl0 {k : Kd} {us : List T} : wlT 0 (.nd k us) = false := by cases k <;> rfl
theorem wlAll_iff {d : Nat} : ∀ {ts : List T}, wlAll d ts = true ↔ ∀ t ∈ ts, wlT d t = true
  | [] => by simp [wlAll]
  | t :: ts => by simp [wlAll, wlAll_iff (ts := ts)]
mutual
theorem wl_lay : ∀ {d : Nat} {t : T}, wlT d t = true → (dat t).canLay0 = true ∧ (dat t).depth ≤ d
  | _, .non, _ => by simp [dat, PyData.canLay0, PyData.depth]
  | _, .bl _, _ => by simp [dat, PyData.canLay0, PyData.depth]
  | _, .int _, _ => by simp [dat, PyData.canLay0, PyData.depth]
  | _, .str x, h => by simp [wlT] at h; simp [dat, PyData.canLay0, PyData.depth, h]
  | d + 1, .nd .tup ts, h => by
    rw [wlT] at h
    obtain ⟨h1, h2⟩ := wlAll_lay h
    simp [dat, PyData.canLay0, PyData.depth, h1, h2]
  | d + 1, .nd .lst ts, h => by
    rw [wlT] at h
    obtain ⟨h1, h2⟩ := wlAll_lay h
    simp [dat, PyData.canLay0, PyData.depth, h1, h2]
  | d + 1, .nd .fz ts, h => by
    rw [wlT] at h
    obtain ⟨h1, h2⟩ := wlAll_lay h
    simp [dat, PyData.canLay0, PyData.depth, h1, h2]
theorem wlAll_lay : ∀ {d : Nat} {ts : List T}, wlAll d ts = true → PyData.canLayAll0 (datAll ts) = true ∧ PyData.depthAll (datAll ts) ≤ d
  | _, [], _ => by simp [datAll, PyData.canLayAll0, PyData.depthAll]
  | d, t :: ts, h => by
    rw [wlAll, Bool.and_eq_true] at h
    obtain ⟨a1, a2⟩ := wl_lay h.1
    obtain ⟨b1, b2⟩ := wlAll_lay h.2
    simp [datAll, PyData.canLayAll0, PyData.depthAll, a1, b1]
    omega
end
theorem wl_sh {d : Nat} {t : T} (h : wlT d t = true) (hd : d ≤ 64) : shT t = true := by
  obtain ⟨a, b⟩ := wl_lay h
  unfold shT SeqAt.shaped
  rw [a, Bool.true_and]
  exact decide_eq_true (by omega)
mutual
def nrm : T → T
  | .bl b => .int (if b then 1 else 0)
  | .nd .tup ts => .nd .tup (nrmAll ts)
  | .nd .lst ts => .nd .lst (nrmAll ts)
  | .nd .fz ts => .nd .lst (nrmAll ts)
  | t => t
def nrmAll : List T → List T
  | [] => []
  | t :: ts => nrm t :: nrmAll ts
end
theorem nrmAll_map (ts : List T) : nrmAll ts = ts.map nrm := by
  induction ts with
  | nil => rfl
  | cons t ts ih => rw [nrmAll, ih]; rfl
mutual
theorem wl_eqX : ∀ (d e : Nat) (t u : T), wlT d t = true → wlT e u = true → (PyData.eqv (dat t) (dat u) = true ↔ nrm t = nrm u)
  | _, _, .non, u, h, g => by
    cases u with
    | nd k us => cases k <;> simp [dat, PyData.eqv, nrm]
    | _ => simp [dat, PyData.eqv, nrm]
  | _, _, .bl b, u, h, g => by
    cases u with
    | nd k us => cases k <;> simp [dat, PyData.eqv, nrm]
    | bl c => cases b <;> cases c <;> simp [dat, PyData.eqv, nrm]
    | _ => cases b <;> simp [dat, PyData.eqv, nrm]
  | _, _, .int i, u, h, g => by
    cases u with
    | nd k us => cases k <;> simp [dat, PyData.eqv, nrm]
    | bl b => cases b <;> simp [dat, PyData.eqv, nrm]
    | _ => simp [dat, PyData.eqv, nrm]
  | _, _, .str x, u, h, g => by
    cases u with
    | nd k us => cases k <;> simp [dat, PyData.eqv, nrm]
    | _ => simp [dat, PyData.eqv, nrm]
  | d + 1, e, .nd .tup ts, u, h, g => by
    cases u with
    | nd k us =>
      cases e with
      | zero => rw [wl0] at g; cases g
      | succ e =>
        cases k with
        | tup =>
          have h : wlAll d ts = true := h
          have g : wlAll e us = true := g
          have := wlAll_eqX _ _ ts us h g
          simp [dat, PyData.eqv, nrm, this]
        | lst => simp [dat, PyData.eqv, nrm]
        | fz => simp [dat, PyData.eqv, nrm]
        | _ => simp [wlT] at g
    | _ => simp [dat, PyData.eqv, nrm]
  | d + 1, e, .nd .lst ts, u, h, g => by
    cases u with
    | nd k us =>
      cases e with
      | zero => rw [wl0] at g; cases g
      | succ e =>
        cases k with
        | lst =>
          have h : wlAll d ts = true := h
          have g : wlAll e us = true := g
          have := wlAll_eqX _ _ ts us h g
          simp [dat, PyData.eqv, nrm, this]
        | fz =>
          have h : wlAll d ts = true := h
          have g : wlAll e us = true := g
          have := wlAll_eqX _ _ ts us h g
          simp [dat, PyData.eqv, nrm, this]
        | tup => simp [dat, PyData.eqv, nrm]
        | _ => simp [wlT] at g
    | _ => simp [dat, PyData.eqv, nrm]
  | d + 1, e, .nd .fz ts, u, h, g => by
    cases u with
    | nd k us =>
      cases e with
      | zero => rw [wl0] at g; cases g
      | succ e =>
        cases k with
        | lst =>
          have h : wlAll d ts = true := h
          have g : wlAll e us = true := g
          have := wlAll_eqX _ _ ts us h g
          simp [dat, PyData.eqv, nrm, this]
        | fz =>
          have h : wlAll d ts = true := h
          have g : wlAll e us = true := g
          have := wlAll_eqX _ _ ts us h g
          simp [dat, PyData.eqv, nrm, this]
        | tup => simp [dat, PyData.eqv, nrm]
        | _ => simp [wlT] at g
    | _ => simp [dat, PyData.eqv, nrm]
termination_by _ _ t => sizeOf t
theorem wlAll_eqX : ∀ (d e : Nat) (ts us : List T), wlAll d ts = true → wlAll e us = true → (PyData.eqvAll (datAll ts) (datAll us) = true ↔ nrmAll ts = nrmAll us)
  | _, _, [], [], _, _ => by simp [datAll, PyData.eqvAll, nrmAll]
  | _, _, [], _ :: _, _, _ => by simp [datAll, PyData.eqvAll, nrmAll]
  | _, _, _ :: _, [], _, _ => by simp [datAll, PyData.eqvAll, nrmAll]
  | d, e, t :: ts, u :: us, h, g => by
    rw [wlAll, Bool.and_eq_true] at h g
    have a := wl_eqX _ _ t u h.1 g.1
    have b := wlAll_eqX _ _ ts us h.2 g.2
    simp [datAll, PyData.eqvAll, nrmAll, a, b]
termination_by _ _ ts => sizeOf ts
end
theorem teq_w {d e : Nat} {a b : T} (h : wlT d a = true) (g : wlT e b = true) : teq a b = true ↔ nrm a = nrm b := wl_eqX d e a b h g
theorem eqT_w {a b : T} (h : wlT 8 a = true) (g : wlT 8 b = true) : eqT a b = some (.bl (teq a b)) := gd_pos ⟨wl_sh h (by decide), wl_sh g (by decide)⟩
theorem neT_w {a b : T} (h : wlT 8 a = true) (g : wlT 8 b = true) : neT a b = some (.bl (!teq a b)) := gd_pos ⟨wl_sh h (by decide), wl_sh g (by decide)⟩
theorem eqT_same {a b : T} (h : wlT 8 a = true) (g : wlT 8 b = true) (q : nrm a = nrm b) : eqT a b = some (.bl true) := by rw [eqT_w h g, (teq_w h g).mpr q]
theorem neT_same {a b : T} (h : wlT 8 a = true) (g : wlT 8 b = true) (q : nrm a = nrm b) : neT a b = some (.bl false) := by rw [neT_w h g, (teq_w h g).mpr q]; rfl
theorem eqT_diff {a b : T} (h : wlT 8 a = true) (g : wlT 8 b = true) (q : nrm a ≠ nrm b) : eqT a b = some (.bl false) := by
  rw [eqT_w h g]
  cases z : teq a b with
  | false => rfl
  | true => exact absurd ((teq_w h g).mp z) q
theorem neT_diff {a b : T} (h : wlT 8 a = true) (g : wlT 8 b = true) (q : nrm a ≠ nrm b) : neT a b = some (.bl true) := by
  rw [neT_w h g]
  cases z : teq a b with
  | false => rfl
  | true => exact absurd ((teq_w h g).mp z) q
theorem wl_map {α : Type} {g : α → T} {d : Nat} (h : ∀ a, wlT d (g a) = true) (l : List α) : wlAll d (l.map g) = true := wlAll_iff.mpr fun t ht => by
  obtain ⟨a, _, rfl⟩ := List.mem_map.mp ht
  exact h a
theorem wl_ints {d : Nat} (l : List Int) : wlAll d (l.map T.int) = true := wl_map (fun _ => by cases d <;> rfl) l
theorem nrm_ints (l : List Int) : nrmAll (l.map T.int) = l.map T.int := by rw [nrmAll_map, List.map_map]; exact List.map_congr_left fun _ _ => rfl
theorem ints_inj {l m : List Int} : l.map T.int = m.map T.int ↔ l = m := by
  constructor
  · intro h
    induction l generalizing m with
    | nil => cases m with
      | nil => rfl
      | cons x m => cases h
    | cons x l ih =>
      cases m with
      | nil => cases h
      | cons y m =>
        rw [List.map_cons, List.map_cons] at h
        injection h with h1 h2
        injection h1 with h1
        rw [h1, ih h2]
  · intro h; rw [h]
end VT

/-! VTV: locks of what is made with effects, of names. -/
namespace VT
open PySem PySem.Spec PyProof.Rows L2
section
variable {Γ : Gx} {ar : Fx} {W : WX} {X : Cx} {a b c e o : Expr} {pos p : Pos} {ga gb gc g : BF} {fa fb : EF} {pl : PF} {σ : L2.St} {H : Hp}
/-- what is known behind a lock -/
theorem own_lock {F : FP} {S' : TSt} {v : V} {ts : List T} {H' : Hp} {F' G : FP} (o : Own Γ ar H F σ S' v (.nd .lst ts) H' F' G) (im : T.imAll ts = true) : ∃ d u, H' d = some u ∧ Mut (some u) ∧ ∀ od, Own Γ ar H F σ S' v (.nd .fz ts) (upd H' d (.frz od u)) F' FE := by
  obtain ⟨rs, r, dj, al, up⟩ := o
  cases r with
  | @nd _ _ p vs _ Fs hat hl hm hc hd hs =>
    have hat : H' p = some (.lst vs) := hat
    have gp : G p := (hm rfl).1
    have np : ¬ F' p := fun z => dj p z gp
    have nw := up.new p (.inr gp)
    refine ⟨p, _, hat, trivial, fun od => ⟨rs.ke (G := fun a => a = p) ⟨fun b o eb nb => by rw [upd_ne nb]; exact eb, fun b o io eb => ?_⟩ fun a f z => by rw [z] at f; exact np f, ?_, fun _ _ z => z, fun _ z => z.elim, ⟨⟨fun b o eb nb => ?_, fun b o io eb => ?_⟩, fun a z => z.elim (fun z => up.new a (.inl z)) fun z => z.elim⟩⟩⟩
    · have : b ≠ p := fun z => by rw [z, hat] at eb; cases eb; exact io
      rw [upd_ne this]; exact eb
    · refine .nd (Fs := fun _ => FE) (.inl ⟨od, upd_same⟩) hl (fun m => nomatch m) (fun i w t q1 q2 => ?_) (fun _ _ _ _ z => z.elim) fun _ _ z => z.elim
      have r1 := (hc i w t q1 q2).im (imAll_iff.mp im i t q2) FE
      refine r1.frame (fun _ _ z => z.elim) fun b o io eb => ?_
      have : b ≠ p := fun z => by rw [z, hat] at eb; cases eb; exact io
      rw [upd_ne this]; exact eb
    · have : b ≠ p := fun z => by
        rw [z] at eb nb
        rcases nw with h | h
        · exact nb h
        · rw [eb] at h; cases h
      rw [upd_ne this]; exact up.keep b o eb nb
    · have h1 := up.imm b o io eb
      have : b ≠ p := fun z => by rw [z, hat] at h1; cases h1; exact io
      rw [upd_ne this]; exact h1
theorem e_lock (h : PE X e (rdE Γ ar W fa)) : PE X e (rdE Γ ar W (eUn lockT fa)) := PE.imp (VT.PE.locked h) fun σ H Q q => by
  obtain ⟨S, F, r, S', R, e, k⟩ := q
  unfold eUn at e
  cases e1 : fa S with
  | none => rw [e1] at e; cases e
  | some o1 =>
    obtain ⟨r1, S1⟩ := o1
    rw [e1] at e
    simp only [Option.bind_some] at e
    cases r1 with
    | ex c => cases e; exact ⟨S, F, _, _, R, e1, k⟩
    | ok x =>
      simp only at e
      cases e2 : lockT x with
      | none => rw [e2] at e; cases e
      | some u =>
        rw [e2] at e
        cases e
        unfold lockT at e2
        split at e2
        · rename_i ts
          by_cases im : T.imAll ts = true
          · rw [if_pos im] at e2
            cases e2
            refine ⟨S, F, _, _, R, e1, fun v H' F' G o => ?_⟩
            obtain ⟨d, u, h1, h2, h3⟩ := own_lock o im
            exact ⟨d, u, h1, h2, fun od => k v _ _ _ (h3 od)⟩
          · rw [if_neg im] at e2; cases e2
        · cases e2
/-- a name whose list is not written any more from here on -/
def eVarL (i : Nat) : EF := fun S => (sl S i).bind fun t => (lockT t).bind fun u => some (.ok u, S.set i (some u))
theorem pe_varL (i : Nat) {x : Str} (hN : X.N[i]? = some x := by rfl) (hv : Vis X.env.scope x := by first | exact Or.inl rfl | exact Or.inr (Or.inl rfl) | exact Or.inr (Or.inr rfl)) (hd : (x == ("__debug__" : Str)) = false := by decide)
    (hcd : (x == ("__classdict__" : Str)) = false := by decide) : PE X (.Name x pos) (rdE Γ ar W (eVarL i)) := by
  refine PE.imp (VT.PE.locked (pe_var hN hv hd hcd)) fun σ H Q q => ?_
  obtain ⟨S, F, r, S', R, e, k⟩ := q
  unfold eVarL at e
  cases e0 : sl S i with
  | none => rw [e0] at e; cases e
  | some t =>
    rw [e0] at e
    simp only [Option.bind_some] at e
    cases e2 : lockT t with
    | none => rw [e2] at e; cases e
    | some u =>
      rw [e2] at e
      cases e
      unfold lockT at e2
      split at e2
      · rename_i ts
        by_cases im : T.imAll ts = true
        · rw [if_pos im] at e2
          cases e2
          obtain ⟨v, F', G, ev, rv, R', d, s1, s2⟩ := R.take (sl_some.mp e0)
          have o : Own Γ ar H F σ (S.set i none) v (.nd .lst ts) H F' G := ⟨R', rv, d, fun a g => R.al a (s2 a g), ⟨Ke.refl H F, fun a z => z.elim (fun z => .inl (s1 a z)) fun z => .inl (s2 a z)⟩⟩
          obtain ⟨dd, u, h1, h2, h3⟩ := own_lock o im
          refine ⟨v, ev, dd, u, h1, h2, fun od => ?_⟩
          have o3 := h3 od
          have o4 := o3.rs.give ev o3.r o3.d o3.al
          rw [List.set_set] at o4
          exact k v _ (FU F' FE) FE ⟨o4, o3.r, fun _ _ z => z, fun _ z => z.elim, o3.u.sub fun a z => z.elim (fun z => z) fun z => z.elim⟩
        · rw [if_neg im] at e2; cases e2
      · cases e2
end
section
variable {S : TSt} {i : Nat} {t u : T}
def kVL2 (S : TSt) (i : Nat) (u : T) : Option (Rs T × TSt) := some (.ok u, S.set i (some u))
def kVL (S : TSt) (i : Nat) (t : T) : Option (Rs T × TSt) := (lockT t).bind (kVL2 S i)
theorem eVarL_q : eVarL i S = (sl S i).bind (kVL S i) := rfl
theorem kVL_q : kVL S i t = (lockT t).bind (kVL2 S i) := rfl
theorem addA_lf {ts us : List T} : addA (.nd .lst ts) (.nd .fz us) = gd (ts.length + us.length ≤ 100000 ∧ T.imAll (ts ++ us) = true) (.nd .lst (ts ++ us)) := rfl
theorem kVL2_q : kVL2 S i u = some (.ok u, S.set i (some u)) := rfl
end
end VT

/-! VTW: facts of texts. -/
namespace VT
open PySem L2
/-- a number in figures -/
def dg (i : Int) : Str := Str.ofString (toString i)
theorem ofS_ok (s : String) : PyData.strOk (Str.ofString s) = true := by
  unfold PyData.strOk
  rw [Str.ofString_eq_toList]
  simp only [List.all_toArray, List.all_map, List.all_eq_true]
  intro c _
  simp only [Function.comp, decide_eq_true_eq]
  have h := c.valid
  have e : c.toNat = c.val.toNat := rfl
  rw [e]
  rcases h with h | h
  · have : c.val.toNat < 0xd800 := h
    omega
  · have : c.val.toNat < 0x110000 := h.2
    omega
theorem dg_ok (i : Int) : PyData.strOk (dg i) = true := ofS_ok _
theorem len_app (a b : Str) : (a ++ b).length = a.length + b.length := by
  show (a.cps ++ b.cps).size = _
  rw [Array.size_append]
  rfl
theorem ok_app {a b : Str} (h : PyData.strOk a = true) (g : PyData.strOk b = true) : PyData.strOk (a ++ b) = true := by
  unfold PyData.strOk at *
  show (a.cps ++ b.cps).all _ = true
  rw [Array.all_append, h, g]
  rfl
theorem cps_app (a b : Str) : (a ++ b).cps = a.cps ++ b.cps := rfl
theorem str_ext {a b : Str} (h : a.cps.toList = b.cps.toList) : a = b := by
  cases a with
  | mk x =>
    cases b with
    | mk y =>
      congr 1
      exact Array.ext' h
theorem app_assoc (a b c : Str) : a ++ b ++ c = a ++ (b ++ c) := str_ext (by simp [cps_app])
theorem dg_len {i : Int} {k : Nat} (hk : 0 < k) (h : i.natAbs < 10 ^ k) : (dg i).length ≤ k + 1 := by
  unfold dg
  by_cases h0 : 0 ≤ i
  · have := PyProof.Rows.toString_length_le h0 hk (by
      have e : ((10 ^ k : Nat) : Int) = (10 : Int) ^ k := by norm_cast
      rw [← e]
      omega)
    omega
  · obtain ⟨m, rfl⟩ : ∃ m, i = Int.negSucc m := by
      cases i with
      | ofNat m => exact absurd (Int.natCast_nonneg m) h0
      | negSucc m => exact ⟨m, rfl⟩
    have e : toString (Int.negSucc m) = "-" ++ toString ((m + 1 : Nat) : Int) := rfl
    rw [e, PyProof.Rows.ofString_length, String.toList_append, List.length_append]
    have := PyProof.Rows.toString_length_le (v := ((m + 1 : Nat) : Int)) (Int.natCast_nonneg _) hk (by
      have e : ((10 ^ k : Nat) : Int) = (10 : Int) ^ k := by norm_cast
      rw [← e]
      have : (Int.negSucc m).natAbs = m + 1 := rfl
      omega)
    rw [PyProof.Rows.ofString_length] at this
    have l1 : ("-" : String).toList.length = 1 := rfl
    omega
theorem log_ok {i : Int} (h : i.natAbs < 10 ^ 60) : i.natAbs.log2 < 1920 := by
  by_cases h0 : i.natAbs = 0
  · rw [h0]; decide
  · rw [Nat.log2_lt h0]
    refine Nat.lt_of_lt_of_le h ?_
    exact Nat.le_trans (Nat.pow_le_pow_left (show 10 ≤ 2 ^ 4 by decide) 60) (by rw [← Nat.pow_mul]; exact Nat.pow_le_pow_right (by decide) (by decide))
theorem strT_d {i : Int} (h : i.natAbs < 10 ^ 60) : strT (.int i) = some (.str (dg i)) := gd_pos (log_ok h)
theorem beq_tt : (true == true) = true := rfl
theorem beq_tf : (true == false) = false := rfl
theorem beq_ft : (false == true) = false := rfl
theorem beq_ff : (false == false) = true := rfl
/-! join -/
theorem strs_map (l : List Str) : strsOf (l.map .str) = some l := by
  induction l with
  | nil => rfl
  | cons x l ih => rw [List.map_cons, strsOf, ih]; rfl
theorem joinT_s {a : Str} {k : Kd} {l : List Str} (hk : isSq k = true) (h : (l.map (·.length)).sum + l.length * a.length ≤ 16777216) : joinT a (.nd k (l.map .str)) = some (.str (Txt.join a l)) := by
  show (if isSq k = true then (strsOf (l.map .str)).bind _ else none) = _
  rw [if_pos hk, strs_map]
  exact if_pos h
theorem ok_join {a : Str} {l : List Str} (h : PyData.strOk a = true) (g : ∀ x ∈ l, PyData.strOk x = true) : PyData.strOk (Txt.join a l) = true := by
  have key : ∀ (m : List Str) (acc : Array Nat), acc.all (· < 0x110000) = true → (∀ x ∈ m, PyData.strOk x = true) → (m.foldl (fun acc p => acc ++ a.cps ++ p.cps) acc).all (· < 0x110000) = true := fun m => by
    induction m with
    | nil => exact fun acc h _ => h
    | cons x m ih =>
      intro acc h1 h2
      refine ih _ ?_ fun y hy => h2 y (List.mem_cons_of_mem _ hy)
      have hx := h2 x List.mem_cons_self
      unfold PyData.strOk at h hx
      rw [Array.all_append, Array.all_append, h1, h, hx]
      rfl
  cases l with
  | nil => exact ofS_ok ""
  | cons x l => exact key l x.cps (g x List.mem_cons_self) fun y hy => g y (List.mem_cons_of_mem _ hy)
theorem sum_le {l : List Str} {B : Nat} (h : ∀ x ∈ l, x.length ≤ B) : (l.map (·.length)).sum ≤ l.length * B := by
  induction l with
  | nil => simp
  | cons x l ih =>
    have h1 := h x List.mem_cons_self
    have h2 := ih fun y hy => h y (List.mem_cons_of_mem _ hy)
    simp only [List.map_cons, List.sum_cons, List.length_cons, Nat.succ_mul]
    omega
theorem join_len {a : Str} {l : List Str} : (Txt.join a l).length ≤ (l.map (·.length)).sum + l.length * a.length := by
  have key : ∀ (m : List Str) (acc : Array Nat), (m.foldl (fun acc p => acc ++ a.cps ++ p.cps) acc).size = acc.size + (m.map (·.length)).sum + m.length * a.length := fun m => by
    induction m with
    | nil => intro acc; simp
    | cons x m ih =>
      intro acc
      rw [List.foldl_cons, ih]
      simp only [Array.size_append, List.map_cons, List.sum_cons, List.length_cons, Nat.succ_mul]
      show acc.size + a.length + x.length + _ + _ = _
      omega
  cases l with
  | nil => simp [Txt.join, Builtin.Str.glued]; rfl
  | cons x l =>
    have := key l x.cps
    show ((l.foldl (fun acc p => acc ++ a.cps ++ p.cps) x.cps)).size ≤ _
    rw [this]
    simp only [List.map_cons, List.sum_cons, List.length_cons, Nat.succ_mul]
    show x.length + _ + _ ≤ _
    omega
/-- the text of numbers with commas ahead -/
def cmS (l : List Int) (t : Str) : Str := l.foldl (fun t n => t ++ Str.ofString "," ++ dg n) t
theorem cmS_cps : ∀ (l : List Int) (a b : Str), (cmS l (a ++ b)).cps = a.cps ++ (cmS l b).cps
  | [], a, b => rfl
  | n :: l, a, b => by
    show (cmS l (a ++ b ++ Str.ofString "," ++ dg n)).cps = a.cps ++ (cmS l (b ++ Str.ofString "," ++ dg n)).cps
    rw [app_assoc, app_assoc, cmS_cps l a, app_assoc]
theorem cmS_join (n : Int) (l : List Int) : cmS (n :: l) (Str.ofString "") = Str.ofString "," ++ Txt.join (Str.ofString ",") ((n :: l).map dg) := by
  have key : ∀ (l : List Int) (b : Str), (cmS l b).cps = (l.map dg).foldl (fun acc p => acc ++ (Str.ofString ",").cps ++ p.cps) b.cps := fun l => by
    induction l with
    | nil => intro b; rfl
    | cons n l ih => intro b; exact ih _
  apply str_ext
  show (cmS l (Str.ofString "" ++ Str.ofString "," ++ dg n)).cps.toList = _
  have e : Str.ofString "" ++ Str.ofString "," = Str.ofString "," := by decide +kernel
  rw [e, cmS_cps, key, cps_app]
  rfl
theorem cut_comma (x : Str) : cutS (Str.ofString "," ++ x) (some 1) none = x := by
  have l1 : (Str.ofString ",").cps.toList = [44] := by decide +kernel
  have hl : (Str.ofString "," ++ x).length = 1 + x.length := by
    rw [len_app]
    rfl
  apply str_ext
  unfold cutS
  have e1 : HT.sIx (1 + x.length) 0 (some 1) = 1 := by
    unfold HT.sIx
    simp
  have e2 : HT.sIx (1 + x.length) (1 + x.length) none = 1 + x.length := rfl
  rw [hl, e1, e2]
  simp only [cps_app, Array.toList_append, l1]
  show (List.take (1 + x.length - 1) x.cps.toList) = _
  rw [List.take_of_length_le]
  show x.cps.toList.length ≤ _
  rw [Array.length_toList]
  have : x.cps.size = x.length := rfl
  omega
end VT

/-! VTX: d.pop. -/
namespace VT
open PySem PySem.Spec PyProof.Rows L2
section
variable {K : Type} [DecidableEq K] {prog : Program} {w : World} {knd : HeapKind prog w K}
theorem meetsPop1 {d b : Addr} {k : K} (hd : (d == sysModules) = false) :
    MeetsIn prog w (Builtin.«dict.pop» ⟨[.ref d, .ref b], []⟩) (fun A R s => ∃ xs, knd.room A.in1 ∧ knd.is s.heap k b ∧ s.heap.DictOfH knd d xs ∧ xs.length ≤ sizeLine ∧ (atKey xs k).isSome = true ∧
      ∀ p, atKey xs k = some p → ∀ h' tk, h'.DictOfH knd d (DT.dropH xs k) → Heap.SameBut d s.heap h' → R (.ok (.ret p.2)) { s with heap := h', toks := tk }) :=
  .of_wp fun A R s ⟨xs, hu, hkey, hm, hsz, hth, hsome⟩ => by
    obtain ⟨o, es, ep, ho, hc, hdat, he, his, hn⟩ := id hm
    have hes : es.size = xs.length := size_of_entries he
    have hpart : (keyPart (Value.ref b)).isSome = false := rfl
    unfold Builtin.«dict.pop»
    refine wpAny_bind ?_
    unfold Builtin.Dict.keyAndDefault
    refine wpAny_bind (wpAny_notOrdered_dict hm.typeIs ?_)
    show wpAny _ _ (pure (d, Value.ref b, none)) _ _ s
    refine wpAny_pure ?_
    simp only [hpart, Bool.false_eq_true, if_false]
    refine wpAny_bind (wpAny_dictEntries ho hdat (wpAny_bind (wpAny_pure ?_)))
    cases hem : es.isEmpty with
    | true =>
      have h0 : xs = [] := by
        have z : es.size = 0 := by simpa using hem
        exact List.length_eq_zero_iff.mp (by omega)
      rw [h0] at hth
      cases hth
    | false =>
      simp only [Bool.false_eq_true, if_false]
      refine wpAny_bind (DT.takeH hu hkey hm hsz (fun hno => ?_) fun p e hp hev h' hm' hs' => ?_)
      · rw [hno] at hth; cases hth
      · simp only [Option.isNone_some, Bool.false_eq_true, if_false]
        exact wpAny_bind (wpAny_letGo (wpAny_pure ⟨e.val, rfl, by rw [hev]; exact hsome p hp h' _ hm' hs'⟩))
end
def DPop (H : Hp) (a : Addr) (y v : V) (H' : Hp) : Prop :=
  (∃ kvs k, H a = some (.dK kvs) ∧ y = kV k ∧ valV kvs k = some v ∧ H' = upd H a (.dK (dropK kvs k))) ∨
  (∃ kvs k b, H a = some (.dT kvs) ∧ y = .ref b ∧ H b = some (.tup (k.map kV)) ∧ valV kvs k = some v ∧ H' = upd H a (.dT (dropK kvs k)))
def rDPop : V → List V → Hp → VK → Prop := fun x vs H Q => ∃ a, x = .ref a ∧ ((∃ y v H', (vs = [y] ∨ ∃ d, vs = [y, d]) ∧ DPop H a y v H' ∧ Q v H') ∨ (∃ y d, vs = [y, d] ∧ DGet H a y none ∧ ((∃ kvs, H a = some (.dK kvs)) ∨ ∃ kvs, H a = some (.dT kvs)) ∧ Q d H))
section
variable {X : Cx}
theorem mt_dpop (hu : X.A.units + 1 < cLine) : MtM X "dict.pop" rDPop := by
  intro pins s σ H x xs v us Q I rx rxs h
  obtain ⟨a, rfl, h⟩ := h
  obtain rfl : v = Value.ref a := rx
  rcases h with ⟨y, v, H', hv, hp, q⟩ | ⟨y, d, rfl, hg, hmu, q⟩
  · rcases hp with ⟨kvs, k, ha, rfl, l, rfl⟩ | ⟨kvs, k, b, ha, rfl, hb, l, rfl⟩
    · rcases hv with rfl | ⟨d, rfl⟩
      · obtain ⟨u, rfl, r1⟩ := rxs.one
        exact d_pop I ha r1 l (.inl rfl) fun w' s3 I3 rw' => ⟨v, _, I3, rw', q⟩
      · obtain ⟨u, u2, rfl, r1, r2⟩ := rxs.two
        exact d_pop I ha r1 l (.inr ⟨_, rfl⟩) fun w' s3 I3 rw' => ⟨v, _, I3, rw', q⟩
    · rcases hv with rfl | ⟨d, rfl⟩
      · obtain ⟨u, rfl, r1⟩ := rxs.one
        cases r1
        obtain ⟨z, hd, xs', rel, dd⟩ := dt_of I.hok ha
        have hz : xs'.length ≤ sizeLine := by rw [← Paired.length rel]; exact z
        have hth : (atKey xs' k).isSome = true := by
          have r := (rel.val k).isSome_eq
          rw [l, Option.isSome_map] at r
          exact r.symm
        refine call_meetsIn PySem.F.slot_dict_pop dd.typeIs PySem.F.entry_dict_pop (PySem.F.args_dict_pop_2 _ _) (meetsPop1 (knd := tupleKind (mixKind X.prog X.w)) (k := k) hd)
          ⟨xs', tupleKind_room_in1 hu, key_of I.hok hb, dd, hz, hth, fun p hp h' tk dd' hs => ?_⟩
        have r := rel.val k
        rw [hp, l] at r
        obtain ⟨o, es, ep, hq, h2, h3, h4, _, h5⟩ := dd'
        have I2 : Inv X pins σ (upd H a (.dT (dropK kvs k))) { s with heap := h', toks := tk } :=
          d_write I (by rw [ha]; exact True.intro) hs ⟨o, hq⟩ ⟨Nat.le_trans (dropK_le kvs k) z, hd, _, (DX.KT_drop k rel).keeps (fun c ys ec => (by rw [upd_ne (ne_of ec ha (fun z => nomatch z))]; exact ec)), o, es, ep, hq, h2, h3, h4, h5⟩
        show EP X pins σ Q p.2 _
        exact ⟨v, _, I2, r, q⟩
      · exact DX.mt_popT hu pins s σ H (.ref a) _ (.ref a) us Q I rfl rxs ⟨a, kvs, k, b, d, rfl, rfl, ha, hb, fun v0 e0 => (by rw [l] at e0; cases e0; exact q), fun e0 => (by rw [l] at e0; cases e0)⟩
  · rcases hg with ⟨kvs, k, ha, rfl, l⟩ | ⟨kvs, k, b, ha, rfl, hb, l⟩
    · have ha : H a = some (.dK kvs) := by
        rcases ha with h | ⟨o, h⟩
        · exact h
        · rcases hmu with ⟨kv, e⟩ | ⟨kv, e⟩ <;> (rw [h] at e; cases e)
      obtain ⟨u, u2, rfl, r1, r2⟩ := rxs.two
      exact d_popD I ha r1 l.symm fun s3 I3 => ⟨d, H, I3, r2, q⟩
    · have ha : H a = some (.dT kvs) := by
        rcases ha with h | ⟨o, h⟩
        · exact h
        · rcases hmu with ⟨kv, e⟩ | ⟨kv, e⟩ <;> (rw [h] at e; cases e)
      exact DX.mt_popT hu pins s σ H (.ref a) _ (.ref a) us Q I rfl rxs ⟨a, kvs, k, b, d, rfl, rfl, ha, hb, fun v0 e0 => (by rw [← l] at e0; cases e0), fun _ => q⟩
end
theorem dropK_ix {κ : Type} [DecidableEq κ] {k : κ} : ∀ {ks : List κ} {vs : List V} {j : Nat}, ks.Nodup → ks.length = vs.length → ixK k ks = some j → dropK (ks.zip vs) k = (ks.eraseIdx j).zip (vs.eraseIdx j)
  | [], _, _, _, _, e => by cases e
  | _ :: _, [], _, _, h, _ => by simp at h
  | k' :: ks, v :: vs, j, nd, hl, e => by
    rw [List.nodup_cons] at nd
    unfold ixK at e
    unfold dropK
    rw [List.zip_cons_cons, List.filter_cons]
    by_cases h : k' = k
    · rw [if_pos h] at e
      cases e
      subst h
      simp only [ne_eq, not_true_eq_false, decide_false, Bool.false_eq_true, if_false, List.eraseIdx_cons_zero]
      apply List.filter_eq_self.mpr
      intro p hp
      have hm := (List.of_mem_zip (a := p.1) (b := p.2) hp).1
      simp only [decide_eq_true_eq]
      exact fun z => nd.1 (z ▸ hm)
    · rw [if_neg h] at e
      cases e3 : ixK k ks with
      | none => rw [e3] at e; cases e
      | some j' =>
        rw [e3] at e
        cases e
        rw [if_pos (by simpa using h)]
        have ih := dropK_ix (vs := vs) nd.2 (by simpa using hl) e3
        unfold dropK at ih
        rw [ih]
        rfl
def dpopK (mk : Nat → Kd) (kd : Kd) (nd : Bool) (ts : List T) (r : List T) : Option Nat → Option (T × T)
  | some j => if nd = true ∧ r.length ≤ 1 then (ts[j]?).bind fun t => some (.nd (mk j) (ts.eraseIdx j), t) else none
  | none => match r with
    | [z] => some (.nd kd ts, z)
    | _ => none
def dpopM : MuF := fun u us => match u, us with
  | .nd (.dK ks) ts, w :: r => (keyT w).bind fun k => dpopK (fun j => .dK (ks.eraseIdx j)) (.dK ks) (decide ks.Nodup) ts r (ixK k ks)
  | .nd (.dT ks) ts, .nd .tup ws :: r => (keysT ws).bind fun k => dpopK (fun j => .dT (ks.eraseIdx j)) (.dT ks) (decide ks.Nodup) ts r (ixK k ks)
  | _, _ => none
section
variable {Γ : Gx} {ar : Fx} {W : WX} {X : Cx} {a b e o : Expr} {pos apos cpos : Pos} {ga gb gc g : BF} {fa fb : EF} {pl : PF}
/-- a key goes -/
theorem dpop_core {κ : Type} [DecidableEq κ] {mk : List (κ × V) → HO} {kk : List κ → Kd} {ks : List κ} {k : κ} {H : Hp} {a : Addr} {ws : List V} {ts : List T} {Fs : Nat → FP} {G Gx : FP} {j : Nat} {t : T} {Q : VK}
    (hmk : ∀ l, ¬ Im (mk l)) (hAt : ∀ (H : Hp) (ks : List κ) (ws : List V), ks.length = ws.length → H a = some (mk (ks.zip ws)) → At Γ H (kk ks) a ws)
    (nd : ks.Nodup) (hl : ks.length = ws.length) (ha : H a = some (mk (ks.zip ws))) (hlw : ws.length = ts.length) (ga : G a) (na : ∀ i, ¬ Fs i a)
    (hc : ∀ (i : Nat) (v : V) (t : T), ws[i]? = some v → ts[i]? = some t → Rep Γ H v t (Fs i)) (hdd : ∀ i j a, i ≠ j → Fs i a → Fs j a → False) (hss : ∀ i a, Fs i a → G a)
    (ej : ixK k ks = some j) (et : ts[j]? = some t)
    (kq : ∀ v H' G' Gr, Ke H H' G → (∀ a, G' a ∨ Gr a → G a ∨ Gx a) → (∀ a, G' a → Gr a → False) → (∀ a, H a ≠ none → H' a ≠ none) → Rep Γ H' (.ref a) (.nd (kk (ks.eraseIdx j)) (ts.eraseIdx j)) G' → Rep Γ H' v t Gr → Q v H') : ∃ v, valV (ks.zip ws) k = some v ∧ Q v (upd H a (mk (dropK (ks.zip ws) k))) := by
  have hj : j < ts.length := (List.getElem?_eq_some_iff.mp et).1
  have ew : ws[j]? = some (ws[j]'(by omega)) := List.getElem?_eq_getElem (by omega)
  have rr := hc _ _ _ ew et
  refine ⟨ws[j]'(by omega), ?_, ?_⟩
  · rw [valV_ix hl, ej]; exact ew
  · rw [dropK_ix nd hl ej]
    refine kq _ _ (fun x => x = a ∨ ∃ i, (if i < j then Fs i else Fs (i + 1)) x) (Fs j) (ke_upd ha (hmk _) ga) (fun b z => ?_) (fun b z z' => ?_) al_upd
      (node_upd ha (hmk _) (hAt _ _ _ (by rw [List.length_eraseIdx, List.length_eraseIdx, hl]) upd_same) (by rw [List.length_eraseIdx, List.length_eraseIdx, hlw]) (fun i v t' q1 q2 => ?_) (fun i i' b ne z z' => ?_) fun i z => ?_)
      (rr.frame (fun b u f q => by
        have nb : b ≠ a := fun z => na _ (by rw [← z]; exact f)
        rw [upd_ne nb]; exact q) fun b u im q => by
        have nb : b ≠ a := fun z => by rw [z, ha] at q; cases q; exact hmk _ im
        rw [upd_ne nb]; exact q)
    · rcases z with (z | ⟨i, z⟩) | z
      · rw [z]; exact .inl ga
      · by_cases c1 : i < j
        · rw [if_pos c1] at z; exact .inl (hss i b z)
        · rw [if_neg c1] at z; exact .inl (hss _ b z)
      · exact .inl (hss _ b z)
    · rcases z with z | ⟨i, z⟩
      · rw [z] at z'; exact na _ z'
      · by_cases c1 : i < j
        · rw [if_pos c1] at z; exact hdd i _ b (by omega) z z'
        · rw [if_neg c1] at z; exact hdd (i + 1) _ b (by omega) z z'
    · rw [List.getElem?_eraseIdx] at q1 q2
      by_cases c1 : i < j
      · rw [if_pos c1] at q1 q2 ⊢; exact hc i v t' q1 q2
      · rw [if_neg c1] at q1 q2 ⊢; exact hc (i + 1) v t' q1 q2
    · by_cases c1 : i < j
      · rw [if_pos c1] at z
        by_cases c2 : i' < j
        · rw [if_pos c2] at z'; exact hdd i i' b ne z z'
        · rw [if_neg c2] at z'; exact hdd i (i' + 1) b (by omega) z z'
      · rw [if_neg c1] at z
        by_cases c2 : i' < j
        · rw [if_pos c2] at z'; exact hdd (i + 1) i' b (by omega) z z'
        · rw [if_neg c2] at z'; exact hdd (i + 1) (i' + 1) b (by omega) z z'
    · by_cases c1 : i < j
      · rw [if_pos c1] at z; exact na i z
      · rw [if_neg c1] at z; exact na _ z
theorem vs_of {vs : List V} {w : T} {r : List T} (hl : vs.length = (w :: r).length) (hr : r.length ≤ 1) : ∃ y, vs = [y] ∨ ∃ d, vs = [y, d] := by
  simp only [List.length_cons] at hl
  cases vs with
  | nil => simp at hl
  | cons y vs =>
    cases vs with
    | nil => exact ⟨y, .inl rfl⟩
    | cons d vs =>
      cases vs with
      | nil => exact ⟨y, .inr ⟨d, rfl⟩⟩
      | cons z vs => simp at hl; omega
theorem dpopM_ok : MutT Γ rDPop dpopM := by
  intro H x u us u' res G Gx Gs vs Q r hl hg hd hs dj e k
  unfold dpopM at e
  split at e
  · rename_i ks ts w rr
    cases e1 : keyT w with
    | none => rw [e1] at e; cases e
    | some kk =>
      rw [e1] at e
      simp only [Option.bind_some] at e
      cases r with
      | @nd _ _ a ws _ Fs hat hlw hm hc hdd hss =>
        obtain ⟨hln, ha⟩ : ks.length = ws.length ∧ H a = some (.dK (ks.zip ws)) := hat
        cases ej : ixK kk ks with
        | some j =>
          rw [ej] at e
          unfold dpopK at e
          simp only at e
          by_cases hz : decide ks.Nodup = true ∧ rr.length ≤ 1
          · rw [if_pos hz] at e
            cases et : ts[j]? with
            | none => rw [et] at e; cases e
            | some t =>
              rw [et] at e
              cases e
              obtain ⟨y, hy⟩ := vs_of hl hz.2
              have y0 : vs[0]? = some y := by rcases hy with rfl | ⟨d, rfl⟩ <;> rfl
              have ry := hg 0 y w y0 rfl
              obtain ⟨v, hv, q⟩ := dpop_core (mk := HO.dK) (kk := Kd.dK) (Gx := Gx) (fun _ z => z) (fun _ _ _ h1 h2 => ⟨h1, h2⟩) (of_decide_eq_true hz.1) hln ha hlw (hm rfl).1 (hm rfl).2 hc hdd hss ej et k
              exact ⟨a, rfl, .inl ⟨y, v, _, hy, .inl ⟨_, kk, ha, keyT_rep ry e1, hv, rfl⟩, q⟩⟩
          · rw [if_neg hz] at e; cases e
        | none =>
          rw [ej] at e
          unfold dpopK at e
          simp only at e
          split at e
          · rename_i z
            cases e
            match vs, hl with
            | [y, d], _ =>
              have ry := hg 0 y w rfl rfl
              have rz := hg 1 d res rfl rfl
              refine ⟨a, rfl, .inr ⟨y, d, rfl, ?_, .inl ⟨_, ha⟩, ?_⟩⟩
              · rw [keyT_rep ry e1]
                have := DGet.k (k := kk) ha
                rw [valV_ix hln, ej] at this
                exact this
              · refine k d H G (Gs 1) (Ke.refl H G) (fun b z => z.elim .inl fun z => .inr (hs 1 b z)) (fun b z z' => dj b z (hs 1 b z')) (fun _ h => h) (.nd (Fs := Fs) ⟨hln, ha⟩ hlw hm hc hdd hss) rz
          · cases e
  · rename_i ks ts wsT rr
    cases e1 : keysT wsT with
    | none => rw [e1] at e; cases e
    | some kk =>
      rw [e1] at e
      simp only [Option.bind_some] at e
      cases r with
      | @nd _ _ a ws _ Fs hat hlw hm hc hdd hss =>
        obtain ⟨hln, ha⟩ : ks.length = ws.length ∧ H a = some (.dT (ks.zip ws)) := hat
        cases ej : ixK kk ks with
        | some j =>
          rw [ej] at e
          unfold dpopK at e
          simp only at e
          by_cases hz : decide ks.Nodup = true ∧ rr.length ≤ 1
          · rw [if_pos hz] at e
            cases et : ts[j]? with
            | none => rw [et] at e; cases e
            | some t =>
              rw [et] at e
              cases e
              obtain ⟨y, hy⟩ := vs_of hl hz.2
              have y0 : vs[0]? = some y := by rcases hy with rfl | ⟨d, rfl⟩ <;> rfl
              have ry := hg 0 y _ y0 rfl
              obtain ⟨b, ys, rfl, hb, hlb, hcb⟩ := ry.tupAt
              rw [keysT_rep hlb hcb e1] at hb
              obtain ⟨v, hv, q⟩ := dpop_core (mk := HO.dT) (kk := Kd.dT) (Gx := Gx) (fun _ z => z) (fun _ _ _ h1 h2 => ⟨h1, h2⟩) (of_decide_eq_true hz.1) hln ha hlw (hm rfl).1 (hm rfl).2 hc hdd hss ej et k
              exact ⟨a, rfl, .inl ⟨_, v, _, hy, .inr ⟨_, kk, b, ha, rfl, hb, hv, rfl⟩, q⟩⟩
          · rw [if_neg hz] at e; cases e
        | none =>
          rw [ej] at e
          unfold dpopK at e
          simp only at e
          split at e
          · rename_i z
            cases e
            match vs, hl with
            | [y, d], _ =>
              have ry := hg 0 y _ rfl rfl
              have rz := hg 1 d res rfl rfl
              obtain ⟨b, ys, rfl, hb, hlb, hcb⟩ := ry.tupAt
              rw [keysT_rep hlb hcb e1] at hb
              refine ⟨a, rfl, .inr ⟨_, d, rfl, ?_, .inr ⟨_, ha⟩, ?_⟩⟩
              · have := DGet.t (k := kk) ha hb
                rw [valV_ix hln, ej] at this
                exact this
              · refine k d H G (Gs 1) (Ke.refl H G) (fun b z => z.elim .inl fun z => .inr (hs 1 b z)) (fun b z z' => dj b z (hs 1 b z')) (fun _ h => h) (.nd (Fs := Fs) ⟨hln, ha⟩ hlw hm hc hdd hss) rz
          · cases e
  · cases e
end
end VT

/-! VTY: methods of dicts, while, o.f += e. -/
namespace VT
open PySem PySem.Spec PyProof.Rows L2
section
variable {Γ : Gx} {ar : Fx} {W : WX} {X : Cx} {a b c e o : Expr} {es : List Expr} {pos apos cpos : Pos} {ga gb gc g : BF} {fa fb : EF} {pl : PF}
theorem Rep.tyD {H : Hp} {x : V} {u : T} {G : FP} (h : Rep Γ H x u G) (hl : isDi u = true) : tyV Γ.K "dict" x H := by
  unfold isDi at hl
  split at hl
  · cases h with
    | @nd _ _ a vs _ Fs hat _ _ _ _ _ => exact .inr (.inr (.inl ⟨rfl, .inl ⟨_, hat.2⟩⟩))
  · cases h with
    | @nd _ _ a vs _ Fs hat _ _ _ _ _ => exact .inr (.inr (.inl ⟨rfl, .inr ⟨_, hat.2⟩⟩))
  · cases hl
def eDmP (m : MuF) (pl : PF) (gs : BAF) : EF := fun S => (pl S).bind fun ip => (sl S ip.1).bind fun t => (tAt ip.2 t).bind fun u => if isDi u = true then (gs S).bind fun as => (valsOf as).bind fun us => (m u us).bind fun ur => some (.ok ur.2, S.set ip.1 (some (tPut ip.2 t ur.1))) else none
theorem e_dmP {r : V → List V → Hp → VK → Prop} {m : MuF} {id : String} {name : Str} {gs : BAF} (hm : MutT Γ r m) (slot : Slot "dict" name id) (hty : typeOf (.builtin id) = pure (.type "method_descriptor")) (mt : MtM X id r) (ho : PE X o (rdP Γ ar pl)) (ha : PA X (e :: es) (rdBA Γ ar gs)) (hK : X.K = Γ.K := by rfl)
    (hbase : attributeBase o name X.env (eval o X.env) = eval o X.env := by rfl)
    (hfew : ((backTo cpos (starEach (e :: es) X.env)).all (fun x => !x.1) && (backToKw cpos (keywordEach [] X.env)).all (fun x => x.1.isSome) && decide ((e :: es).length + ([] : List Keyword).length + (if ([] : List Keyword).isEmpty then 0 else 1) < 30)) = true := by rfl)
    (hline : (apos.endLine == cpos.line) = true := by rfl)
    (hst : starEach (e :: es) X.env = (false, eval e X.env) :: starEach es X.env := by rfl)
    (hpl : (backTo cpos (starEach es X.env)).any (·.1) = false := by rfl) :
    PE X (.Call (.Attribute o name apos) (e :: es) [] cpos) (rdE Γ ar W (eDmP m pl gs)) := by
  refine PE.imp (pe_bm PySem.F.plainAttrs_dict slot hty mt ho ha hbase hfew hline hst hpl) fun σ H Q q => ?_
  obtain ⟨S, F, rr, S', R, ee, kk⟩ := q
  unfold eDmP at ee
  cases q1 : pl S with
  | none => rw [q1] at ee; cases ee
  | some ip =>
    obtain ⟨i, p⟩ := ip
    rw [q1] at ee
    simp only [Option.bind_some] at ee
    cases q2 : sl S i with
    | none => rw [q2] at ee; cases ee
    | some t =>
      rw [q2] at ee
      simp only [Option.bind_some] at ee
      cases q3 : tAt p t with
      | none => rw [q3] at ee; cases ee
      | some u =>
        rw [q3] at ee
        simp only [Option.bind_some] at ee
        by_cases hl : isDi u = true
        · rw [if_pos hl] at ee
          cases q4 : gs S with
          | none => rw [q4] at ee; cases ee
          | some as =>
            rw [q4] at ee
            simp only [Option.bind_some] at ee
            cases q5 : valsOf as with
            | none => rw [q5] at ee; cases ee
            | some us =>
              rw [q5] at ee
              simp only [Option.bind_some] at ee
              cases q6 : m u us with
              | none => rw [q6] at ee; cases ee
              | some ur =>
                obtain ⟨u', res⟩ := ur
                rw [q6] at ee
                cases ee
                refine ⟨S, F, i, p, t, u, R, q1, q2, q3, fun v0 v H1 h1 h2 s1 => ?_⟩
                obtain ⟨v0', v', G0, ev, b1, b2⟩ := R.place q2 q3
                have z0 : v0 = v0' := Option.some.inj (Option.some.inj (h1.symm.trans ev))
                subst z0
                have z1 : v = v' := Option.some.inj (h2.symm.trans b1)
                subst z1
                refine ⟨hK ▸ (b2.same s1).tyD hl, S, F, as, R.same s1, q4, fun vs H2 G2 s2 A2 n2 => ?_⟩
                have s12 := s1.trans s2
                refine mut_core hm (R.same s12) A2 q5 (fun a f g => same_al s1 (R.al a f) (n2.1 a g)) n2.2 q2 q3 q6 h1 (vAt_same s12 h2) fun w H' F' G R' rw' d al u => ?_
                exact kk w H' F' G ⟨R', rw', d, al, Upd.trans (F1 := FU F G2) ⟨Ke.of_same F s12, fun a z => z.elim .inl fun z => .inr (s1.free (n2.1 a z))⟩ u⟩
        · rw [if_neg hl] at ee; cases ee
/-- the dict is a name's; the arguments with effects -/
def eDmV (m : MuF) (i : Nat) (fs : AF) : EF := fun S => (sl S i).bind fun t => if isDi t = true then (fs S).bind fun rx => match rx with
  | (.ex c, S1) => some (.ex c, S1)
  | (.ok as, S1) => (sl S1 i).bind fun u => (valsOf as).bind fun us => (m u us).bind fun ur => some (.ok ur.2, S1.set i (some ur.1)) else none
theorem e_dmV {r : V → List V → Hp → VK → Prop} {m : MuF} {id : String} {name y : Str} {fs : AF} {pos' : Pos} (i : Nat) (hm : MutT Γ r m) (slot : Slot "dict" name id) (hty : typeOf (.builtin id) = pure (.type "method_descriptor")) (mt : MtM X id r) (ha : PA X (e :: es) (rdA Γ ar W fs)) (hK : X.K = Γ.K := by rfl)
    (hN : X.N[i]? = some y := by rfl) (hv : Vis X.env.scope y := by first | exact Or.inl rfl | exact Or.inr (Or.inl rfl) | exact Or.inr (Or.inr rfl)) (hd : (y == ("__debug__" : Str)) = false := by decide) (hcd : (y == ("__classdict__" : Str)) = false := by decide)
    (hbase : attributeBase (.Name y pos') name X.env (eval (.Name y pos') X.env) = eval (.Name y pos') X.env := by rfl)
    (hfew : ((backTo cpos (starEach (e :: es) X.env)).all (fun x => !x.1) && (backToKw cpos (keywordEach [] X.env)).all (fun x => x.1.isSome) && decide ((e :: es).length + ([] : List Keyword).length + (if ([] : List Keyword).isEmpty then 0 else 1) < 30)) = true := by rfl)
    (hline : (apos.endLine == cpos.line) = true := by rfl)
    (hst : starEach (e :: es) X.env = (false, eval e X.env) :: starEach es X.env := by rfl)
    (hpl : (backTo cpos (starEach es X.env)).any (·.1) = false := by rfl) :
    PE X (.Call (.Attribute (.Name y pos') name apos) (e :: es) [] cpos) (rdE Γ ar W (eDmV m i fs)) := by
  refine PE.imp (pe_bm PySem.F.plainAttrs_dict slot hty mt (pe_var hN hv hd hcd) ha hbase hfew hline hst hpl) fun σ H Q q => ?_
  obtain ⟨S, F, rr, S', R, ee, kk⟩ := q
  unfold eDmV at ee
  cases q2 : sl S i with
  | none => rw [q2] at ee; cases ee
  | some t =>
    rw [q2] at ee
    simp only [Option.bind_some] at ee
    by_cases hl : isDi t = true
    · rw [if_pos hl] at ee
      obtain ⟨v, ev, rv⟩ := R.slot (sl_some.mp q2)
      refine ⟨v, ev, hK ▸ rv.tyD hl, ?_⟩
      cases q4 : fs S with
      | none => rw [q4] at ee; cases ee
      | some o1 =>
        obtain ⟨r1, S1⟩ := o1
        rw [q4] at ee
        simp only [Option.bind_some] at ee
        cases r1 with
        | ex c => cases ee; exact ⟨S, F, _, _, R, q4, kk⟩
        | ok as =>
          simp only at ee
          cases q3 : sl S1 i with
          | none => rw [q3] at ee; cases ee
          | some u =>
            rw [q3] at ee
            simp only [Option.bind_some] at ee
            cases q5 : valsOf as with
            | none => rw [q5] at ee; cases ee
            | some us =>
              rw [q5] at ee
              simp only [Option.bind_some] at ee
              cases q6 : m u us with
              | none => rw [q6] at ee; cases ee
              | some ur =>
                obtain ⟨u', res⟩ := ur
                rw [q6] at ee
                cases ee
                refine ⟨S, F, _, _, R, q4, fun vs H1 F1 G1 R1 A1 d1 al1 u1 => ?_⟩
                refine mut_core (p := []) hm R1 A1 q5 d1 al1 q3 rfl q6 ev rfl fun w H' F' G R' rw' d al u2 => ?_
                exact kk w H' F' G ⟨R', rw', d, al, u1.trans u2⟩
    · rw [if_neg hl] at ee; cases ee

/-! ### while -/
def runW (c : EF) (b : SF) : Nat → TSt → Option (Fl × TSt)
  | 0, _ => none
  | n + 1, S => (c S).bind fun rx => match rx with
    | (.ex k, S1) => some (.ex k, S1)
    | (.ok (.bl true), S1) => (b S1).bind fun ry => match ry with
      | (.nx, S2) => runW c b n S2
      | (.ct, S2) => runW c b n S2
      | (.bk, S2) => some (.nx, S2)
      | (.rt t, S2) => some (.rt t, S2)
      | (.ex k, S2) => some (.ex k, S2)
    | (.ok (.bl false), S1) => some (.nx, S1)
    | _ => none
def sWhile (c : EF) (b : SF) : SF := fun S => runW c b 1000000 S
theorem while_ok {body : SF} {D : Ends} {σ : L2.St} {H : Hp} (q : rdS Γ ar W (sWhile fa body) D σ H) : tWhile (rdT Γ ar W fa) (rdS Γ ar W body) D σ H := by
  obtain ⟨S, F, fl, S', R, ee, kk⟩ := q
  refine ⟨fun m σ1 H1 => ∃ S1 F1, RepS Γ ar H1 σ1 S1 F1 ∧ Upd H H1 F F1 ∧ runW fa body m S1 = some (fl, S'), ⟨1000000, S, F, R, Upd.refl H F, ee⟩, ?_⟩
  rintro m σ1 H1 ⟨S1, F1, R1, u1, e1⟩
  cases m with
  | zero => cases e1
  | succ n =>
    unfold runW at e1
    cases e2 : fa S1 with
    | none => rw [e2] at e1; cases e1
    | some rx =>
      rw [e2] at e1
      simp only [Option.bind_some] at e1
      split at e1
      · cases e1
        exact ⟨S1, F1, _, _, R1, e2, fun H' F' R' u' => kk σ1 H' F' R' (u1.trans u')⟩
      · rename_i S2
        cases e3 : body S2 with
        | none => rw [e3] at e1; cases e1
        | some ry =>
          obtain ⟨f2, S3⟩ := ry
          rw [e3] at e1
          simp only [Option.bind_some] at e1
          refine bool_then R1 e2 fun H2 F2 R2 u2 => iteT ?_
          have u12 := u1.trans u2
          refine ⟨fun σ' H' => ∃ S4 F4, RepS Γ ar H' σ' S4 F4 ∧ Upd H H' F F4 ∧ runW fa body n S4 = some (fl, S'), fun σ' H' z => ⟨n, Nat.lt_succ_self n, z⟩, S2, F2, f2, S3, R2, e3, ?_⟩
          cases f2 with
          | nx => exact fun σ' H' F' R' u' => ⟨S3, F', R', u12.trans u', e1⟩
          | ct => exact fun σ' H' F' R' u' => ⟨S3, F', R', u12.trans u', e1⟩
          | bk => cases e1; exact fun σ' H' F' R' u' => kk σ' H' F' R' (u12.trans u')
          | rt t => cases e1; exact fun v σ' H' F' G o => kk v σ' H' F' G ⟨o.rs, o.r, o.d, o.al, u12.trans o.u⟩
          | ex k => cases e1; exact fun σ' H' F' R' u' => kk σ' H' F' R' (u12.trans u')
      · cases e1
        exact bool_then R1 e2 fun H2 F2 R2 u2 => iteF (kk σ1 H2 F2 R2 (u1.trans u2))
      · cases e1
theorem s_while {body : List Stmt} {sb : SF} (hp : PassesOwn (model X.prog X.w) X.A X.env X.xe) (hc : PT X c (rdT Γ ar W fa)) (hb : PSs X body (rdS Γ ar W sb)) : PS X (.While c body [] pos) (rdS Γ ar W (sWhile fa sb)) := PS.imp (ps_while hp hc hb) fun D σ H q => while_ok q
/-! ### x.f += e -/
def kAug (fo : Int → Int → Int) (ct : Nat → List Str) (f : Str) (b : T) (u : T) : Option T := match u, b with
  | .nd (.obj c ns) ts, .int j => if (ct c).contains f = true ∧ ns.length < 1000 then (ixOf f ns).bind fun n => (ts[n]?).bind fun t => match t with
    | .int i => some (.nd (.obj c ns) (ts.set n (.int (fo i j))))
    | _ => none else none
  | _, _ => none
def sAugF (fo : Int → Int → Int) (ct : Nat → List Str) (f : Str) (pl : PF) (gb : BF) : SF := fun S => (pl S).bind fun ip => (sl S ip.1).bind fun t0 => (tAt ip.2 t0).bind fun u => (gb S).bind fun b => (kAug fo ct f b u).bind fun u' => some (.nx, S.set ip.1 (some (tPut ip.2 t0 u')))
theorem s_augF {op : Operator} {fo : Int → Int → Int} {f : Str} {value : Expr} {tpos : Pos} (hop : InOp X op (fun x y H Q => ∃ i j, x = .int i ∧ y = .int j ∧ Q (.int (fo i j)) H)) (ho : PE X o (rdP Γ ar pl)) (hv : PE X value (rdB Γ ar gb)) (hK : X.K = Γ.K := by rfl) :
    PS X (.AugAssign (.Attribute o f tpos) op value pos) (rdS Γ ar W (sAugF fo Γ.ct f pl gb)) := by
  refine PS.imp (ps_fldaug ho hv hop) fun D σ H q => ?_
  obtain ⟨S, F, fl, S', R, ee, kk⟩ := q
  unfold sAugF at ee
  cases q1 : pl S with
  | none => rw [q1] at ee; cases ee
  | some ip =>
    obtain ⟨i, p⟩ := ip
    rw [q1] at ee
    simp only [Option.bind_some] at ee
    cases q2 : sl S i with
    | none => rw [q2] at ee; cases ee
    | some t0 =>
      rw [q2] at ee
      simp only [Option.bind_some] at ee
      cases q3 : tAt p t0 with
      | none => rw [q3] at ee; cases ee
      | some u =>
        rw [q3] at ee
        simp only [Option.bind_some] at ee
        cases q4 : gb S with
        | none => rw [q4] at ee; cases ee
        | some b =>
          rw [q4] at ee
          simp only [Option.bind_some] at ee
          unfold kAug at ee
          split at ee
          · rename_i c ns ts j
            by_cases hz : (Γ.ct c).contains f = true ∧ ns.length < 1000
            · rw [if_pos hz] at ee
              cases q5 : ixOf f ns with
              | none => rw [q5] at ee; cases ee
              | some n =>
                rw [q5] at ee
                simp only [Option.bind_some] at ee
                cases q6 : ts[n]? with
                | none => rw [q6] at ee; cases ee
                | some t =>
                  rw [q6] at ee
                  simp only [Option.bind_some] at ee
                  cases t with
                  | int k =>
                    cases ee
                    obtain ⟨o1, o2⟩ := Γ.ok c f (List.contains_iff_mem.mp hz.1)
                    refine ⟨S, F, i, p, t0, _, R, q1, q2, q3, fun v0 v H1 h1 h2 s1 => ?_⟩
                    obtain ⟨v0', v', G0, ev, b1, b2⟩ := R.place q2 q3
                    have z0 : v0 = v0' := Option.some.inj (Option.some.inj (h1.symm.trans ev))
                    subst z0
                    have z1 : v = v' := Option.some.inj (h2.symm.trans b1)
                    subst z1
                    have b2' := b2.same s1
                    cases b2' with
                    | @nd _ _ a ws _ Fs hat hlw hm hc hdd hss =>
                      obtain ⟨hln, dx, ha⟩ := hat
                      have hn : n < ts.length := (List.getElem?_eq_some_iff.mp q6).1
                      have ew : ws[n]? = some (ws[n]'(by omega)) := List.getElem?_eq_getElem (by omega)
                      have rw1 := hc n _ _ ew q6
                      generalize hwn : ws[n]'(by omega) = wn at ew rw1
                      cases rw1
                      rw [hK]
                      refine ⟨a, _, dx, _, _, rfl, ha, o1, o2, lookup_ix q5 ew, S, F, _, R.same s1, q4, fun y H2 G2 s2 r2 => ?_⟩
                      cases r2
                      refine ⟨k, j, rfl, rfl, dx, _, s2 _ _ ha, by rw [List.length_zip]; omega, ?_⟩
                      have s12 := s1.trans s2
                      have A : ArgsP Γ H2 σ [.int (fo k j)] [.val (.int (fo k j))] (FU FE FE) := argsP_nil.val (.int _) fun _ z => z.elim
                      have em : putFM Γ.ct f (.nd (.obj c ns) ts) [.int (fo k j)] = some (.nd (.obj c ns) (ts.set n (.int (fo k j))), .non) := by
                        unfold putFM
                        simp only
                        rw [if_pos hz, q5]
                      have fin := mut_core (Q := fun _ H' => D.nx σ H') (putFM_ok (f := f)) (R.same s12) A rfl (fun a f g => g.elim id id) (fun a g => g.elim False.elim False.elim) q2 q3 em h1 (vAt_same s12 h2) fun w H' F' G R' rw' d al u2 => kk σ H' F' R' ((Upd.of_same s12).trans ((u2.sup fun a z => z.elim id fun z => z.elim False.elim False.elim).sub fun a z => .inl z))
                      obtain ⟨a', C', dx', fs', y', ex, ey, ha', _, _, _, fin⟩ := fin
                      cases ex
                      cases ey
                      have := s2 _ _ ha
                      rw [this] at ha'
                      cases ha'
                      exact fin
                  | _ => cases ee
            · rw [if_neg hz] at ee; cases ee
          · cases ee
end
end VT

/-! VTZ: sorted() of pairs of ints: lists, dicts by their keys. -/
namespace VT
open PySem PySem.Spec PyProof.Rows L2
section
variable {X : Cx}
theorem call_sortedDT (hcalm : X.calm = true) : CallR X (.builtin "sorted") (fun xs H Q => ∃ (a : Addr) (kvs : List (List Key × V)) (k : V → Int × Int), xs = [.ref a] ∧ Rd H a (.dT kvs) ∧ (∀ p ∈ kvs, ∃ i j, p.1 = [Sum.inl i, Sum.inl j]) ∧ (∀ t i j, H t = some (.tup [.int i, .int j]) → k (.ref t) = (i, j)) ∧
    ∀ bs ys p, IsKeys H kvs bs → SrtO.Srtd (ltP k) ys → SrtO.Stb (ltP k) ys (bs.map V.ref) → H p = none → Q (.ref p) (upd H p (.lst ys))) := by
  intro pins s σ H xs us Q I r h
  obtain ⟨a, kvs, k, rfl, hd, hp2, hkk, q⟩ := h
  obtain ⟨u, rfl, rx⟩ := r.one
  cases rx
  obtain ⟨z, hs, ks, pr, o, es, ep, ho, hx, hdt, he, hn⟩ := (show ObjOk X.prog X.w H s.heap a (.dT kvs) from hd.ok I.hok)
  have l1 : es.size = ks.length := size_of_entries he
  have l2 : kvs.length = ks.length := Paired.length pr
  refine Calls.call_function_entry PyProof.Rows.kind_sorted PyProof.Rows.plain_sorted PyProof.Rows.entry_sorted (PyProof.Rows.args_sorted1 _) ?_
  unfold Builtin.«sorted»
  refine wpAny_bind (m := checkCount "sorted" 1 1 _) (wpAny_pure ?_)
  refine wpAny_bind (PySem.W.kdu_collect (A := X.A.in1) (kdl_raw hs hx hdt) (I.ok.hd hcalm) ho (by omega) fun h' tk acc' kp it => ?_)
  have ea : acc'.toList = ks.map fun x => Value.ref x.2.1 := by
    have hl : acc'.toList.length = ks.length := by rw [Array.length_toList, it.1]; exact l1
    apply List.ext_getElem?
    intro j
    rw [List.getElem?_map]
    cases hj : acc'.toList[j]? with
    | none =>
      have h1 := List.getElem?_eq_none_iff.mp hj
      rw [List.getElem?_eq_none (by omega)]
      all_goals rfl
    | some v =>
      obtain ⟨en, hen, hv⟩ := it.2 j v (by rw [← Array.getElem?_toList]; exact hj)
      have qe := entry_at he j
      rw [hen] at qe
      cases hb : ks[j]? with
      | none =>
        rw [hb] at qe
        exact nomatch (show some en = none from qe)
      | some b =>
        rw [hb] at qe
        have e2 : en = entryOfKey (tupleKind (mixKind X.prog X.w)) b := Option.some.inj qe
        rw [hv, e2]
        all_goals rfl
  have eb : acc'.toList = (ks.map fun x => x.2.1).map Value.ref := by rw [ea, List.map_map]; all_goals rfl
  have I1 : L2.Inv X pins σ H { s with heap := h', toks := tk } := I.kept kp
  have ik := isKeys_of pr
  have hlen : acc'.toList.length ≤ sizeLine := by rw [eb, List.length_map, List.length_map]; omega
  refine wpAny_bind (wpAny_newList ?_ hlen)
  have hoL : (h'.push (seqObj "list" acc'.toList.toArray 0)).get? h'.objs.size = some (seqObj "list" acc'.toList.toArray 0) := Heap.get?_push_size _ rfl
  show wpAny _ _ _ _ _ { s with heap := h'.push (seqObj "list" acc'.toList.toArray 0), toks := tk }
  have keyAt : ∀ v ∈ acc'.toList, ∃ t i j, v = Value.ref t ∧ H t = some (.tup [.int i, .int j]) := fun v hv => by
    rw [eb] at hv
    obtain ⟨t, ht, rfl⟩ := List.mem_map.mp hv
    have hget : ∀ {kv : List (List Key × V)} {bs : List Addr}, IsKeys H kv bs → (∀ p ∈ kv, ∃ i j, p.1 = [Sum.inl i, Sum.inl j]) → t ∈ bs → ∃ i j, H t = some (.tup [.int i, .int j]) := fun {kv bs} ik => by
      induction ik with
      | nil => exact fun _ h => nomatch h
      | cons hb _ ih =>
        intro h2 hm
        rcases List.mem_cons.mp hm with e | e
        · obtain ⟨i, j, ep⟩ := h2 _ List.mem_cons_self
          refine ⟨i, j, ?_⟩
          rw [e, hb, ep]
          rfl
        · exact ih (fun p hp => h2 p (List.mem_cons_of_mem _ hp)) e
    obtain ⟨i, j, e⟩ := hget ik hp2 ht
    exact ⟨t, i, j, rfl, e⟩
  have hp : ∀ v ∈ acc'.toList, Srt.IsPair (h'.push (seqObj "list" acc'.toList.toArray 0)) v (k (backV v)).1 (k (backV v)).2 := fun v hv => by
    obtain ⟨t, i, j, rfl, ht⟩ := keyAt v hv
    obtain ⟨_, its2, r2, o, ho, hc, n, hd⟩ := I1.hok _ _ ht
    obtain ⟨u1, u2, rfl, ri, rj⟩ := vals2 r2
    obtain ⟨t1, rfl⟩ := ri
    obtain ⟨t2, rfl⟩ := rj
    rw [show k (backV (Value.ref t)) = (i, j) from hkk t i j ht]
    exact ⟨t, o, t1, t2, n, rfl, Heap.get?_push_of_some _ ho, hc, hd⟩
  refine wpAny_bind (wpAny_holding (wpAny_call_entry PyProof.Rows.slot_list_sort ⟨_, hoL, rfl⟩ PyProof.Rows.entry_list_sort
    (SrtO.list_sort_ord (s := { s with heap := h'.push (seqObj "list" acc'.toList.toArray 0), toks := tk }) (SrtO.swo_lex fun u => k (backV u)) hoL hlen (fun h2 => SrtO.pairs_sortableO (by omega) hp fun o e => ?_) fun out h1 h2 => ⟨_, rfl, ?_⟩) (PyProof.Rows.args_list_sort _)))
  · have e' : some o = some (seqObj "list" acc'.toList.toArray 0) := e.symm.trans hoL
    cases e'
    intro c
    exact absurd (Value.type.inj c) (by decide)
  · have e2 : ∀ u ∈ acc'.toList, ∃ a, u = Value.ref a := fun u hu => by
      obtain ⟨t, _, _, e, _⟩ := keyAt u hu
      exact ⟨t, e⟩
    have h3 : ∀ u ∈ out, ∃ a, u = Value.ref a := fun u hu => e2 u (h2.perm.mem_iff.mp hu)
    obtain ⟨e', he'⟩ := PyProof.Rows.sortedHeap_at (vs := acc'.toList) (out := out.toArray) hoL
    have e1 : (ks.map fun x => x.2.1).map V.ref = acc'.toList.map backV := by rw [eb, List.map_map (f := Value.ref)]; rfl
    have hb : SrtO.Stb (ltP k) (out.map backV) ((ks.map fun x => x.2.1).map V.ref) := by
      rw [e1]
      exact SrtO.Stb.map (ltP_swo k) backV h2
    have hlen2 : (out.map backV).length ≤ sizeLine := by
      rw [hb.len, List.length_map, List.length_map]
      omega
    refine wpAny_pure ⟨_, rfl, .ref h'.objs.size, upd H h'.objs.size (.lst (out.map backV)), I1.laid (t' := tk) (fun b u e => ?_) (Nat.le_refl _)
      (show ObjOk X.prog X.w _ _ _ (.lst (out.map backV)) from ⟨hlen2, out, e', vals_back h3, he'⟩), rfl, q _ _ _ ik (SrtO.srtd_map h1) hb (I1.hok.fresh (Nat.le_refl _))⟩
    have hb' : b < h'.objs.size := Heap.lt_size e
    rw [PyProof.Rows.sortedHeap_old (Nat.ne_of_lt hb') (by rw [size_push']; exact Nat.lt_succ_of_lt hb')]
    exact Heap.get?_push_of_some _ e
end
/-! ### on trees -/
def pairsOf : List T → Option (List (Int × Int))
  | [] => some []
  | .nd .tup [.int i, .int j] :: ts => (pairsOf ts).bind fun l => some ((i, j) :: l)
  | _ :: _ => none
def pairsK : List (List Key) → Option (List (Int × Int))
  | [] => some []
  | [.inl i, .inl j] :: ts => (pairsK ts).bind fun l => some ((i, j) :: l)
  | _ :: _ => none
def leP (p q : Int × Int) : Bool := !SrtO.lexB q p
def srt (l : List (Int × Int)) : List (Int × Int) := l.mergeSort leP
def pairT (p : Int × Int) : T := .nd .tup [.int p.1, .int p.2]
theorem leP_iff {p q : Int × Int} : leP p q = true ↔ p.1 < q.1 ∨ (p.1 = q.1 ∧ p.2 ≤ q.2) := by
  unfold leP SrtO.lexB
  by_cases e : q.1 = p.1
  · rw [if_pos e]
    simp only [Bool.not_eq_true', decide_eq_false_iff_not]
    omega
  · rw [if_neg e]
    simp only [Bool.not_eq_true', decide_eq_false_iff_not]
    omega
theorem leP_trans (a b c : Int × Int) (h : leP a b = true) (g : leP b c = true) : leP a c = true := by
  rw [leP_iff] at *
  omega
theorem leP_total (a b : Int × Int) : (leP a b || leP b a) = true := by
  rw [Bool.or_eq_true, leP_iff, leP_iff]
  omega
theorem leP_anti {a b : Int × Int} (h : leP a b = true) (g : leP b a = true) : a = b := by
  rw [leP_iff] at *
  apply Prod.ext <;> omega
/-- a sorted arrangement is the one -/
theorem srt_unique {l m : List (Int × Int)} (hs : l.Pairwise fun a b => leP a b = true) (hp : l.Perm m) : l = srt m :=
  List.Perm.eq_of_pairwise (le := fun a b => leP a b = true) (fun a b _ _ => leP_anti) hs (List.pairwise_mergeSort leP_trans leP_total m) (hp.trans (List.mergeSort_perm m leP).symm)
theorem srt_perm {l m : List (Int × Int)} (hp : l.Perm m) : srt l = srt m := srt_unique (List.pairwise_mergeSort leP_trans leP_total l) ((List.mergeSort_perm l leP).trans hp)
def sortT : T → Option T
  | .nd k ts => match k with
    | .dT ks => (pairsK ks).bind fun l => some (.nd .lst ((srt l).map pairT))
    | k => if isLs k = true then (pairsOf ts).bind fun l => some (.nd .lst ((srt l).map pairT)) else none
  | _ => none
section
variable {Γ : Gx} {ar : Fx} {W : WX} {X : Cx} {e : Expr} {pos p : Pos} {ga : BF} {fa : EF}
def kAtV (H : Hp) : V → Int × Int
  | .ref t => match H t with
    | some (.tup [.int i, .int j]) => (i, j)
    | _ => (0, 0)
  | _ => (0, 0)
theorem pairsOf_rep {H : Hp} {G : FP} : ∀ {vs : List V} {ts : List T} {l : List (Int × Int)}, vs.length = ts.length → (∀ (i : Nat) (v : V) (t : T), vs[i]? = some v → ts[i]? = some t → Rep Γ H v t G) → pairsOf ts = some l → vs.map (kAtV H) = l ∧ ∀ x ∈ vs, ∃ t, x = V.ref t ∧ H t = some (.tup [.int (kAtV H x).1, .int (kAtV H x).2])
  | [], [], l, _, _, e => by cases e; exact ⟨rfl, fun _ h => nomatch h⟩
  | v :: vs, t :: ts, l, hl, hc, e => by
    unfold pairsOf at e
    split at e
    · rename_i h; cases h
    · rename_i i j ts' h
      cases h
      cases e1 : pairsOf ts with
      | none => rw [e1] at e; cases e
      | some m =>
        rw [e1] at e
        cases e
        obtain ⟨a, ws, rfl, ha, hlw, hcw⟩ := (hc 0 v _ rfl rfl).tupAt
        obtain ⟨x, y, rfl⟩ : ∃ x y, ws = [x, y] := by
          match ws, hlw with
          | [x, y], _ => exact ⟨x, y, rfl⟩
        have rx := hcw 0 x _ rfl rfl
        have ry := hcw 1 y _ rfl rfl
        cases rx
        cases ry
        have ek : kAtV H (.ref a) = (i, j) := by unfold kAtV; simp only [ha]
        obtain ⟨q1, q2⟩ := pairsOf_rep (vs := vs) (ts := ts) (by simpa using hl) (fun i v t a b => hc (i + 1) v t (by simpa using a) (by simpa using b)) e1
        refine ⟨by rw [List.map_cons, ek, q1], fun x hx => ?_⟩
        rcases List.mem_cons.mp hx with z | z
        · subst z
          exact ⟨a, rfl, by rw [ek]; exact ha⟩
        · exact q2 x z
    · cases e
  | [], _ :: _, _, hl, _, _ => by simp at hl
  | _ :: _, [], _, hl, _, _ => by simp at hl
theorem pairsK_keys {H : Hp} : ∀ {kvs : List (List Key × V)} {bs : List Addr} {l : List (Int × Int)}, IsKeys H kvs bs → pairsK (kvs.map (·.1)) = some l → (bs.map V.ref).map (kAtV H) = l ∧ ∀ x ∈ bs.map V.ref, ∃ t, x = V.ref t ∧ H t = some (.tup [.int (kAtV H x).1, .int (kAtV H x).2]) := by
  intro kvs bs l ik
  induction ik generalizing l with
  | nil => intro e; cases e; exact ⟨rfl, fun _ h => nomatch h⟩
  | @cons pk b kvs bs hb _ ih =>
    intro e
    rw [List.map_cons] at e
    unfold pairsK at e
    split at e
    · rename_i h; cases h
    · rename_i i j ts' h
      injection h with h1 h2
      subst h2
      rw [h1] at hb
      have hb : H b = some (.tup [.int i, .int j]) := hb
      cases e1 : pairsK (kvs.map (·.1)) with
      | none => rw [e1] at e; cases e
      | some m =>
        rw [e1] at e
        cases e
        obtain ⟨q1, q2⟩ := ih e1
        have ek : kAtV H (.ref b) = (i, j) := by unfold kAtV; simp only [hb]
        refine ⟨by rw [List.map_cons, List.map_cons, ek, q1], fun x hx => ?_⟩
        rcases List.mem_cons.mp hx with z | z
        · rw [z, ek]; exact ⟨b, rfl, hb⟩
        · exact q2 x z
    · cases e
theorem pairsK_all : ∀ {ks : List (List Key)} {l : List (Int × Int)}, pairsK ks = some l → ∀ p ∈ ks, ∃ i j, p = [Sum.inl i, Sum.inl j]
  | [], _, _, _, h => nomatch h
  | q :: ks, l, e, p, hp => by
    unfold pairsK at e
    split at e
    · rename_i h; cases h
    · rename_i i j ts' h
      injection h with h1 h2
      subst h2
      cases e1 : pairsK ks with
      | none => rw [e1] at e; cases e
      | some m =>
        rcases List.mem_cons.mp hp with z | z
        · exact ⟨i, j, z.trans h1⟩
        · exact pairsK_all e1 p z
    · cases e
/-- the sorted list stands for the sorted trees -/
theorem sorted_rep {H : Hp} {xs ys : List V} {l : List (Int × Int)} {q : Addr} (hx : ∀ x ∈ xs, ∃ t, x = V.ref t ∧ H t = some (.tup [.int (kAtV H x).1, .int (kAtV H x).2])) (hl : xs.map (kAtV H) = l) (hs : SrtO.Srtd (ltP (kAtV H)) ys) (hb : SrtO.Stb (ltP (kAtV H)) ys xs) (hq : H q = none) :
    Same H (upd H q (.lst ys)) ∧ Rep Γ (upd H q (.lst ys)) (.ref q) (.nd .lst ((srt l).map pairT)) (FU (fun a => a = q) FE) ∧ New H (upd H q (.lst ys)) (FU (fun a => a = q) FE) := by
  have e : ys.map (kAtV H) = srt l := srt_unique (List.Pairwise.map _ (fun a b h => by unfold leP; rw [show SrtO.lexB (kAtV H b) (kAtV H a) = false from h]; rfl) hs) (by rw [← hl]; exact hb.perm.map _)
  rw [← e, List.map_map]
  have him : T.imAll (ys.map (pairT ∘ kAtV H)) = true := imAll_mem.mpr fun t ht => by
    obtain ⟨y, _, rfl⟩ := List.mem_map.mp ht
    rfl
  have s : Same H (upd H q (.lst ys)) := fun b o eb => by rw [upd_ne (ne_of_none eb hq)]; exact eb
  refine ⟨s, .nd (Fs := fun _ => FE) upd_same (by simp) (fun _ => ⟨.inl rfl, fun _ z => z⟩) (fun i v t e1 e2 => ?_) (fun _ _ _ _ z => z.elim) (fun _ _ z => z.elim), fun a z => z.elim (fun z => by rw [z]; exact hq) fun z => z.elim, fun a z => z.elim (fun z => by rw [z, upd_same]; exact fun y => nomatch y) fun z => z.elim⟩
  rw [List.getElem?_map, e1] at e2
  cases e2
  obtain ⟨t, rfl, ht⟩ := hx v (hb.perm.mem_iff.mp (List.mem_of_getElem? e1))
  refine Rep.same (H := H) (.nd (Fs := fun _ => FE) (k := .tup) ht rfl (fun m => nomatch m) (fun i w u q1 q2 => ?_) (fun _ _ _ _ z => z.elim) fun _ _ z => z.elim) s
  match i, q1, q2 with
  | 0, q1, q2 =>
    have q1 : some (V.int (kAtV H (.ref t)).1) = some w := q1
    have q2 : some (T.int (kAtV H (.ref t)).1) = some u := q2
    cases q1
    cases q2
    exact .int _
  | 1, q1, q2 =>
    have q1 : some (V.int (kAtV H (.ref t)).2) = some w := q1
    have q2 : some (T.int (kAtV H (.ref t)).2) = some u := q2
    cases q1
    cases q2
    exact .int _
def rSortA (K : PySem.W.Frag) : List V → Hp → VK → Prop := fun xs H Q => rSortedPO K xs H Q ∨ (∃ (a : Addr) (kvs : List (List Key × V)) (k : V → Int × Int), xs = [.ref a] ∧ Rd H a (.dT kvs) ∧ (∀ p ∈ kvs, ∃ i j, p.1 = [Sum.inl i, Sum.inl j]) ∧ (∀ t i j, H t = some (.tup [.int i, .int j]) → k (.ref t) = (i, j)) ∧
    ∀ bs ys p, IsKeys H kvs bs → SrtO.Srtd (ltP k) ys → SrtO.Stb (ltP k) ys (bs.map V.ref) → H p = none → Q (.ref p) (upd H p (.lst ys)))
theorem zip_fst {α β : Type} : ∀ {xs : List α} {ys : List β}, xs.length = ys.length → (xs.zip ys).map (·.1) = xs
  | [], [], _ => rfl
  | x :: xs, y :: ys, h => by
    show x :: (xs.zip ys).map (·.1) = x :: xs
    rw [zip_fst (by simpa using h)]
  | [], _ :: _, h => by simp at h
  | _ :: _, [], h => by simp at h
theorem sortT_ok : UnT Γ (fun x => rSortA Γ.K [x]) sortT := by
  intro H x t1 t G1 Q r1 e k
  unfold sortT at e
  split at e
  · rename_i kd ts
    split at e
    · rename_i ks
      cases e1 : pairsK ks with
      | none => rw [e1] at e; cases e
      | some l =>
        rw [e1] at e
        cases e
        cases r1 with
        | @nd _ _ a ws _ Fs hat hlw hm hc hdd hss =>
          obtain ⟨hln, ha⟩ : ks.length = ws.length ∧ H a = some (.dT (ks.zip ws)) := hat
          have ez := zip_fst hln
          refine .inr ⟨a, _, kAtV H, rfl, .inl ha, fun p hp => pairsK_all e1 p.1 (by rw [← ez]; exact List.mem_map.mpr ⟨p, hp, rfl⟩), fun t i j ht => by unfold kAtV; simp only [ht], fun bs ys q ik hs hb hq => ?_⟩
          obtain ⟨q1, q2⟩ := pairsK_keys (l := l) ik (by rw [ez]; exact e1)
          obtain ⟨s, r, n⟩ := sorted_rep (Γ := Γ) q2 q1 hs hb hq
          exact k _ _ _ s r n
    · by_cases hk : isLs kd = true
      · rw [if_pos hk] at e
        cases e1 : pairsOf ts with
        | none => rw [e1] at e; cases e
        | some l =>
          rw [e1] at e
          cases e
          obtain ⟨a, vs, rfl, hq, hl, hc⟩ := r1.lsAt hk
          obtain ⟨q1, q2⟩ := pairsOf_rep hl hc e1
          refine .inl ⟨a, vs, kAtV H, rfl, hq, q2, fun ys q hs hb hn => ?_⟩
          obtain ⟨s, r, n⟩ := sorted_rep (Γ := Γ) q2 q1 hs hb hn
          exact k _ _ _ s r n
      · rw [if_neg hk] at e; cases e
  · cases e
theorem call_sortA (hc : X.calm = true) : CallR X (.builtin "sorted") (rSortA X.K) := or_CallR cr_sortedPO (call_sortedDT hc)
theorem n_sorted (hc : X.calm = true) (hm : X.mg "sorted" = none) (ha : PE X e (rdB Γ ar ga)) (hK : X.K = Γ.K := by rfl) (hg : Gl X "sorted" := by rfl) (he : starEach [e] X.env = (false, eval e X.env) :: starEach [] X.env := by rfl) : PE X (.Call (.Name "sorted" p) [e] [] pos) (rdN Γ ar (bUn sortT ga)) := nCallB sortT_ok (hK ▸ call_sortA hc) hm (by decide +kernel) ha hg (he := he)
end
end VT

/-! VU1: defs that keep what they are handed: parameters handed over; unpacking that hands over. -/
namespace VT
open PySem L2
abbrev MO := List T → Option (Rs T × List (Option T))
abbrev RepO (Γ : Gx) (H : Hp) (vs : List V) (os : List (Option T)) (F : FP) : Prop := RepS Γ (fun i => vs[i]?) H (vs.map some) os F
def spO (Γ : Gx) (n : Nat) (m : MO) : Sp := fun vs H Q E => ∃ ts F r os, vs.length = n ∧ RepA Γ H vs ts F ∧ m ts = some (r, os) ∧ (match r with
  | .ok t => ∀ v H' F' G, RepO Γ H' vs os F' → Rep Γ H' v t G → (∀ a, F' a → G a → False) → (∀ a, G a → H' a ≠ none) → Upd H H' F (FU F' G) → Q v H'
  | .ex c => ∀ H' F', RepO Γ H' vs os F' → Upd H H' F F' → E (.ref (Γ.cl c)) none H')
def pthOk : List Arg → List (Option T) → Bool
  | [], [] => true
  | .val _ :: as, _ :: os => pthOk as os
  | .pth _ _ :: as, some _ :: os => pthOk as os
  | _, _ => false
theorem pthOk_get : ∀ {as : List Arg} {os : List (Option T)}, pthOk as os = true → as.length = os.length ∧ ∀ (j : Nat) (i : Nat) (p : List Nat), as[j]? = some (.pth i p) → ∃ t, os[j]? = some (some t)
  | [], [], _ => ⟨rfl, fun j i p e => by simp at e⟩
  | .val _ :: as, o :: os, h => by
    obtain ⟨h1, h2⟩ := pthOk_get (as := as) (os := os) h
    refine ⟨by simp [h1], fun j i p e => ?_⟩
    cases j with
    | zero => simp at e
    | succ j => exact h2 j i p (by simpa using e)
  | .pth _ _ :: as, some t :: os, h => by
    obtain ⟨h1, h2⟩ := pthOk_get (as := as) (os := os) h
    refine ⟨by simp [h1], fun j i p e => ?_⟩
    cases j with
    | zero => exact ⟨t, rfl⟩
    | succ j => exact h2 j i p (by simpa using e)
  | .pth _ _ :: _, none :: _, h => by cases h
  | .pth _ _ :: _, [], h => by cases h
  | .val _ :: _, [], h => by cases h
  | [], _ :: _, h => by cases h
section
variable {Γ : Gx} {ar : Fx} {W : WX} {X : Cx} {a b c e o : Expr} {es : List Expr} {pos p : Pos} {fa fb : EF} {st : Stmt}
theorem repO_get {H : Hp} {vs : List V} {os : List (Option T)} {F : FP} (R : RepO Γ H vs os F) : vs.length = os.length ∧ ∃ Fs : Nat → FP, (∀ (j : Nat) (v : V) (t : T), vs[j]? = some v → os[j]? = some (some t) → Rep Γ H v t (Fs j)) ∧ (∀ i j a, i ≠ j → Fs i a → Fs j a → False) ∧ (∀ i a, Fs i a → F a) ∧ ∀ a, F a → H a ≠ none := by
  obtain ⟨len, arg, ⟨Fs, h1, h2, h3⟩, al⟩ := R
  refine ⟨by simpa using len.symm, Fs, fun j v t e1 e2 => ?_, h2, h3, al⟩
  obtain ⟨w, ew, r⟩ := h1 j t e2
  rw [List.getElem?_map, e1] at ew
  have q : v = w := Option.some.inj (Option.some.inj ew)
  rw [q]
  exact r
def callRO (m : MO) (n : Nat) (S : TSt) (as : List Arg) : Option (Rs T × TSt) := if as.length = n then (argTrees S as).bind fun ts => (m ts).bind fun rt => if pthOk as rt.2 = true then some (rt.1, putBack S as (rt.2.map fun o => o.getD .non)) else none else none
theorem callO_ok {H : Hp} {σ : St} {S : TSt} {F Gv : FP} {vs : List V} {as : List Arg} {m : MO} {n : Nat} {r : Rs T} {S' : TSt} {Q : VK} {E : XK} (R : RepS Γ ar H σ S F) (A : ArgsP Γ H σ vs as Gv) (d : ∀ a, F a → Gv a → False) (alv : ∀ a, Gv a → H a ≠ none)
    (e : callRO m n S as = some (r, S'))
    (hk : ∀ t, r = .ok t → ∀ v H' F' G, RepS Γ ar H' σ S' F' → Rep Γ H' v t G → (∀ a, F' a → G a → False) → (∀ a, G a → H' a ≠ none) → Upd H H' (FU F Gv) (FU F' G) → Q v H')
    (hx : ∀ c, r = .ex c → ∀ H' F', RepS Γ ar H' σ S' F' → Upd H H' (FU F Gv) F' → E (.ref (Γ.cl c)) none H') : spO Γ n m vs H Q E := by
  unfold callRO at e
  by_cases hn : as.length = n
  · rw [if_pos hn] at e
    cases e1 : argTrees S as with
    | none => rw [e1] at e; cases e
    | some ts =>
      rw [e1] at e
      simp only [Option.bind_some] at e
      cases e2 : m ts with
      | none => rw [e2] at e; cases e
      | some rt =>
        obtain ⟨r0, os⟩ := rt
        rw [e2] at e
        simp only [Option.bind_some] at e
        by_cases hpk : pthOk as os = true
        · rw [if_pos hpk] at e
          have e3 : (r0, putBack S as (os.map fun o => o.getD .non)) = (r, S') := Option.some.inj e
          obtain ⟨hol, hop⟩ := pthOk_get hpk
          obtain ⟨len, Gs, g1, g2, g3, g4⟩ := A
          obtain ⟨Ps, l1, a0, a1, a2, a3, back⟩ := got as R len g2 e1
          have key : ∀ j v t, vs[j]? = some v → ts[j]? = some t → Rep Γ H v t (FU (Ps j) (Gs j)) := fun j v t q1 q2 => by
            have hj : j < as.length := by rw [← len]; exact (List.getElem?_eq_some_iff.mp q1).1
            cases q3 : as[j]? with
            | none => rw [List.getElem?_eq_none_iff] at q3; omega
            | some x =>
              cases x with
              | val u =>
                have q4 := a0 j u q3
                rw [q2] at q4
                cases q4
                exact (g1 j v t q1 q3).mono fun _ z => .inr z
              | pth i p => exact (a1 j v t i p q1 q2 q3).mono fun _ z => .inl z
          have hd : ∀ i j a, i ≠ j → FU (Ps i) (Gs i) a → FU (Ps j) (Gs j) a → False := fun i j a ne z z' => by
            rcases z with z | z <;> rcases z' with z' | z'
            · exact a2 i j a ne z z'
            · exact d a (a3 i a z) (g4 j a z')
            · exact d a (a3 j a z') (g4 i a z)
            · exact g3 i j a ne z z'
          have RA : RepA Γ H vs ts (fun a => ∃ j, FU (Ps j) (Gs j) a) := by
            refine ⟨by rw [List.length_map, List.length_map, l1, len], fun i v q => by rw [List.getElem?_map, q]; rfl, ⟨fun j => FU (Ps j) (Gs j), fun j t q => ?_, hd, fun j a z => ⟨j, z⟩⟩, fun a ⟨j, z⟩ => z.elim (fun z => R.al a (a3 j a z)) fun z => alv a (g4 j a z)⟩
            rw [List.getElem?_map] at q
            cases q2 : ts[j]? with
            | none => rw [q2] at q; cases q
            | some t2 =>
              rw [q2] at q
              cases q
              have hj : j < vs.length := by rw [len, ← l1]; exact (List.getElem?_eq_some_iff.mp q2).1
              exact ⟨vs[j], by rw [List.getElem?_map, List.getElem?_eq_getElem hj]; rfl, key j _ _ (List.getElem?_eq_getElem hj) q2⟩
          have fin : ∀ {H' : Hp} {F' G : FP}, RepO Γ H' vs os F' → (∀ a, F' a → G a → False) → Upd H H' (fun a => ∃ j, FU (Ps j) (Gs j) a) (FU F' G) →
              ∃ F'' : FP, RepS Γ ar H' σ (putBack S as (os.map fun o => o.getD .non)) F'' ∧ (∀ a, F'' a → G a → False) ∧ Upd H H' (FU F Gv) (FU F'' G) := fun {H' F' G} R' dG u => by
            obtain ⟨lA, Fs', k1, k2, k3, k4⟩ := repO_get R'
            have nw : ∀ a, FU F' G a → (∃ m, Ps m a) ∨ ¬ F a := fun a z => by
              rcases u.new a z with ⟨m, z | z⟩ | z
              · exact .inl ⟨m, z⟩
              · exact .inr fun f => d a f (g4 m a z)
              · exact .inr fun f => R.al a f z
            obtain ⟨F'', R'', sub⟩ := back H' (os.map fun o => o.getD .non) (fun j a => (∃ x, as[j]? = some x ∧ x.isP = true) ∧ Fs' j a) (by rw [List.length_map]; exact hol.symm) (fun b o f n q => u.keep b o q fun ⟨j, z⟩ => z.elim (n j) fun z => d b f (g4 j b z)) u.imm
              (fun j v t i p q1 q2 q3 => by
                obtain ⟨t', ht'⟩ := hop j i p q3
                rw [List.getElem?_map, ht'] at q2
                cases q2
                exact (k1 j v _ q1 ht').mono fun a z => ⟨⟨_, q3, rfl⟩, z⟩) (fun i j a ne z z' => k2 i j a ne z.2 z'.2) (fun j a z => nw a (.inl (k3 j a z.2))) fun j a z => k4 a (k3 j a z.2)
            have aux : ∀ a, FU F' G a → FU F Gv a ∨ H a = none := fun a z => (u.new a z).elim (fun ⟨j, z⟩ => .inl (z.elim (fun z => .inl (a3 j a z)) fun z => .inr (g4 j a z))) .inr
            refine ⟨F'', R'', fun a f g => ?_, ⟨⟨fun b o q n => u.keep b o q fun ⟨j, z⟩ => n (z.elim (fun z => .inl (a3 j b z)) fun z => .inr (g4 j b z)), u.imm⟩, fun a z => ?_⟩⟩
            · rcases sub a f with ⟨f, nn⟩ | ⟨j, f⟩
              · rcases nw a (.inr g) with ⟨m, z⟩ | z
                · exact nn m z
                · exact z f
              · exact dG a (k3 j a f.2) g
            · rcases z with z | z
              · rcases sub a z with ⟨f, _⟩ | ⟨j, f⟩
                · exact .inl (.inl f)
                · exact aux a (.inl (k3 j a f.2))
              · exact aux a (.inr z)
          refine ⟨ts, _, r0, os, len.trans hn, RA, e2, ?_⟩
          cases r0 with
          | ok t =>
            cases e3
            intro v H' F' G R' rv dG alG u
            obtain ⟨F'', R'', d'', u''⟩ := fin R' dG u
            exact hk t rfl v H' F'' G R'' rv d'' alG u''
          | ex c =>
            cases e3
            intro H' F' R' u
            obtain ⟨F'', R'', d'', u''⟩ := fin (G := FE) R' (fun _ _ z => z) (u.sub fun a z => z.elim id fun z => z.elim)
            exact hx c rfl H' F'' R'' (u''.sub fun a z => .inl z)
        · rw [if_neg hpk] at e; cases e
  · rw [if_neg hn] at e; cases e
def eCallO (m : MO) (n : Nat) (fs : AF) : EF := fun S => (fs S).bind fun rx => match rx with
  | (.ex c, S1) => some (.ex c, S1)
  | (.ok as, S1) => callRO m n S1 as
theorem tCallO_ok {m : MO} {n : Nat} {fs : AF} {σ : St} {H : Hp} {Q : VK} (q : rdE Γ ar W (eCallO m n fs) σ H Q) :
    rdA Γ ar W fs σ H fun vs H1 => spO Γ n m vs H1 Q (WE W σ) := by
  obtain ⟨S, F, r, S', R, e, k⟩ := q
  unfold eCallO at e
  cases e1 : fs S with
  | none => rw [e1] at e; cases e
  | some o =>
    obtain ⟨r1, S1⟩ := o
    rw [e1] at e
    simp only [Option.bind_some] at e
    cases r1 with
    | ex c => cases e; exact ⟨S, F, _, _, R, e1, k⟩
    | ok as =>
      simp only at e
      refine ⟨S, F, _, _, R, e1, fun vs H1 F1 G1 R1 A1 d1 al1 u1 => ?_⟩
      refine callO_ok R1 A1 d1 al1 e (fun t et v H' F' G R' rv d al u => ?_) fun c ec H' F' R' u => ?_
      · subst et
        exact k v H' F' G ⟨R', rv, d, al, u1.trans u⟩
      · subst ec
        exact k H' F' R' (u1.trans u)
structure DefOkO (P : Program) (w : World) (Γ : Gx) (mg : Str → Option Value) (base : Heap) (k : Nat) (x : Str) (n : Nat) (m : MO) : Prop where
  ex : ∃ f fd ps, FnOk P w Γ.K mg base (L2N.CX P w) k f fd ps (spO Γ n m) ∧ mg x = some (.ref f) ∧ PySem.W.keepIn Γ.K (.ref f) = true ∧ Binds Γ.K fd ps []
theorem e_callO {k n : Nat} {x : Str} {m : MO} {fs : AF} (D : DefOkO X.prog X.w Γ X.mg X.base k x n m) (hr : Room k X.A) (tk : L2N.Takes X W) (ha : PA X (e :: es) (rdA Γ ar W fs)) (hK : X.K = Γ.K := by rfl) (hg : Gl X x := by rfl) (hdb : (x == ("__debug__" : Str)) = false := by decide)
    (he : starEach (e :: es) X.env = (false, eval e X.env) :: starEach es X.env := by rfl) (hpl : (backTo pos (starEach es X.env)).any (·.1) = false := by rfl) : PE X (.Call (.Name x p) (e :: es) [] pos) (rdE Γ ar W (eCallO m n fs)) := by
  obtain ⟨f, fd, ps, F, hm, hk, hb⟩ := D.ex
  rw [← hK] at F hk hb
  exact PE.imp (pe_callS F hr hg hm hk hb (fun σ => L2N.passAt tk σ) ha hdb he hpl) fun σ H Q q => tCallO_ok q
def mBodyO (n N : Nat) (cs : List Nat) (s : SF) : MO := fun ts => if ts.length = n then (s (ts.map some ++ List.replicate (N - n) none)).bind fun rx => if n ≤ rx.2.length then (match rx.1 with
  | .nx => some (.ok .non, (wipeS rx.2 cs).take n)
  | .rt t => some (.ok t, (wipeS rx.2 cs).take n)
  | .ex c => some (.ex c, (wipeS rx.2 cs).take n)
  | _ => none) else none else none
def arC (vs : List V) (cs : List Nat) : Fx := fun i => if i ∈ cs then none else vs[i]?
theorem repO_of {vs : List V} {cs : List Nat} {H : Hp} {σ : St} {S : TSt} {F : FP} (hlen : vs.length ≤ σ.length) (R : RepS Γ (arC vs cs) H σ S F) : RepO Γ H vs ((wipeS S cs).take vs.length) F := by
  obtain ⟨len, arg, ⟨Fs, h1, h2, h3⟩, al⟩ := R
  refine ⟨by rw [List.length_take, List.length_map, wipeS_length, len]; omega, fun i v q => by rw [List.getElem?_map, q]; rfl, ⟨Fs, fun i t q => ?_, h2, h3⟩, al⟩
  have hi : i < vs.length := by
    have := (List.getElem?_eq_some_iff.mp q).1
    rw [List.length_take] at this
    omega
  rw [List.getElem?_take, if_pos hi] at q
  obtain ⟨q, nc⟩ := wipeS_some q
  obtain ⟨v, ev, r⟩ := h1 i t q
  have q4 := arg i vs[i] (by unfold arC; rw [if_neg nc]; exact List.getElem?_eq_getElem hi)
  rw [ev] at q4
  have q5 : v = vs[i] := Option.some.inj (Option.some.inj q4)
  exact ⟨v, by rw [List.getElem?_map, List.getElem?_eq_getElem hi, q5]; rfl, r⟩
theorem fn_okO {P : Program} {w : World} {mg : Str → Option Value} {base : Heap} {x qual : Str} {f : Addr} {fd : FuncData} {N ps : List Str} {k : Nat} {body : SF} (cs : List Nat) (F : Fun Γ.K x qual st f fd) (S : FnScope N ps (defScope st))
    (hbody : ∀ (cdv : Value) (A : Around) (outer : List Env) (s : Shared) (H : Hp) (E : XK) (ar : Fx), Room k (A.deeper (PyProof.Rows.envOfC qual (defScope st) s.heap.objs.size f cdv)) → (∀ i, i ∈ cs ∨ ps.length ≤ i → ar i = none) →
      PSs (cxOf (L2N.CX P w) P w Γ.K mg base N qual (defScope st) f cdv A outer s H E) (defBody st) (rdS Γ ar (fun cls d _ H => E cls d H) body)) : FnOk P w Γ.K mg base (L2N.CX P w) (k + 1) f fd ps (spO Γ ps.length (mBodyO ps.length N.length cs body)) := by
  obtain ⟨xc, xd, xk, dc, pq, na, cdv, tc, zs, rfl, lk, hcd⟩ := F.ex
  refine fn_of (CX := L2N.CX P w) lk hcd S (fun vs H Q E h => ?_) (fun A outer s H vs Q E hr h => ?_)
  · obtain ⟨ts, F, r, ts', hl, _⟩ := h
    exact hl
  · obtain ⟨ts, F, r, ts', hl, RA, e, kk⟩ := h
    refine ⟨_, hbody cdv A outer s H E (arC vs cs) hr (fun i hi => by
      unfold arC
      by_cases hc : i ∈ cs
      · rw [if_pos hc]
      · rw [if_neg hc]; exact List.getElem?_eq_none (by have := hi.resolve_left hc; omega)), ?_⟩
    unfold mBodyO at e
    have l2 : ts.length = ps.length := by rw [← hl]; exact (repA_get RA).1.symm
    rw [if_pos l2] at e
    have R0 := (repS_start RA N).fix (ar' := arC vs cs) fun i v q => (repS_start RA N).arg i v (by
      unfold arC at q
      by_cases hc : i ∈ cs
      · rw [if_pos hc] at q; cases q
      · rw [if_neg hc] at q; exact q)
    have hsl : ts.length + (N.length - vs.length) = (L2.start N vs).length := by
      have := R0.len
      simpa using this
    rw [hl] at R0
    cases e1 : body (ts.map some ++ List.replicate (N.length - ps.length) none) with
    | none => rw [e1] at e; cases e
    | some rx =>
      obtain ⟨fl, S'⟩ := rx
      rw [e1] at e
      simp only [Option.bind_some] at e
      have hSl : ps.length ≤ S'.length := by
        by_cases h : ps.length ≤ S'.length
        · exact h
        · rw [if_neg h] at e; cases e
      rw [if_pos hSl] at e
      have hle : ∀ {σ' : St} {H' : Hp} {F' : FP}, RepS Γ (arC vs cs) H' σ' S' F' → vs.length ≤ σ'.length := fun R' => by rw [← R'.len, hl]; exact hSl
      refine ⟨_, F, fl, S', R0, e1, ?_⟩
      rw [← hl] at e
      cases fl with
      | nx =>
        cases e
        exact fun σ' H' F' R' u => kk .non H' F' FE (repO_of (hle R') R') .non (fun _ _ z => z) (fun _ z => z.elim) (u.sub fun a z => z.elim id fun z => z.elim)
      | rt t =>
        cases e
        exact fun v σ' H' F' G o => kk v H' F' G (repO_of (hle o.rs) o.rs) o.r o.d o.al o.u
      | ex c =>
        cases e
        exact fun σ' H' F' R' u => kk H' F' (repO_of (hle R') R') u
      | bk => cases e
      | ct => cases e
/-! ### a, b = e, the parts handed over -/
def sUnpM (is : List Nat) (fa : EF) : SF := fun S => (fa S).bind fun rx => match rx with
  | (.ex c, S1) => some (.ex c, S1)
  | (.ok t, S1) => match t with
    | .nd .lst ts => (setAll is ts S1).bind fun S2 => some (.nx, S2)
    | .nd .tup ts => (setAll is ts S1).bind fun S2 => some (.nx, S2)
    | _ => none
theorem setAllM_ok {H : Hp} {Q : St → Hp → Prop} : ∀ {is : List Nat} {ts : List T} {vs : List V} {σ : St} {S S1 : TSt} {F : FP} {Fs : Nat → FP}, (∀ i ∈ is, ar i = none) → RepS Γ ar H σ S F → vs.length = ts.length → (∀ (i : Nat) (v : V) (t : T), vs[i]? = some v → ts[i]? = some t → Rep Γ H v t (Fs i)) →
    (∀ i j a, i ≠ j → Fs i a → Fs j a → False) → (∀ i a, F a → Fs i a → False) → (∀ i a, Fs i a → H a ≠ none) → setAll is ts S = some S1 →
    (∀ σ1 F1, RepS Γ ar H σ1 S1 F1 → (∀ a, F1 a → F a ∨ ∃ i, Fs i a) → Q σ1 H) → gNames is vs σ H Q
  | [], [], [], σ, S, S1, F, Fs, _, R, _, _, _, _, _, e, k => by
    cases e
    exact ⟨rfl, k σ F R fun a f => .inl f⟩
  | i :: is, t :: ts, v :: vs, σ, S, S1, F, Fs, hi, R, hl, hc, hd, hf, al, e, k => by
    refine ⟨v, vs, rfl, ?_⟩
    show gNames is vs (σ.set i (some v)) H Q
    refine setAllM_ok (is := is) (ts := ts) (vs := vs) (F := FU F (Fs 0)) (Fs := fun j => Fs (j + 1)) (fun j hj => hi j (List.mem_cons_of_mem _ hj)) (R.put (hi i List.mem_cons_self) (hc 0 v t rfl rfl) (fun a f g => hf 0 a f g) fun a g => al 0 a g) (by simpa using hl) (fun j v t q1 q2 => hc (j + 1) v t (by simpa using q1) (by simpa using q2))
      (fun i j a ne z z' => hd (i + 1) (j + 1) a (by omega) z z') (fun j a z z' => z.elim (fun z => hf (j + 1) a z z') fun z => hd 0 (j + 1) a (by omega) z z') (fun j a z => al (j + 1) a z) e fun σ1 F1 R1 sub => k σ1 F1 R1 fun a f => ?_
    rcases sub a f with (z | z) | ⟨j, z⟩
    · exact .inl z
    · exact .inr ⟨0, z⟩
    · exact .inr ⟨j + 1, z⟩
  | [], _ :: _, _, _, _, _, _, _, _, _, _, _, _, _, _, e, _ => by cases e
  | _ :: _, [], _, _, _, _, _, _, _, _, _, _, _, _, _, e, _ => by cases e
  | _, [], _ :: _, _, _, _, _, _, _, _, hl, _, _, _, _, _, _ => by simp at hl
  | _, _ :: _, [], _, _, _, _, _, _, _, hl, _, _, _, _, _, _ => by simp at hl
theorem s_unpM {is : List Nat} {tg : Expr} (hi : ∀ i ∈ is, ar i = none) (hg : PG X tg (gTL X.K is.length (gNames is))) (he : PE X e (rdE Γ ar W fa)) (hs : swapsWithSole [tg] e pos.line X.env = pure false := by rfl) (hw : swappedStores [tg] e X.env = pure none := by rfl)
    (h1 : (assignEach [tg] X.env).map (·.2) = [assign tg X.env] := by rfl) (hK : X.K = Γ.K := by rfl) : PS X (.Assign [tg] e pos) (rdS Γ ar W (sUnpM is fa)) := by
  refine PS.imp (ps_asg he hg hs hw h1) fun D σ H q => ?_
  obtain ⟨S, F, fl, S', R, ee, kk⟩ := q
  unfold sUnpM at ee
  cases q0 : fa S with
  | none => rw [q0] at ee; cases ee
  | some o1 =>
    obtain ⟨r1, S1⟩ := o1
    rw [q0] at ee
    simp only [Option.bind_some] at ee
    cases r1 with
    | ex c => cases ee; exact ⟨S, F, _, _, R, q0, fun H' F' R' u => kk σ H' F' R' u⟩
    | ok t =>
      simp only at ee
      split at ee
      · rename_i ts
        cases q1 : setAll is ts S1 with
        | none => rw [q1] at ee; cases ee
        | some S2 =>
          rw [q1] at ee
          cases ee
          refine ⟨S, F, _, _, R, q0, fun v H1 F1 G1 o => ?_⟩
          have r := o.r
          cases r with
          | @nd _ _ a ws _ Fs hat hlw hm hc hd hs2 =>
            have hat : H1 a = some (.lst ws) := hat
            have hlen := setAll_len q1
            refine .inr ⟨a, ws, rfl, .inl (.inl hat), by omega, setAllM_ok hi o.rs hlw hc hd (fun i b f z => o.d b f (hs2 i b z)) (fun i b z => o.al b (hs2 i b z)) q1 fun σ1 F2 R2 sub => kk σ1 H1 F2 R2 (o.u.sub fun b z => (sub b z).elim .inl fun ⟨i, z⟩ => .inr (hs2 i b z))⟩
      · rename_i ts
        cases q1 : setAll is ts S1 with
        | none => rw [q1] at ee; cases ee
        | some S2 =>
          rw [q1] at ee
          cases ee
          refine ⟨S, F, _, _, R, q0, fun v H1 F1 G1 o => ?_⟩
          have r := o.r
          cases r with
          | @nd _ _ a ws _ Fs hat hlw hm hc hd hs2 =>
            have hat : H1 a = some (.tup ws) := hat
            have hlen := setAll_len q1
            refine .inl ⟨a, ws, rfl, .inl (.inl hat), by omega, setAllM_ok hi o.rs hlw hc hd (fun i b f z => o.d b f (hs2 i b z)) (fun i b z => o.al b (hs2 i b z)) q1 fun σ1 F2 R2 sub => kk σ1 H1 F2 R2 (o.u.sub fun b z => (sub b z).elim .inl fun ⟨i, z⟩ => .inr (hs2 i b z))⟩
      · cases ee
end
end VT

/-! VU2: reckoning lemmas of VTX, VTY, VTZ, VU1 -/
namespace VT
open PySem L2
section
variable {m : MO} {mu : MuF} {n N i : Nat} {fs : AF} {gs : BAF} {S S1 : TSt} {as : List Arg} {ts us : List T} {t x y u : T} {os : List (Option T)} {r : Rs T} {cs is p : List Nat} {c : Nat} {s : SF} {fa : EF} {pl : PF} {gb : BF} {fo : Int → Int → Int} {ct : Nat → List Str} {f : Str} {fl : Fl}
def kCallO (m : MO) (n : Nat) : Rs (List Arg) × TSt → Option (Rs T × TSt)
  | (.ex c, S) => some (.ex c, S)
  | (.ok as, S) => callRO m n S as
def kO2 (S : TSt) (as : List Arg) (rt : Rs T × List (Option T)) : Option (Rs T × TSt) := if pthOk as rt.2 = true then some (rt.1, putBack S as (rt.2.map fun o => o.getD .non)) else none
def kO1 (m : MO) (S : TSt) (as : List Arg) (ts : List T) : Option (Rs T × TSt) := (m ts).bind (kO2 S as)
theorem eCallO_q : eCallO m n fs S = (fs S).bind (kCallO m n) := rfl
theorem kCallO_ok : kCallO m n (.ok as, S) = callRO m n S as := rfl
theorem callRO_q : callRO m n S as = if as.length = n then (argTrees S as).bind (kO1 m S as) else none := rfl
theorem kO1_q : kO1 m S as ts = (m ts).bind (kO2 S as) := rfl
theorem kO2_q : kO2 S as (r, os) = if pthOk as os = true then some (r, putBack S as (os.map fun o => o.getD .non)) else none := rfl
theorem pthOk_n : pthOk [] [] = true := rfl
theorem pthOk_v {o : Option T} : pthOk (.val t :: as) (o :: os) = pthOk as os := rfl
theorem pthOk_p : pthOk (.pth i p :: as) (some t :: os) = pthOk as os := rfl
def kBO2 (fl : Fl) (os : List (Option T)) : Option (Rs T × List (Option T)) := match fl with
  | .nx => some (.ok .non, os)
  | .rt t => some (.ok t, os)
  | .ex c => some (.ex c, os)
  | _ => none
def kBO (n : Nat) (cs : List Nat) (rx : Fl × TSt) : Option (Rs T × List (Option T)) := if n ≤ rx.2.length then kBO2 rx.1 ((wipeS rx.2 cs).take n) else none
theorem mBodyO_q : mBodyO n N cs s ts = if ts.length = n then (s (ts.map some ++ List.replicate (N - n) none)).bind (kBO n cs) else none := rfl
theorem kBO_q : kBO n cs (fl, S) = if n ≤ S.length then kBO2 fl ((wipeS S cs).take n) else none := rfl
theorem kBO2_nx : kBO2 .nx os = some (.ok .non, os) := rfl
theorem kBO2_rt : kBO2 (.rt t) os = some (.ok t, os) := rfl
theorem kBO2_ex : kBO2 (.ex c) os = some (.ex c, os) := rfl
def kUM (is : List Nat) : Rs T × TSt → Option (Fl × TSt)
  | (.ex c, S1) => some (.ex c, S1)
  | (.ok t, S1) => match t with
    | .nd .lst ts => (setAll is ts S1).bind fun S2 => some (.nx, S2)
    | .nd .tup ts => (setAll is ts S1).bind fun S2 => some (.nx, S2)
    | _ => none
theorem sUnpM_q : sUnpM is fa S = (fa S).bind (kUM is) := rfl
theorem kUM_l : kUM is (.ok (.nd .lst ts), S) = (setAll is ts S).bind kUnp2 := rfl
theorem kUM_t : kUM is (.ok (.nd .tup ts), S) = (setAll is ts S).bind kUnp2 := rfl
theorem kUM_ex : kUM is (.ex c, S) = some (.ex c, S) := rfl
/-! dict methods -/
def kDP1 (m : MuF) (gs : BAF) (S : TSt) (i : Nat) (p : List Nat) (t u : T) : Option (Rs T × TSt) := if isDi u = true then (gs S).bind (kLP2 m S i p t u) else none
def kDP0 (m : MuF) (gs : BAF) (S : TSt) (i : Nat) (p : List Nat) (t : T) : Option (Rs T × TSt) := (tAt p t).bind (kDP1 m gs S i p t)
def kDP (m : MuF) (gs : BAF) (S : TSt) (ip : Nat × List Nat) : Option (Rs T × TSt) := (sl S ip.1).bind (kDP0 m gs S ip.1 ip.2)
theorem eDmP_q : eDmP mu pl gs S = (pl S).bind (kDP mu gs S) := rfl
theorem kDP_q : kDP mu gs S (i, p) = (sl S i).bind (kDP0 mu gs S i p) := rfl
theorem kDP0_q : kDP0 mu gs S i p t = (tAt p t).bind (kDP1 mu gs S i p t) := rfl
theorem kDP1_q : kDP1 mu gs S i p t x = if isDi x = true then (gs S).bind (kLP2 mu S i p t x) else none := rfl
def kDV0 (m : MuF) (i : Nat) (fs : AF) (S : TSt) (t : T) : Option (Rs T × TSt) := if isDi t = true then (fs S).bind (kLV m i) else none
theorem eDmV_q : eDmV mu i fs S = (sl S i).bind (kDV0 mu i fs S) := rfl
theorem kDV0_q : kDV0 mu i fs S t = if isDi t = true then (fs S).bind (kLV mu i) else none := rfl
/-! x.f += e -/
def kGF4 (S : TSt) (i : Nat) (p : List Nat) (t u' : T) : Option (Fl × TSt) := some (.nx, S.set i (some (tPut p t u')))
def kGF3 (fo : Int → Int → Int) (ct : Nat → List Str) (f : Str) (S : TSt) (i : Nat) (p : List Nat) (t u b : T) : Option (Fl × TSt) := (kAug fo ct f b u).bind (kGF4 S i p t)
def kGF2 (fo : Int → Int → Int) (ct : Nat → List Str) (f : Str) (gb : BF) (S : TSt) (i : Nat) (p : List Nat) (t u : T) : Option (Fl × TSt) := (gb S).bind (kGF3 fo ct f S i p t u)
def kGF1 (fo : Int → Int → Int) (ct : Nat → List Str) (f : Str) (gb : BF) (S : TSt) (i : Nat) (p : List Nat) (t : T) : Option (Fl × TSt) := (tAt p t).bind (kGF2 fo ct f gb S i p t)
def kGF (fo : Int → Int → Int) (ct : Nat → List Str) (f : Str) (gb : BF) (S : TSt) (ip : Nat × List Nat) : Option (Fl × TSt) := (sl S ip.1).bind (kGF1 fo ct f gb S ip.1 ip.2)
theorem sAugF_q : sAugF fo ct f pl gb S = (pl S).bind (kGF fo ct f gb S) := rfl
theorem kGF_q : kGF fo ct f gb S (i, p) = (sl S i).bind (kGF1 fo ct f gb S i p) := rfl
theorem kGF1_q : kGF1 fo ct f gb S i p t = (tAt p t).bind (kGF2 fo ct f gb S i p t) := rfl
theorem kGF2_q : kGF2 fo ct f gb S i p t u = (gb S).bind (kGF3 fo ct f S i p t u) := rfl
theorem kGF3_q : kGF3 fo ct f S i p t u x = (kAug fo ct f x u).bind (kGF4 S i p t) := rfl
theorem kGF4_q : kGF4 S i p t x = some (.nx, S.set i (some (tPut p t x))) := rfl
/-! while -/
variable {b : SF} {q : Fl × TSt} {S2 : TSt}
theorem sWhile_q : sWhile fa b S = runW fa b 1000000 S := rfl
theorem runW_t (h1 : fa S = some (.ok (.bl true), S1)) (h2 : b S1 = some (.nx, S2)) : runW fa b (n + 1) S = runW fa b n S2 := by
  rw [runW, h1, Option.bind_some]
  show (b S1).bind _ = _
  rw [h2]
  rfl
theorem runW_f (h1 : fa S = some (.ok (.bl false), S1)) : runW fa b (n + 1) S = some (.nx, S1) := by
  rw [runW, h1]; rfl
theorem runW_r (h1 : fa S = some (.ok (.bl true), S1)) (h2 : b S1 = some (.rt t, S2)) : runW fa b (n + 1) S = some (.rt t, S2) := by
  rw [runW, h1, Option.bind_some]
  show (b S1).bind _ = _
  rw [h2]
  rfl
theorem runW_c (h1 : fa S = some (.ok (.bl true), S1)) (h2 : b S1 = some (.ct, S2)) : runW fa b (n + 1) S = runW fa b n S2 := by
  rw [runW, h1, Option.bind_some]
  show (b S1).bind _ = _
  rw [h2]
  rfl
/-! sorted -/
theorem pairsOf_map : ∀ l : List (Int × Int), pairsOf (l.map pairT) = some l
  | [] => rfl
  | p :: l => by
    rw [List.map_cons]
    show (pairsOf (l.map pairT)).bind _ = _
    rw [pairsOf_map l]
    rfl
theorem sortT_l {l : List (Int × Int)} : sortT (.nd .lst (l.map pairT)) = some (.nd .lst ((srt l).map pairT)) := by
  unfold sortT
  show (pairsOf (l.map pairT)).bind _ = _
  rw [pairsOf_map]
  rfl
def ky2 (p : Int × Int) : List Key := [.inl p.1, .inl p.2]
theorem ky2_inj (a b : Int × Int) (h : ky2 a = ky2 b) : a = b := by
  unfold ky2 at h
  simp at h
  exact Prod.ext h.1 h.2
theorem pairsK_map : ∀ l : List (Int × Int), pairsK (l.map ky2) = some l
  | [] => rfl
  | p :: l => by
    rw [List.map_cons]
    show (pairsK (l.map ky2)).bind _ = _
    rw [pairsK_map l]
    rfl
theorem sortT_d {l : List (Int × Int)} : sortT (.nd (.dT (l.map ky2)) ts) = some (.nd .lst ((srt l).map pairT)) := by
  unfold sortT
  show (pairsK (l.map ky2)).bind _ = _
  rw [pairsK_map]
  rfl
theorem pair_pl {d : Nat} (p : Int × Int) : plT (d + 1) (pairT p) = true := rfl
theorem pair_im (p : Int × Int) : (pairT p).im = true := rfl
theorem pair_imO (p : Int × Int) : imO (pairT p) = some (pairT p) := rfl
theorem pair_inj {p q : Int × Int} (h : pairT p = pairT q) : p = q := by
  unfold pairT at h
  injection h with _ h
  injection h with h1 h2
  injection h2 with h2 _
  injection h1 with h1
  injection h2 with h2
  exact Prod.ext h1 h2
theorem pair_teq {p q : Int × Int} : teq (pairT p) (pairT q) = decide (p = q) := by
  have h := teq_iff (a := pairT p) (b := pairT q) (d := 1) (e := 1) rfl rfl
  by_cases e : p = q
  · rw [decide_eq_true e]; exact h.mpr (congrArg pairT e)
  · rw [decide_eq_false e]
    cases z : teq (pairT p) (pairT q) with
    | false => rfl
    | true => exact absurd (pair_inj (h.mp z)) e
theorem pairs_pl : ∀ l : List (Int × Int), plAll 7 (l.map pairT) = true
  | [] => rfl
  | p :: l => by rw [List.map_cons, plAll, pairs_pl l]; rfl
theorem pairsT_pl (l : List (Int × Int)) : plT 8 (.nd .lst (l.map pairT)) = true := pairs_pl l
theorem pairsT_inj {l m : List (Int × Int)} (h : T.nd .lst (l.map pairT) = .nd .lst (m.map pairT)) : l = m := by
  injection h with _ h
  exact List.map_inj_right (fun _ _ => pair_inj) |>.mp h
theorem eqT_pairs {l m : List (Int × Int)} : eqT (.nd .lst (l.map pairT)) (.nd .lst (m.map pairT)) = some (.bl (decide (l = m))) := by
  rw [eqT_pl (pairsT_pl l) (pairsT_pl m)]
  have h := teq_iff (pairsT_pl l) (pairsT_pl m)
  by_cases e : l = m
  · rw [decide_eq_true e, h.mpr (by rw [e])]
  · rw [decide_eq_false e]
    cases z : teq (T.nd .lst (l.map pairT)) (.nd .lst (m.map pairT)) with
    | false => rfl
    | true => exact absurd (pairsT_inj (h.mp z)) e
theorem neT_pairs {l m : List (Int × Int)} : neT (.nd .lst (l.map pairT)) (.nd .lst (m.map pairT)) = some (.bl (decide (¬ l = m))) := by
  rw [neT_pl (pairsT_pl l) (pairsT_pl m)]
  have h := teq_iff (pairsT_pl l) (pairsT_pl m)
  by_cases e : l = m
  · rw [h.mpr (by rw [e]), decide_eq_false (by simp [e])]; rfl
  · rw [decide_eq_true e]
    cases z : teq (T.nd .lst (l.map pairT)) (.nd .lst (m.map pairT)) with
    | false => rfl
    | true => exact absurd (pairsT_inj (h.mp z)) e
theorem neT_pair {p q : Int × Int} : neT (pairT p) (pairT q) = some (.bl (decide (¬ p = q))) := by
  rw [neT_pl rfl rfl, pair_teq]
  by_cases e : p = q
  · simp [e]
  · simp [e]
theorem inO_pairs {p : Int × Int} {l : List (Int × Int)} : inO (pairT p) (.nd .lst (l.map pairT)) = some (decide (p ∈ l)) := by
  unfold inO
  simp only
  rw [if_pos ⟨pl_sh (d := 1) rfl (by decide), pl_sh (pairsT_pl l) (by decide)⟩]
  congr 1
  unfold inB
  rw [List.any_map]
  induction l with
  | nil => rfl
  | cons a l ih =>
    rw [List.any_cons, ih]
    show (teq (pairT a) (pairT p) || _) = _
    rw [pair_teq]
    by_cases h : a = p
    · simp [h]
    · have : ¬ p = a := fun z => h z.symm
      simp [h, this]
theorem inA_pairs {p : Int × Int} {l : List (Int × Int)} : inA (pairT p) (.nd .lst (l.map pairT)) = some (.bl (decide (p ∈ l))) := by
  show (inO (pairT p) (.nd .lst (l.map pairT))).map _ = _
  rw [inO_pairs]; rfl
theorem notInA_pairs {p : Int × Int} {l : List (Int × Int)} : notInA (pairT p) (.nd .lst (l.map pairT)) = some (.bl (decide (¬ p ∈ l))) := by
  show (inO (pairT p) (.nd .lst (l.map pairT))).map _ = _
  rw [inO_pairs]
  by_cases h : p ∈ l <;> simp [h]
theorem ixK_mem {α : Type} [DecidableEq α] {a : α} : ∀ l : List α, (ixK a l).isSome = decide (a ∈ l)
  | [] => rfl
  | b :: l => by
    rw [ixK]
    by_cases h : b = a
    · rw [if_pos h]; simp [h]
    · rw [if_neg h]
      have : ¬ a = b := fun z => h z.symm
      simp only [List.mem_cons, this, false_or, ← ixK_mem l]
      cases ixK a l <;> rfl
theorem inAO_dT {p : Int × Int} {ms : List (Int × Int)} : inAO (pairT p) (.nd (.dT (ms.map ky2)) ts) = some (decide (p ∈ ms)) := by
  unfold inAO
  rw [if_pos (isDi_T (kt := ms.map ky2) (ts := ts))]
  show (dix (.nd (.dT (ms.map ky2)) ts) (.nd .tup [.int p.1, .int p.2])).bind _ = _
  rw [dix_T]
  show (some (ixK (ky2 p) (ms.map ky2))).bind _ = _
  rw [ixK_map ky2_inj]
  show some (ixK p ms).isSome = _
  have h := ixK_mem (a := p) ms
  congr 1
  rw [h]
  by_cases z : p ∈ ms
  · simp only [z, decide_true]
  · simp only [z, decide_false]
theorem inA_dT {p : Int × Int} {ms : List (Int × Int)} : inA (pairT p) (.nd (.dT (ms.map ky2)) ts) = some (.bl (decide (p ∈ ms))) := by
  unfold inA
  rw [inAO_dT]; rfl
theorem notInA_dT {p : Int × Int} {ms : List (Int × Int)} : notInA (pairT p) (.nd (.dT (ms.map ky2)) ts) = some (.bl (decide (¬ p ∈ ms))) := by
  unfold notInA
  rw [inAO_dT]
  by_cases h : p ∈ ms <;> simp [h]
end
end VT

namespace K28
open PySem L2 VT
def top (i : Nat) : Stmt := PySem.Challenge.pw_leafcall_k28_rings_gone_round.main.body.getD i (.Pass ⟨0, 0, 0, 0⟩)
def ct : Nat → List Str
  | 0 => ["spaces", "many", "grid"]
  | 1 => ["bounds", "order", "marks", "at"]
  | _ => []
abbrev gx (K : PySem.W.Frag) (cl : Nat → Addr) (okc : ∀ c f, f ∈ ct c → Cls K (cl c) ∧ NoAttr K (cl c) f) : Gx := ⟨K, cl, ct, okc⟩
structure Bi (mg : Str → Option Value) : Prop where
  ValueError : mg "ValueError" = none
  isinstance : mg "isinstance" = none
  len : mg "len" = none
  list : mg "list" = none
  min : mg "min" = none
  range : mg "range" = none
  sorted : mg "sorted" = none
theorem hu1 {A : Around} {k : Nat} (hr : Room k A) : A.units + 1 < cLine := by have := hr.un; omega
theorem hu65 {A : Around} {k : Nat} (hr : Room k A) : A.units + 65 < cLine := by have := hr.un; omega
def kn : Nat → Option Str
  | 3 => some ("NoSpace+" : Str)
  | 4 => some ("NoPage+" : Str)
  | _ => none
-- class 0 Tables
-- class 1 Ring
-- exc 3 NoSpace
-- exc 4 NoPage
abbrev s_Tables___init : Stmt := inClass (top 17) 0
theorem sc_Tables___init : FnScope ["self", "spaces", "pages", "space"] ["self", "spaces", "pages"] (defScope s_Tables___init) := ⟨rfl, rfl, rfl, by decide +kernel, rfl, by decide +kernel, by decide +kernel⟩
def b_Tables___init : SF := (sSeq (sMut (putFM ct "spaces") (pVar 0) (eVar 1))
    (sSeq (sMut (putFM ct "many") (pVar 0) (eVar 2))
    (sMut (putFM ct "grid") (pVar 0) (eOfN (bLcR [3] (tgN 3) (bOfP (pVar 1)) bYes (bOp mulT (nLst (baVal (nC .non) baNil)) (bOfP (pVar 2))))))))
def m_Tables___init : MF := mBody 3 4 b_Tables___init
abbrev s_Tables_look_at_space : Stmt := inClass (top 17) 1
theorem sc_Tables_look_at_space : FnScope ["self", "space"] ["self", "space"] (defScope s_Tables_look_at_space) := ⟨rfl, rfl, rfl, by decide +kernel, rfl, by decide +kernel, by decide +kernel⟩
def b_Tables_look_at_space : SF := (sIf (eOr (eOfN (bOp ltT (bOfP (pVar 1)) (nC (.int 0)))) (eOfN (bOp geT (bOfP (pVar 1)) (bOfP (pFld ct "spaces" (pVar 0)))))) (sRaise 3) sNil)
def m_Tables_look_at_space : MF := mBody 2 2 b_Tables_look_at_space
abbrev s_Tables_look_at_page : Stmt := inClass (top 17) 2
theorem sc_Tables_look_at_page : FnScope ["self", "page"] ["self", "page"] (defScope s_Tables_look_at_page) := ⟨rfl, rfl, rfl, by decide +kernel, rfl, by decide +kernel, by decide +kernel⟩
def b_Tables_look_at_page : SF := (sIf (eOr (eOfN (bOp ltT (bOfP (pVar 1)) (nC (.int 0)))) (eOfN (bOp geT (bOfP (pVar 1)) (bOfP (pFld ct "many" (pVar 0)))))) (sRaise 4) sNil)
def m_Tables_look_at_page : MF := mBody 2 2 b_Tables_look_at_page
abbrev s_Tables_leaf : Stmt := inClass (top 17) 3
theorem sc_Tables_leaf : FnScope ["self", "space", "page"] ["self", "space", "page"] (defScope s_Tables_leaf) := ⟨rfl, rfl, rfl, by decide +kernel, rfl, by decide +kernel, by decide +kernel⟩
def b_Tables_leaf : SF := (sSeq (sExpr (eMeth m_Tables_look_at_space 2 0 "look_at_space" 0 (aRef 1 aNil)))
    (sSeq (sExpr (eMeth m_Tables_look_at_page 2 0 "look_at_page" 0 (aRef 2 aNil)))
    (sRet (eOfN (nOfB (bOp ixB (bOp ixB (bOfP (pFld ct "grid" (pVar 0))) (bOfP (pVar 1))) (bOfP (pVar 2))))))))
def m_Tables_leaf : MF := mBody 3 3 b_Tables_leaf
abbrev s_Ring___init : Stmt := inClass (top 19) 0
theorem sc_Ring___init : FnScope ["self", "spaces", "pages", "k"] ["self", "spaces", "pages"] (defScope s_Ring___init) := ⟨rfl, rfl, rfl, by decide +kernel, rfl, by decide +kernel, by decide +kernel⟩
def b_Ring___init : SF := (sSeq (sMut (putFM ct "bounds") (pVar 0) (eMake m_Tables___init 3 0 (aRef 1 (aRef 2 aNil))))
    (sSeq (sMut (putFM ct "order") (pVar 0) (eOfN (bLcR [3] (tgN 3) (bOp mulT (bOfP (pVar 1)) (bOfP (pVar 2))) bYes (nTup (baVal (bOp fdivT (bOfP (pVar 3)) (bOfP (pVar 2))) (baVal (bOp modT (bOfP (pVar 3)) (bOfP (pVar 2))) baNil))))))
    (sSeq (sMut (putFM ct "marks") (pVar 0) (eOfN nDT))
    (sMut (putFM ct "at") (pVar 0) (eOfN (nC (.int 0)))))))
def m_Ring___init : MF := mBody 3 4 b_Ring___init
abbrev s_Ring_mark : Stmt := inClass (top 19) 1
theorem sc_Ring_mark : FnScope ["self", "space", "page"] ["self", "space", "page"] (defScope s_Ring_mark) := ⟨rfl, rfl, rfl, by decide +kernel, rfl, by decide +kernel, by decide +kernel⟩
def b_Ring_mark : SF := (sSeq (sExpr (eMethP m_Tables_leaf 3 0 "leaf" (pFld ct "bounds" (pVar 0)) (baRef 1 (baRef 2 baNil))))
    (sSetA (pFld ct "marks" (pVar 0)) (nTup (baRef 1 (baRef 2 baNil))) (eOfN (nC (.bl true)))))
def m_Ring_mark : MF := mBody 3 3 b_Ring_mark
abbrev s_Ring_marked : Stmt := inClass (top 19) 2
theorem sc_Ring_marked : FnScope ["self"] ["self"] (defScope s_Ring_marked) := ⟨rfl, rfl, rfl, by decide +kernel, rfl, by decide +kernel, by decide +kernel⟩
def b_Ring_marked : SF := (sRet (eOfN (bUn sortT (bOfP (pFld ct "marks" (pVar 0))))))
def m_Ring_marked : MF := mBody 1 1 b_Ring_marked
abbrev s_Ring_needle : Stmt := inClass (top 19) 3
theorem sc_Ring_needle : FnScope ["self"] ["self"] (defScope s_Ring_needle) := ⟨rfl, rfl, rfl, by decide +kernel, rfl, by decide +kernel, by decide +kernel⟩
def b_Ring_needle : SF := (sRet (eOfN (nOfB (bOp ixB (bOfP (pFld ct "order" (pVar 0))) (bOfP (pFld ct "at" (pVar 0)))))))
def m_Ring_needle : MF := mBody 1 1 b_Ring_needle
abbrev s_Ring_next_of : Stmt := inClass (top 19) 4
theorem sc_Ring_next_of : FnScope ["self", "places", "place"] ["self", "places"] (defScope s_Ring_next_of) := ⟨rfl, rfl, rfl, by decide +kernel, rfl, by decide +kernel, by decide +kernel⟩
def b_Ring_next_of : SF := (sSeq (sWhile (eOfN (bOp neT (bOfP (pVar 1)) (nLst baNil))) (sSeq (sSet 2 (eOfN (nOfB (bOp ixB (bOfP (pFld ct "order" (pVar 0))) (bOfP (pFld ct "at" (pVar 0)))))))
    (sSeq (sMut (putFM ct "at") (pVar 0) (eOfN (bOp modT (bOp addA (bOfP (pFld ct "at" (pVar 0))) (nC (.int 1))) (bUn lenT (bOfP (pFld ct "order" (pVar 0)))))))
    (sIf (eOfN (bOp inA (bOfP (pVar 2)) (bOfP (pVar 1)))) (sSeq (sIf (eOfN (bOp notInA (bOfP (pVar 2)) (bOfP (pFld ct "marks" (pVar 0))))) (sRet (eVar 2)) sNil)
    (sExpr (eDmP dpopM (pFld ct "marks" (pVar 0)) (baRef 2 baNil)))) sNil))))
    (sRet (eOfN (nC .non))))
def m_Ring_next_of : MF := mBody 2 3 b_Ring_next_of
abbrev s_law_bag : Stmt := top 21
theorem sc_law_bag : FnScope ["script", "k", "cell", "seed"] ["script", "k"] (defScope s_law_bag) := ⟨rfl, rfl, rfl, by decide +kernel, rfl, by decide +kernel, by decide +kernel⟩
def b_law_bag : SF := (sSeq (sSet 2 (eOfN (nC (.int 0))))
    (sSeq (sIf (eOfN (bOp ltT (bOfP (pVar 1)) (bUn lenT (bOfP (pVar 0))))) (sSet 2 (eOfN (bOp modT (bOp ixB (bOfP (pVar 0)) (bOfP (pVar 1))) (bOp powT (nC (.int 10)) (nC (.int 60)))))) sNil)
    (sSeq (sSet 3 (eOfN (bOp addA (nC (.int 1)) (bOp modT (bOp addA (bOp addA (bOp addA (bOp mulT (bOp modT (bOfP (pVar 2)) (nC (.int 2147483629))) (nC (.int 16807))) (bOp mulT (bOp mulT (nC (.int 40009)) (bOfP (pVar 1))) (bOfP (pVar 1)))) (bOp mulT (nC (.int 7919)) (bOfP (pVar 1)))) (nC (.int 1009))) (nC (.int 2147483645))))))
    (sSeq (sIf (eOfN (bOp ltT (bOfP (pVar 2)) (bOp powT (nC (.int 10)) (nC (.int 18))))) (sRet (eDisp .lst (aVal (eOfN (nC (.int 0))) (aVal (eVar 3) aNil)))) sNil)
    (sRet (eDisp .lst (aVal (eVar 2) (aVal (eVar 3) aNil))))))))
def m_law_bag : MF := mBody 2 4 b_law_bag
abbrev s_law_take : Stmt := top 22
theorem sc_law_take : FnScope ["bag", "many", "found"] ["bag", "many"] (defScope s_law_take) := ⟨rfl, rfl, rfl, by decide +kernel, rfl, by decide +kernel, by decide +kernel⟩
def b_law_take : SF := (sSeq (sIf (eOfN (bOp gtT (bOp ixB (bOfP (pVar 0)) (nC (.int 0))) (nC (.int 0)))) (sSeq (sSet 2 (eOfN (bOp modT (bOp ixB (bOfP (pVar 0)) (nC (.int 0))) (bOfP (pVar 1)))))
    (sSeq (sSetA (pVar 0) (nC (.int 0)) (eOfN (bOp fdivT (bOp ixB (bOfP (pVar 0)) (nC (.int 0))) (bOfP (pVar 1)))))
    (sRet (eVar 2)))) sNil)
    (sSeq (sSetA (pVar 0) (nC (.int 1)) (eOfN (bOp modT (bOp mulT (bOp ixB (bOfP (pVar 0)) (nC (.int 1))) (nC (.int 48271))) (nC (.int 2147483647)))))
    (sRet (eOfN (bOp modT (bOp fdivT (bOp modT (bOp mulT (bOp fdivT (bOp ixB (bOfP (pVar 0)) (nC (.int 1))) (nC (.int 13))) (bOp addA (bOp modT (bOp ixB (bOfP (pVar 0)) (nC (.int 1))) (nC (.int 32749))) (nC (.int 17)))) (nC (.int 2147483629))) (nC (.int 32))) (bOfP (pVar 1)))))))
def m_law_take : MF := mBody 2 3 b_law_take
abbrev s_law_kinds : Stmt := top 23
theorem sc_law_kinds : FnScope ["e", "some", "words", "k"] ["e"] (defScope s_law_kinds) := ⟨rfl, rfl, rfl, by decide +kernel, rfl, by decide +kernel, by decide +kernel⟩
-- kinds NoCall Here BadRow Asleep NoPage NoLeaf NoHand NoDeed Taken NoSpace NoRoom NoRight ValueError Waits
def b_law_kinds (b0 b1 b2 b3 b4 b5 b6 b7 b8 b9 b10 b11 b12 b13 : Bool) : SF := (sSeq (sSet 1 (eDisp .lst (aVal (eOfN (nC (.bl b3))) (aVal (eOfN (nC (.bl b2))) (aVal (eOfN (nC (.bl b1))) (aVal (eOfN (nC (.bl b0))) aNil))))))
    (sSeq (sSet 1 (eOfN (bOp addA (bOfP (pVar 1)) (nLst (baVal (nC (.bl b7)) (baVal (nC (.bl b6)) (baVal (nC (.bl b5)) (baVal (nC (.bl b4)) baNil))))))))
    (sSeq (sSet 1 (eOfN (bOp addA (bOfP (pVar 1)) (nLst (baVal (nC (.bl b11)) (baVal (nC (.bl b10)) (baVal (nC (.bl b9)) (baVal (nC (.bl b8)) baNil))))))))
    (sSeq (sSet 2 (eDisp .lst (aVal (eOfN (nC (.str "Asleep"))) (aVal (eOfN (nC (.str "BadRow"))) (aVal (eOfN (nC (.str "Here"))) (aVal (eOfN (nC (.str "NoCall"))) (aVal (eOfN (nC (.str "NoDeed"))) (aVal (eOfN (nC (.str "NoHand"))) (aVal (eOfN (nC (.str "NoLeaf"))) (aVal (eOfN (nC (.str "NoPage"))) (aVal (eOfN (nC (.str "NoRight"))) (aVal (eOfN (nC (.str "NoRoom"))) aNil))))))))))))
    (sSeq (sSet 2 (eOfN (bOp addA (bOfP (pVar 2)) (nLst (baVal (nC (.str "NoSpace")) (baVal (nC (.str "Taken")) (baVal (nC (.str "Waits")) (baVal (nC (.str "+")) baNil))))))))
    (sSeq (sSet 1 (eOfN (bOp addA (bOfP (pVar 1)) (nLst (baVal (nC (.bl b13)) (baVal (nC (.bl b12)) baNil))))))
    (sRet (eUn (joinT "") (eLcR 3 [3] (eOfN (nC (.int 14))) (eOfN (bOp ixT (bOfP (pVar 1)) (bOfP (pVar 3)))) (eOfN (bOp ixT (bOfP (pVar 2)) (bOfP (pVar 3)))))))))))))
abbrev s_law_next : Stmt := top 24
theorem sc_law_next : FnScope ["places", "marks", "at", "some", "one"] ["places", "marks", "at", "some"] (defScope s_law_next) := ⟨rfl, rfl, rfl, by decide +kernel, rfl, by decide +kernel, by decide +kernel⟩
def b_law_next : SF := (sSeq (sIf (eOfN (bOp eqT (bOfP (pVar 3)) (nLst baNil))) (sRet (eDisp .lst (aVal (eOfN (nC .non)) (aVal (eVar 2) (aVal (eVar 1) aNil))))) sNil)
    (sSeq (sWhile (eOr (eOfN (bOp notInA (bOp ixB (bOfP (pVar 0)) (bOfP (pVar 2))) (bOfP (pVar 3)))) (eOfN (bOp inA (bOp ixB (bOfP (pVar 0)) (bOfP (pVar 2))) (bOfP (pVar 1))))) (sSeq (sSet 1 (eOfN (bLc [4] (tgN 4) (bOfP (pVar 1)) (bOr (bOp neT (bOfP (pVar 4)) (bOp ixB (bOfP (pVar 0)) (bOfP (pVar 2)))) (bOp notInA (bOfP (pVar 4)) (bOfP (pVar 3)))) (nOfB (bOfP (pVar 4))))))
    (sSet 2 (eOfN (bOp modT (bOp addA (bOfP (pVar 2)) (nC (.int 1))) (bUn lenT (bOfP (pVar 0))))))))
    (sRet (eDisp .lst (aVal (eOfN (nOfB (bOp ixB (bOfP (pVar 0)) (bOfP (pVar 2))))) (aVal (eOfN (bOp modT (bOp addA (bOfP (pVar 2)) (nC (.int 1))) (bUn lenT (bOfP (pVar 0))))) (aVal (eVar 1) aNil)))))))
def m_law_next : MO := mBodyO 4 5 [1, 2] b_law_next
abbrev s_law_some : Stmt := top 25
theorem sc_law_some : FnScope ["bag", "places", "many", "way", "space", "some", "place"] ["bag", "places"] (defScope s_law_some) := ⟨rfl, rfl, rfl, by decide +kernel, rfl, by decide +kernel, by decide +kernel⟩
def b_law_some : SF := (sSeq (sSet 2 (eOfN (bUn lenT (bOfP (pVar 1)))))
    (sSeq (sSet 3 (eCall m_law_take 2 (aRef 0 (aVal (eOfN (nC (.int 6))) aNil))))
    (sSeq (sSet 4 (eOpB ixA (eOpV ixT 1 (eCall m_law_take 2 (aRef 0 (aRef 2 aNil)))) (nC (.int 0))))
    (sSeq (sIf (eOfN (bOp eqT (bOfP (pVar 3)) (nC (.int 0)))) (sRet (eDisp .lst aNil)) sNil)
    (sSeq (sIf (eOfN (bOp eqT (bOfP (pVar 3)) (nC (.int 1)))) (sRet (eOfN (bLc [6] (tgN 6) (bOfP (pVar 1)) (bOp eqT (bOp ixB (bOfP (pVar 6)) (nC (.int 0))) (bOfP (pVar 4))) (nOfB (bOfP (pVar 6)))))) sNil)
    (sSeq (sSet 5 (eLcP 1 6 [6] (pVar 1) (eOpB eqT (eCall m_law_take 2 (aRef 0 (aVal (eOfN (nOfB (bOp ixB (nLst (baVal (nC (.int 9)) (baVal (nC (.int 2)) (baVal (nC (.int 9)) (baVal (nC (.int 2)) baNil))))) (bOp subT (bOfP (pVar 3)) (nC (.int 2)))))) aNil))) (nC (.int 0))) (eVar 6)))
    (sSeq (sIf (eOfN (bOp gtT (bOfP (pVar 3)) (nC (.int 3)))) (sSet 5 (eOfN (bLc [6] (tgN 6) (bOfP (pVar 1)) (bOp notInA (bOfP (pVar 6)) (bOfP (pVar 5))) (nOfB (bOfP (pVar 6)))))) sNil)
    (sRet (eVar 5)))))))))
def m_law_some : MF := mBody 2 7 b_law_some
abbrev s_law_marked : Stmt := top 26
theorem sc_law_marked : FnScope ["bag", "ring", "spaces", "pages", "marks", "space", "page", "kind", "told", "e"] ["bag", "ring", "spaces", "pages", "marks"] (defScope s_law_marked) := ⟨rfl, rfl, rfl, by decide +kernel, rfl, by decide +kernel, by decide +kernel⟩
def b_law_marked : SF := (sSeq (sSet 5 (eCall m_law_take 2 (aRef 0 (aRef 2 aNil))))
    (sSeq (sSet 6 (eCall m_law_take 2 (aRef 0 (aRef 3 aNil))))
    (sSeq (sIf (eOpB eqT (eCall m_law_take 2 (aRef 0 (aVal (eOfN (nC (.int 8))) aNil))) (nC (.int 0))) (sSeq (sSet 5 (eOp ixA (eDisp .lst (aVal (eVar 5) (aVal (eVar 2) (aVal (eOfN (bUn negT (nC (.int 1)))) aNil)))) (eCall m_law_take 2 (aRef 0 (aVal (eOfN (nC (.int 3))) aNil)))))
    (sSet 6 (eOp ixA (eDisp .lst (aVal (eVar 6) (aVal (eVar 3) (aVal (eOfN (bUn negT (nC (.int 1)))) (aVal (eOfN (bOp powT (nC (.int 10)) (nC (.int 39)))) aNil))))) (eCall m_law_take 2 (aRef 0 (aVal (eOfN (nC (.int 4))) aNil)))))) sNil)
    (sSeq (sSet 7 (eOfN (nC (.str ""))))
    (sSeq (sSet 8 (eOfN (nC .non)))
    (sSeq (sTryK kn 9 7 (sSet 8 (eMeth m_Ring_mark 3 1 "mark" 1 (aRef 5 (aRef 6 aNil)))))
    (sSeq (sIf (eOr (eOfN (bOp ltT (bOfP (pVar 5)) (nC (.int 0)))) (eOfN (bOp geT (bOfP (pVar 5)) (bOfP (pVar 2))))) (sRet (eOfN (bOp eqT (bOfP (pVar 7)) (nC (.str "NoSpace+"))))) sNil)
    (sSeq (sIf (eOr (eOfN (bOp ltT (bOfP (pVar 6)) (nC (.int 0)))) (eOfN (bOp geT (bOfP (pVar 6)) (bOfP (pVar 3))))) (sRet (eOfN (bOp eqT (bOfP (pVar 7)) (nC (.str "NoPage+"))))) sNil)
    (sSeq (sIf (eOfN (bOp notInA (nTup (baRef 5 (baRef 6 baNil))) (bOfP (pVar 4)))) (sExpr (eMutV appM 4 (aVal (eOfN (nTup (baRef 5 (baRef 6 baNil)))) aNil))) sNil)
    (sRet (eOfN (nOfB (bAnd (bOp eqT (bOfP (pVar 7)) (nC (.str ""))) (bOp isA (bOfP (pVar 8)) (nC .non)))))))))))))))
def m_law_marked : MF := mBody 5 10 b_law_marked
abbrev s_law_stands : Stmt := top 27
theorem sc_law_stands : FnScope ["ring", "places", "at", "marks", "found"] ["ring", "places", "at", "marks"] (defScope s_law_stands) := ⟨rfl, rfl, rfl, by decide +kernel, rfl, by decide +kernel, by decide +kernel⟩
def b_law_stands : SF := (sSeq (sSet 4 (eMethP m_Ring_marked 1 1 "marked" (pVar 0) baNil))
    (sSeq (sIf (eOr (eNot (eOfN (bUn (isiT "list") (bOfP (pVar 4))))) (eOr (eOfN (bOp neT (bOfP (pVar 4)) (bUn sortT (bOfP (pVar 3))))) (eOpB neT (eMethP m_Ring_needle 1 1 "needle" (pVar 0) baNil) (bOp ixB (bOfP (pVar 1)) (bOfP (pVar 2)))))) (sRet (eOfN (nC (.bl false)))) sNil)
    (sSeq (sExpr (eMutV appM 4 (aVal (eOfN (nTup (baVal (nC (.int 0)) (baVal (nC (.int 0)) baNil)))) aNil)))
    (sRet (eOpB eqT (eMethP m_Ring_marked 1 1 "marked" (pVar 0) baNil) (bUn sortT (bOfP (pVar 3))))))))
def m_law_stands : MF := mBody 4 5 b_law_stands
abbrev s_law : Stmt := top 28
theorem sc_law : FnScope ["script", "first", "spaces", "pages", "ring", "places", "marks", "at", "place", "k", "bag", "turn", "some", "handed", "due"] ["script"] (defScope s_law) := ⟨rfl, rfl, rfl, by decide +kernel, rfl, by decide +kernel, by decide +kernel⟩
def b_law : SF := (sSeq (sSet 1 (eCall m_law_bag 2 (aRef 0 (aVal (eOfN (nC (.int 0))) aNil))))
    (sSeq (sSet 2 (eOp addA (eOfN (nC (.int 1))) (eCall m_law_take 2 (aRef 1 (aVal (eOfN (nC (.int 4))) aNil)))))
    (sSeq (sSet 3 (eOp addA (eOfN (nC (.int 1))) (eCall m_law_take 2 (aRef 1 (aVal (eOp ixA (eDisp .lst (aVal (eOfN (nC (.int 3))) (aVal (eOfN (nC (.int 30))) aNil))) (eCall m_law_take 2 (aRef 1 (aVal (eOfN (nC (.int 2))) aNil)))) aNil)))))
    (sSeq (sSet 4 (eMake m_Ring___init 3 1 (aRef 2 (aRef 3 aNil))))
    (sSeq (sSet 5 (eOfN (bLcR [9] (tgN 9) (bOp mulT (bOfP (pVar 2)) (bOfP (pVar 3))) bYes (nTup (baVal (bOp fdivT (bOfP (pVar 9)) (bOfP (pVar 3))) (baVal (bOp modT (bOfP (pVar 9)) (bOfP (pVar 3))) baNil))))))
    (sSeq (sSet 6 (eDisp .lst aNil))
    (sSeq (sSet 7 (eOfN (nC (.int 0))))
    (sSeq (sIf (eOpB eqT (eCall m_law_take 2 (aRef 1 (aVal (eOfN (nC (.int 3))) aNil))) (nC (.int 0))) (sSet 6 (eLcP 5 8 [8] (pVar 5) (eOpB gtT (eCall m_law_take 2 (aRef 1 (aVal (eOfN (nC (.int 4))) aNil))) (nC (.int 0))) (eVar 8))) sNil)
    (sSeq (sForP 6 (tgN 8) (pVar 6) (sExpr (eMeth m_Ring_mark 3 1 "mark" 4 (aVal (eOfN (nOfB (bOp ixB (bOfP (pVar 8)) (nC (.int 0))))) (aVal (eOfN (nOfB (bOp ixB (bOfP (pVar 8)) (nC (.int 1))))) aNil)))))
    (sSeq (sForR (tgN 9) (eOfN (bOp addA (bOp minT (bUn lenT (bOfP (pVar 0))) (nC (.int 63))) (nC (.int 2)))) (sSeq (sSet 10 (eCall m_law_bag 2 (aRef 0 (aRef 9 aNil))))
    (sForR (tgN 11) (eOp addA (eOfN (nC (.int 1))) (eCall m_law_take 2 (aRef 10 (aVal (eOfN (nC (.int 4))) aNil)))) (sSeq (sIf (eOpB eqT (eCall m_law_take 2 (aRef 10 (aVal (eOfN (nC (.int 3))) aNil))) (nC (.int 0))) (sIf (eNot (eCall m_law_marked 5 (aRef 10 (aRef 4 (aRef 2 (aRef 3 (aRef 6 aNil))))))) (sRet (eOfN (nC (.bl false)))) sNil) (sSeq (sSet 12 (eCall m_law_some 2 (aRef 10 (aRef 5 aNil))))
    (sSeq (sSet 13 (eOfN (bUn listT (bOfP (pVar 12)))))
    (sSeq (sUnpM [14, 7, 6] (eCallO m_law_next 4 (aRef 5 (aVal (eVar 6) (aVal (eVar 7) (aRef 12 aNil))))))
    (sIf (eOr (eOpB neT (eMeth m_Ring_next_of 2 1 "next_of" 4 (aRef 13 aNil)) (bOfP (pVar 14))) (eOfN (bOp neT (bOfP (pVar 13)) (bOfP (pVar 12))))) (sRet (eOfN (nC (.bl false)))) sNil)))))
    (sIf (eNot (eCall m_law_stands 4 (aRef 4 (aRef 5 (aRef 7 (aRef 6 aNil)))))) (sRet (eOfN (nC (.bl false)))) sNil)))))
    (sRet (eOfN (nC (.bl true))))))))))))))
def m_law : MF := mBody 1 15 b_law
section
variable {P : Program} {w : World} {K : PySem.W.Frag} {cl : Nat → Addr} {okc : ∀ c f, f ∈ ct c → Cls K (cl c) ∧ NoAttr K (cl c) f} {mg : Str → Option Value} {base : Heap}
theorem ok_Tables___init {f : Addr} {fd : FuncData} (F : Fun K "__init__" "Tables.__init__" s_Tables___init f fd) (B : Bi mg) : FnOk P w K mg base (L2N.CX P w) 1 f fd ["self", "spaces", "pages"] (spT (gx K cl okc) 3 m_Tables___init) := by
  refine fn_okT (Γ := gx K cl okc) (k := 0) F sc_Tables___init fun cdv A outer s H E ar hr hL0 => ?_
  have tk : L2N.Takes (cxOf (L2N.CX P w) P w (gx K cl okc).K mg base ["self", "spaces", "pages", "space"] "Tables.__init__" (defScope s_Tables___init) f cdv A outer s H E) (fun cls d _ H => E cls d H) := L2N.takes_of rfl rfl rfl rfl
  have po : PassesOwn (model P w) (cxOf (L2N.CX P w) P w (gx K cl okc).K mg base ["self", "spaces", "pages", "space"] "Tables.__init__" (defScope s_Tables___init) f cdv A outer s H E).A (cxOf (L2N.CX P w) P w (gx K cl okc).K mg base ["self", "spaces", "pages", "space"] "Tables.__init__" (defScope s_Tables___init) f cdv A outer s H E).env (cxOf (L2N.CX P w) P w (gx K cl okc).K mg base ["self", "spaces", "pages", "space"] "Tables.__init__" (defScope s_Tables___init) f cdv A outer s H E).xe := passes_of rfl
  have hL : Loc' [3] ar := fun j hj => hL0 j (by revert j; decide)
  unfold b_Tables___init
  exact (ss_cons (s_fld (pp_var 0) (pe_evar 1))
      (ss_cons (s_fld (pp_var 0) (pe_evar 2))
      (ss_one (s_fld (pp_var 0) (pe_en (n_lcR (own := [("space", 3)]) rfl sc_Tables___init.nd B.range (fun ar h => tgwN (j := 3) (by decide) (h 3 (by decide))) (pe_bp (pp_var 1)) (blkOk_by (own := [("space", 3)]) (N := ["self", "spaces", "pages", "space"]) (sc := defScope s_Tables___init) (by decide +kernel)) (fun _ _ _ _ _ => (pg_name (i := 3) sc_Tables___init.nd rfl (Or.inl rfl))) (fun _ _ _ _ _ => tb_nil) (fun _ _ _ _ _ => en_all (fun ar _ => (nOp op_mulT mulT_ok (pe_bn (n_lst (ba_val n_non ba_nil))) (pe_bp (pp_var 2)))))))))))
theorem ok_Tables_look_at_space {f : Addr} {fd : FuncData} (F : Fun K "look_at_space" "Tables.look_at_space" s_Tables_look_at_space f fd) (B : Bi mg) (X_NoSpace : RaiseOk K mg "NoSpace" (cl 3)) : FnOk P w K mg base (L2N.CX P w) 1 f fd ["self", "space"] (spT (gx K cl okc) 2 m_Tables_look_at_space) := by
  refine fn_okT (Γ := gx K cl okc) (k := 0) F sc_Tables_look_at_space fun cdv A outer s H E ar hr hL0 => ?_
  have tk : L2N.Takes (cxOf (L2N.CX P w) P w (gx K cl okc).K mg base ["self", "space"] "Tables.look_at_space" (defScope s_Tables_look_at_space) f cdv A outer s H E) (fun cls d _ H => E cls d H) := L2N.takes_of rfl rfl rfl rfl
  have po : PassesOwn (model P w) (cxOf (L2N.CX P w) P w (gx K cl okc).K mg base ["self", "space"] "Tables.look_at_space" (defScope s_Tables_look_at_space) f cdv A outer s H E).A (cxOf (L2N.CX P w) P w (gx K cl okc).K mg base ["self", "space"] "Tables.look_at_space" (defScope s_Tables_look_at_space) f cdv A outer s H E).env (cxOf (L2N.CX P w) P w (gx K cl okc).K mg base ["self", "space"] "Tables.look_at_space" (defScope s_Tables_look_at_space) f cdv A outer s H E).xe := passes_of rfl
  have hL : Loc' [] ar := fun j hj => hL0 j (by revert j; decide)
  unfold b_Tables_look_at_space
  exact (ss_one (s_if (L2.PW.pt (w_or (t_cmpN op_lt ltT_ok (pe_bp (pp_var 1)) (pe_bn n_int) (nomark _)) (w_one_or (t_cmpN op_ge geT_ok (pe_bp (pp_var 1)) (pe_bp (p_fld (pp_var 0))) (nomark _))))) (ss_one (s_raiseX X_NoSpace tk)) ss_nil))
theorem ok_Tables_look_at_page {f : Addr} {fd : FuncData} (F : Fun K "look_at_page" "Tables.look_at_page" s_Tables_look_at_page f fd) (B : Bi mg) (X_NoPage : RaiseOk K mg "NoPage" (cl 4)) : FnOk P w K mg base (L2N.CX P w) 1 f fd ["self", "page"] (spT (gx K cl okc) 2 m_Tables_look_at_page) := by
  refine fn_okT (Γ := gx K cl okc) (k := 0) F sc_Tables_look_at_page fun cdv A outer s H E ar hr hL0 => ?_
  have tk : L2N.Takes (cxOf (L2N.CX P w) P w (gx K cl okc).K mg base ["self", "page"] "Tables.look_at_page" (defScope s_Tables_look_at_page) f cdv A outer s H E) (fun cls d _ H => E cls d H) := L2N.takes_of rfl rfl rfl rfl
  have po : PassesOwn (model P w) (cxOf (L2N.CX P w) P w (gx K cl okc).K mg base ["self", "page"] "Tables.look_at_page" (defScope s_Tables_look_at_page) f cdv A outer s H E).A (cxOf (L2N.CX P w) P w (gx K cl okc).K mg base ["self", "page"] "Tables.look_at_page" (defScope s_Tables_look_at_page) f cdv A outer s H E).env (cxOf (L2N.CX P w) P w (gx K cl okc).K mg base ["self", "page"] "Tables.look_at_page" (defScope s_Tables_look_at_page) f cdv A outer s H E).xe := passes_of rfl
  have hL : Loc' [] ar := fun j hj => hL0 j (by revert j; decide)
  unfold b_Tables_look_at_page
  exact (ss_one (s_if (L2.PW.pt (w_or (t_cmpN op_lt ltT_ok (pe_bp (pp_var 1)) (pe_bn n_int) (nomark _)) (w_one_or (t_cmpN op_ge geT_ok (pe_bp (pp_var 1)) (pe_bp (p_fld (pp_var 0))) (nomark _))))) (ss_one (s_raiseX X_NoPage tk)) ss_nil))
theorem ok_Tables_leaf {f : Addr} {fd : FuncData} (F : Fun K "leaf" "Tables.leaf" s_Tables_leaf f fd) (B : Bi mg) (D_Tables_look_at_space : MethOk P w (gx K cl okc) mg base 1 0 "look_at_space" 2 m_Tables_look_at_space) (D_Tables_look_at_page : MethOk P w (gx K cl okc) mg base 1 0 "look_at_page" 2 m_Tables_look_at_page) : FnOk P w K mg base (L2N.CX P w) 2 f fd ["self", "space", "page"] (spT (gx K cl okc) 3 m_Tables_leaf) := by
  refine fn_okT (Γ := gx K cl okc) (k := 1) F sc_Tables_leaf fun cdv A outer s H E ar hr hL0 => ?_
  have tk : L2N.Takes (cxOf (L2N.CX P w) P w (gx K cl okc).K mg base ["self", "space", "page"] "Tables.leaf" (defScope s_Tables_leaf) f cdv A outer s H E) (fun cls d _ H => E cls d H) := L2N.takes_of rfl rfl rfl rfl
  have po : PassesOwn (model P w) (cxOf (L2N.CX P w) P w (gx K cl okc).K mg base ["self", "space", "page"] "Tables.leaf" (defScope s_Tables_leaf) f cdv A outer s H E).A (cxOf (L2N.CX P w) P w (gx K cl okc).K mg base ["self", "space", "page"] "Tables.leaf" (defScope s_Tables_leaf) f cdv A outer s H E).env (cxOf (L2N.CX P w) P w (gx K cl okc).K mg base ["self", "space", "page"] "Tables.leaf" (defScope s_Tables_leaf) f cdv A outer s H E).xe := passes_of rfl
  have hL : Loc' [] ar := fun j hj => hL0 j (by revert j; decide)
  unfold b_Tables_leaf
  exact (ss_cons (s_expr (e_meth 0 D_Tables_look_at_space (hr.mono (by decide)) tk (a_ref 1 a_nil)))
      (ss_cons (s_expr (e_meth 0 D_Tables_look_at_page (hr.mono (by decide)) tk (a_ref 2 a_nil)))
      (ss_one (s_ret (pe_en (pe_nb (b_ix (hu1 hr) (b_ix (hu1 hr) (pe_bp (p_fld (pp_var 0))) (pe_bp (pp_var 1)) (fun _ _ => rfl)) (pe_bp (pp_var 2)) (fun _ _ => rfl))))))))
theorem ok_Ring___init {f : Addr} {fd : FuncData} (F : Fun K "__init__" "Ring.__init__" s_Ring___init f fd) (B : Bi mg) (K_Tables : MakeOk P w (gx K cl okc) mg base 1 0 "Tables" 3 m_Tables___init) : FnOk P w K mg base (L2N.CX P w) 3 f fd ["self", "spaces", "pages"] (spT (gx K cl okc) 3 m_Ring___init) := by
  refine fn_okT (Γ := gx K cl okc) (k := 2) F sc_Ring___init fun cdv A outer s H E ar hr hL0 => ?_
  have tk : L2N.Takes (cxOf (L2N.CX P w) P w (gx K cl okc).K mg base ["self", "spaces", "pages", "k"] "Ring.__init__" (defScope s_Ring___init) f cdv A outer s H E) (fun cls d _ H => E cls d H) := L2N.takes_of rfl rfl rfl rfl
  have po : PassesOwn (model P w) (cxOf (L2N.CX P w) P w (gx K cl okc).K mg base ["self", "spaces", "pages", "k"] "Ring.__init__" (defScope s_Ring___init) f cdv A outer s H E).A (cxOf (L2N.CX P w) P w (gx K cl okc).K mg base ["self", "spaces", "pages", "k"] "Ring.__init__" (defScope s_Ring___init) f cdv A outer s H E).env (cxOf (L2N.CX P w) P w (gx K cl okc).K mg base ["self", "spaces", "pages", "k"] "Ring.__init__" (defScope s_Ring___init) f cdv A outer s H E).xe := passes_of rfl
  have hL : Loc' [3] ar := fun j hj => hL0 j (by revert j; decide)
  unfold b_Ring___init
  exact (ss_cons (s_fld (pp_var 0) (e_make K_Tables (hr.mono (by decide)) (a_ref 1 (a_ref 2 a_nil))))
      (ss_cons (s_fld (pp_var 0) (pe_en (n_lcR (own := [("k", 3)]) rfl sc_Ring___init.nd B.range (fun ar h => tgwN (j := 3) (by decide) (h 3 (by decide))) (pe_bn (nOp op_mulT mulT_ok (pe_bp (pp_var 1)) (pe_bp (pp_var 2)))) (blkOk_by (own := [("k", 3)]) (N := ["self", "spaces", "pages", "k"]) (sc := defScope s_Ring___init) (by decide +kernel)) (fun _ _ _ _ _ => (pg_name (i := 3) sc_Ring___init.nd rfl (Or.inl rfl))) (fun _ _ _ _ _ => tb_nil) (fun _ _ _ _ _ => en_all (fun ar _ => (n_tup (ba_val (nOp op_fdiv fdivT_ok (pe_bp (pp_var 3)) (pe_bp (pp_var 2))) (ba_val (nOp op_mod modT_ok (pe_bp (pp_var 3)) (pe_bp (pp_var 2))) ba_nil))))))))
      (ss_cons (s_fld (pp_var 0) (pe_en n_dT))
      (ss_one (s_fld (pp_var 0) (pe_en n_int))))))
theorem ok_Ring_mark {f : Addr} {fd : FuncData} (F : Fun K "mark" "Ring.mark" s_Ring_mark f fd) (B : Bi mg) (D_Tables_leaf : MethOk P w (gx K cl okc) mg base 2 0 "leaf" 3 m_Tables_leaf) : FnOk P w K mg base (L2N.CX P w) 3 f fd ["self", "space", "page"] (spT (gx K cl okc) 3 m_Ring_mark) := by
  refine fn_okT (Γ := gx K cl okc) (k := 2) F sc_Ring_mark fun cdv A outer s H E ar hr hL0 => ?_
  have tk : L2N.Takes (cxOf (L2N.CX P w) P w (gx K cl okc).K mg base ["self", "space", "page"] "Ring.mark" (defScope s_Ring_mark) f cdv A outer s H E) (fun cls d _ H => E cls d H) := L2N.takes_of rfl rfl rfl rfl
  have po : PassesOwn (model P w) (cxOf (L2N.CX P w) P w (gx K cl okc).K mg base ["self", "space", "page"] "Ring.mark" (defScope s_Ring_mark) f cdv A outer s H E).A (cxOf (L2N.CX P w) P w (gx K cl okc).K mg base ["self", "space", "page"] "Ring.mark" (defScope s_Ring_mark) f cdv A outer s H E).env (cxOf (L2N.CX P w) P w (gx K cl okc).K mg base ["self", "space", "page"] "Ring.mark" (defScope s_Ring_mark) f cdv A outer s H E).xe := passes_of rfl
  have hL : Loc' [] ar := fun j hj => hL0 j (by revert j; decide)
  unfold b_Ring_mark
  exact (ss_cons (s_expr (e_methP D_Tables_leaf (hr.mono (by decide)) tk (p_fld (pp_var 0)) (ba_ref 1 (ba_ref 2 ba_nil))))
      (ss_one (s_setA (hu1 hr) (p_fld (pp_var 0)) (pe_bn (n_tup (ba_ref 1 (ba_ref 2 ba_nil)))) (pe_en n_bl))))
theorem ok_Ring_marked {f : Addr} {fd : FuncData} (F : Fun K "marked" "Ring.marked" s_Ring_marked f fd) (B : Bi mg) : FnOk P w K mg base (L2N.CX P w) 1 f fd ["self"] (spT (gx K cl okc) 1 m_Ring_marked) := by
  refine fn_okT (Γ := gx K cl okc) (k := 0) F sc_Ring_marked fun cdv A outer s H E ar hr hL0 => ?_
  have tk : L2N.Takes (cxOf (L2N.CX P w) P w (gx K cl okc).K mg base ["self"] "Ring.marked" (defScope s_Ring_marked) f cdv A outer s H E) (fun cls d _ H => E cls d H) := L2N.takes_of rfl rfl rfl rfl
  have po : PassesOwn (model P w) (cxOf (L2N.CX P w) P w (gx K cl okc).K mg base ["self"] "Ring.marked" (defScope s_Ring_marked) f cdv A outer s H E).A (cxOf (L2N.CX P w) P w (gx K cl okc).K mg base ["self"] "Ring.marked" (defScope s_Ring_marked) f cdv A outer s H E).env (cxOf (L2N.CX P w) P w (gx K cl okc).K mg base ["self"] "Ring.marked" (defScope s_Ring_marked) f cdv A outer s H E).xe := passes_of rfl
  have hL : Loc' [] ar := fun j hj => hL0 j (by revert j; decide)
  unfold b_Ring_marked
  exact (ss_one (s_ret (pe_en (n_sorted rfl B.sorted (pe_bp (p_fld (pp_var 0)))))))
theorem ok_Ring_needle {f : Addr} {fd : FuncData} (F : Fun K "needle" "Ring.needle" s_Ring_needle f fd) (B : Bi mg) : FnOk P w K mg base (L2N.CX P w) 1 f fd ["self"] (spT (gx K cl okc) 1 m_Ring_needle) := by
  refine fn_okT (Γ := gx K cl okc) (k := 0) F sc_Ring_needle fun cdv A outer s H E ar hr hL0 => ?_
  have tk : L2N.Takes (cxOf (L2N.CX P w) P w (gx K cl okc).K mg base ["self"] "Ring.needle" (defScope s_Ring_needle) f cdv A outer s H E) (fun cls d _ H => E cls d H) := L2N.takes_of rfl rfl rfl rfl
  have po : PassesOwn (model P w) (cxOf (L2N.CX P w) P w (gx K cl okc).K mg base ["self"] "Ring.needle" (defScope s_Ring_needle) f cdv A outer s H E).A (cxOf (L2N.CX P w) P w (gx K cl okc).K mg base ["self"] "Ring.needle" (defScope s_Ring_needle) f cdv A outer s H E).env (cxOf (L2N.CX P w) P w (gx K cl okc).K mg base ["self"] "Ring.needle" (defScope s_Ring_needle) f cdv A outer s H E).xe := passes_of rfl
  have hL : Loc' [] ar := fun j hj => hL0 j (by revert j; decide)
  unfold b_Ring_needle
  exact (ss_one (s_ret (pe_en (pe_nb (b_ix (hu1 hr) (pe_bp (p_fld (pp_var 0))) (pe_bp (p_fld (pp_var 0))) (fun _ _ => rfl))))))
theorem ok_Ring_next_of {f : Addr} {fd : FuncData} (F : Fun K "next_of" "Ring.next_of" s_Ring_next_of f fd) (B : Bi mg) : FnOk P w K mg base (L2N.CX P w) 1 f fd ["self", "places"] (spT (gx K cl okc) 2 m_Ring_next_of) := by
  refine fn_okT (Γ := gx K cl okc) (k := 0) F sc_Ring_next_of fun cdv A outer s H E ar hr hL0 => ?_
  have tk : L2N.Takes (cxOf (L2N.CX P w) P w (gx K cl okc).K mg base ["self", "places", "place"] "Ring.next_of" (defScope s_Ring_next_of) f cdv A outer s H E) (fun cls d _ H => E cls d H) := L2N.takes_of rfl rfl rfl rfl
  have po : PassesOwn (model P w) (cxOf (L2N.CX P w) P w (gx K cl okc).K mg base ["self", "places", "place"] "Ring.next_of" (defScope s_Ring_next_of) f cdv A outer s H E).A (cxOf (L2N.CX P w) P w (gx K cl okc).K mg base ["self", "places", "place"] "Ring.next_of" (defScope s_Ring_next_of) f cdv A outer s H E).env (cxOf (L2N.CX P w) P w (gx K cl okc).K mg base ["self", "places", "place"] "Ring.next_of" (defScope s_Ring_next_of) f cdv A outer s H E).xe := passes_of rfl
  have hL : Loc' [2] ar := fun j hj => hL0 j (by revert j; decide)
  unfold b_Ring_next_of
  exact (ss_cons (s_while po (t_cmpN (op_neD hr.units) neT_ok (pe_bp (pp_var 1)) (pe_bn (n_lst ba_nil)) (nomark _)) (ss_cons (s_set 2 (hL _ (by decide)) sc_Ring_next_of.nd (pe_en (pe_nb (b_ix (hu1 hr) (pe_bp (p_fld (pp_var 0))) (pe_bp (p_fld (pp_var 0))) (fun _ _ => rfl)))))
      (ss_cons (s_fld (pp_var 0) (pe_en (nOp op_mod modT_ok (pe_bn (nOp op_addA addA_ok (pe_bp (p_fld (pp_var 0))) (pe_bn n_int))) (pe_bn (n_len B.len (pe_bp (p_fld (pp_var 0))))))))
      (ss_one (s_if (t_cmpN (op_inA (hu65 hr)) inA_ok (pe_bp (pp_var 2)) (pe_bp (pp_var 1)) (by rfl)) (ss_cons (s_if (t_cmpN (op_notInA (hu65 hr)) notInA_ok (pe_bp (pp_var 2)) (pe_bp (p_fld (pp_var 0))) (by rfl)) (ss_one (s_ret (pe_evar 2))) ss_nil)
      (ss_one (s_expr (e_dmP dpopM_ok PySem.F.slot_dict_pop PySem.F.type_dict_pop (mt_dpop (hu1 hr)) (p_fld (pp_var 0)) (ba_ref 2 ba_nil))))) ss_nil)))))
      (ss_one (s_ret (pe_en n_non))))
theorem ok_law_bag {f : Addr} {fd : FuncData} (F : Fun K "_law_bag" "_law_bag" s_law_bag f fd) (B : Bi mg) : FnOk P w K mg base (L2N.CX P w) 1 f fd ["script", "k"] (spT (gx K cl okc) 2 m_law_bag) := by
  refine fn_okT (Γ := gx K cl okc) (k := 0) F sc_law_bag fun cdv A outer s H E ar hr hL0 => ?_
  have tk : L2N.Takes (cxOf (L2N.CX P w) P w (gx K cl okc).K mg base ["script", "k", "cell", "seed"] "_law_bag" (defScope s_law_bag) f cdv A outer s H E) (fun cls d _ H => E cls d H) := L2N.takes_of rfl rfl rfl rfl
  have po : PassesOwn (model P w) (cxOf (L2N.CX P w) P w (gx K cl okc).K mg base ["script", "k", "cell", "seed"] "_law_bag" (defScope s_law_bag) f cdv A outer s H E).A (cxOf (L2N.CX P w) P w (gx K cl okc).K mg base ["script", "k", "cell", "seed"] "_law_bag" (defScope s_law_bag) f cdv A outer s H E).env (cxOf (L2N.CX P w) P w (gx K cl okc).K mg base ["script", "k", "cell", "seed"] "_law_bag" (defScope s_law_bag) f cdv A outer s H E).xe := passes_of rfl
  have hL : Loc' [2, 3] ar := fun j hj => hL0 j (by revert j; decide)
  unfold b_law_bag
  exact (ss_cons (s_set 2 (hL _ (by decide)) sc_law_bag.nd (pe_en n_int))
      (ss_cons (s_if (t_cmpN op_lt ltT_ok (pe_bp (pp_var 1)) (pe_bn (n_len B.len (pe_bp (pp_var 0)))) (nomark _)) (ss_one (s_set 2 (hL _ (by decide)) sc_law_bag.nd (pe_en (nOp op_mod modT_ok (b_ix (hu1 hr) (pe_bp (pp_var 0)) (pe_bp (pp_var 1)) (fun _ _ => rfl)) (pe_bn (nOp op_pow powT_ok (pe_bn n_int) (pe_bn n_int))))))) ss_nil)
      (ss_cons (s_set 3 (hL _ (by decide)) sc_law_bag.nd (pe_en (nOp op_addA addA_ok (pe_bn n_int) (pe_bn (nOp op_mod modT_ok (pe_bn (nOp op_addA addA_ok (pe_bn (nOp op_addA addA_ok (pe_bn (nOp op_addA addA_ok (pe_bn (nOp op_mulT mulT_ok (pe_bn (nOp op_mod modT_ok (pe_bp (pp_var 2)) (pe_bn n_int))) (pe_bn n_int))) (pe_bn (nOp op_mulT mulT_ok (pe_bn (nOp op_mulT mulT_ok (pe_bn n_int) (pe_bp (pp_var 1)))) (pe_bp (pp_var 1)))))) (pe_bn (nOp op_mulT mulT_ok (pe_bn n_int) (pe_bp (pp_var 1)))))) (pe_bn n_int))) (pe_bn n_int))))))
      (ss_cons (s_if (t_cmpN op_lt ltT_ok (pe_bp (pp_var 2)) (pe_bn (nOp op_pow powT_ok (pe_bn n_int) (pe_bn n_int))) (nomark _)) (ss_one (s_ret (e_lst (a_val (pe_en n_int) (a_val (pe_evar 3) a_nil))))) ss_nil)
      (ss_one (s_ret (e_lst (a_val (pe_evar 2) (a_val (pe_evar 3) a_nil)))))))))
theorem ok_law_take {f : Addr} {fd : FuncData} (F : Fun K "_law_take" "_law_take" s_law_take f fd) (B : Bi mg) : FnOk P w K mg base (L2N.CX P w) 1 f fd ["bag", "many"] (spT (gx K cl okc) 2 m_law_take) := by
  refine fn_okT (Γ := gx K cl okc) (k := 0) F sc_law_take fun cdv A outer s H E ar hr hL0 => ?_
  have tk : L2N.Takes (cxOf (L2N.CX P w) P w (gx K cl okc).K mg base ["bag", "many", "found"] "_law_take" (defScope s_law_take) f cdv A outer s H E) (fun cls d _ H => E cls d H) := L2N.takes_of rfl rfl rfl rfl
  have po : PassesOwn (model P w) (cxOf (L2N.CX P w) P w (gx K cl okc).K mg base ["bag", "many", "found"] "_law_take" (defScope s_law_take) f cdv A outer s H E).A (cxOf (L2N.CX P w) P w (gx K cl okc).K mg base ["bag", "many", "found"] "_law_take" (defScope s_law_take) f cdv A outer s H E).env (cxOf (L2N.CX P w) P w (gx K cl okc).K mg base ["bag", "many", "found"] "_law_take" (defScope s_law_take) f cdv A outer s H E).xe := passes_of rfl
  have hL : Loc' [2] ar := fun j hj => hL0 j (by revert j; decide)
  unfold b_law_take
  exact (ss_cons (s_if (t_cmpN op_gt gtT_ok (b_ix (hu1 hr) (pe_bp (pp_var 0)) (pe_bn n_int) (fun _ _ => rfl)) (pe_bn n_int) (nomark _)) (ss_cons (s_set 2 (hL _ (by decide)) sc_law_take.nd (pe_en (nOp op_mod modT_ok (b_ix (hu1 hr) (pe_bp (pp_var 0)) (pe_bn n_int) (fun _ _ => rfl)) (pe_bp (pp_var 1)))))
      (ss_cons (s_setA (hu1 hr) (pp_var 0) (pe_bn n_int) (pe_en (nOp op_fdiv fdivT_ok (b_ix (hu1 hr) (pe_bp (pp_var 0)) (pe_bn n_int) (fun _ _ => rfl)) (pe_bp (pp_var 1)))))
      (ss_one (s_ret (pe_evar 2))))) ss_nil)
      (ss_cons (s_setA (hu1 hr) (pp_var 0) (pe_bn n_int) (pe_en (nOp op_mod modT_ok (pe_bn (nOp op_mulT mulT_ok (b_ix (hu1 hr) (pe_bp (pp_var 0)) (pe_bn n_int) (fun _ _ => rfl)) (pe_bn n_int))) (pe_bn n_int))))
      (ss_one (s_ret (pe_en (nOp op_mod modT_ok (pe_bn (nOp op_fdiv fdivT_ok (pe_bn (nOp op_mod modT_ok (pe_bn (nOp op_mulT mulT_ok (pe_bn (nOp op_fdiv fdivT_ok (b_ix (hu1 hr) (pe_bp (pp_var 0)) (pe_bn n_int) (fun _ _ => rfl)) (pe_bn n_int))) (pe_bn (nOp op_addA addA_ok (pe_bn (nOp op_mod modT_ok (b_ix (hu1 hr) (pe_bp (pp_var 0)) (pe_bn n_int) (fun _ _ => rfl)) (pe_bn n_int))) (pe_bn n_int))))) (pe_bn n_int))) (pe_bn n_int))) (pe_bp (pp_var 1))))))))
theorem okk {f : Addr} {fd : FuncData} (F : Fun K "_law_kinds" "_law_kinds" s_law_kinds f fd) (B : Bi mg) {Dx A0 A1 A2 A3 A4 A5 A6 A7 A8 A9 A10 A11 A13 : Addr} {b0 b1 b2 b3 b4 b5 b6 b7 b8 b9 b10 b11 b12 b13 : Bool} (g0 : mg "NoCall" = some (.ref A0)) (g1 : mg "Here" = some (.ref A1)) (g2 : mg "BadRow" = some (.ref A2)) (g3 : mg "Asleep" = some (.ref A3)) (g4 : mg "NoPage" = some (.ref A4)) (g5 : mg "NoLeaf" = some (.ref A5)) (g6 : mg "NoHand" = some (.ref A6)) (g7 : mg "NoDeed" = some (.ref A7)) (g8 : mg "Taken" = some (.ref A8)) (g9 : mg "NoSpace" = some (.ref A9)) (g10 : mg "NoRoom" = some (.ref A10)) (g11 : mg "NoRight" = some (.ref A11)) (g13 : mg "Waits" = some (.ref A13)) (Cx : ExcC K Dx) (k0 : PySem.W.kitOne K (.ref Dx) (.ref A0) = some b0) (k1 : PySem.W.kitOne K (.ref Dx) (.ref A1) = some b1) (k2 : PySem.W.kitOne K (.ref Dx) (.ref A2) = some b2) (k3 : PySem.W.kitOne K (.ref Dx) (.ref A3) = some b3) (k4 : PySem.W.kitOne K (.ref Dx) (.ref A4) = some b4) (k5 : PySem.W.kitOne K (.ref Dx) (.ref A5) = some b5) (k6 : PySem.W.kitOne K (.ref Dx) (.ref A6) = some b6) (k7 : PySem.W.kitOne K (.ref Dx) (.ref A7) = some b7) (k8 : PySem.W.kitOne K (.ref Dx) (.ref A8) = some b8) (k9 : PySem.W.kitOne K (.ref Dx) (.ref A9) = some b9) (k10 : PySem.W.kitOne K (.ref Dx) (.ref A10) = some b10) (k11 : PySem.W.kitOne K (.ref Dx) (.ref A11) = some b11) (k12 : PySem.W.kitOne K (.ref Dx) (.type "ValueError") = some b12) (k13 : PySem.W.kitOne K (.ref Dx) (.ref A13) = some b13) {kd : Str} {S1 : TSt} (he : b_law_kinds b0 b1 b2 b3 b4 b5 b6 b7 b8 b9 b10 b11 b12 b13 (List.replicate 4 none) = some (.rt (.str kd), S1)) : FnE P w (gx K cl okc).K mg base (L2N.CX P w) 1 f fd ["e"] (spK Dx kd) := by
  refine fn_okE (Γ := gx K cl okc) (W := fun _ _ _ _ => False) (k := 0) F sc_law_kinds (by decide) (fun cdv A outer s H E pr hot1 hr hz hf => ?_) he
  have hC := call_isP (X := L2H.cxH (L2N.CX P w) P w (gx K cl okc).K mg base ["e", "some", "words", "k"] "_law_kinds" (defScope s_law_kinds) f cdv A outer s H E pr) (a := pr.1) (oe := pr.2) Cx hz hf List.mem_cons_self
  have hot : L2H.HotC (L2H.cxH (L2N.CX P w) P w (gx K cl okc).K mg base ["e", "some", "words", "k"] "_law_kinds" (defScope s_law_kinds) f cdv A outer s H E pr) := ⟨pr, hot1, List.mem_cons_self⟩
  have hL : Loc' [1, 2, 3] (arE pr.1) := fun j hj => by revert j; simp [arE]
  unfold b_law_kinds
  exact (ss_cons (s_set 1 (hL _ (by decide)) sc_law_kinds.nd (e_lst (a_val (pe_en (n_isE (i := 0) (v := .ref A3) (cv := .ref A3) hC rfl (pe_glob (by rfl) g3 rfl) (fun _ h => h) k3 B.isinstance)) (a_val (pe_en (n_isE (i := 0) (v := .ref A2) (cv := .ref A2) hC rfl (pe_glob (by rfl) g2 rfl) (fun _ h => h) k2 B.isinstance)) (a_val (pe_en (n_isE (i := 0) (v := .ref A1) (cv := .ref A1) hC rfl (pe_glob (by rfl) g1 rfl) (fun _ h => h) k1 B.isinstance)) (a_val (pe_en (n_isE (i := 0) (v := .ref A0) (cv := .ref A0) hC rfl (pe_glob (by rfl) g0 rfl) (fun _ h => h) k0 B.isinstance)) a_nil))))))
      (ss_cons (s_set 1 (hL _ (by decide)) sc_law_kinds.nd (pe_en (nOp op_addA addA_ok (pe_bp (pp_var 1)) (pe_bn (n_lst (ba_val (n_isE (i := 0) (v := .ref A7) (cv := .ref A7) hC rfl (pe_glob (by rfl) g7 rfl) (fun _ h => h) k7 B.isinstance) (ba_val (n_isE (i := 0) (v := .ref A6) (cv := .ref A6) hC rfl (pe_glob (by rfl) g6 rfl) (fun _ h => h) k6 B.isinstance) (ba_val (n_isE (i := 0) (v := .ref A5) (cv := .ref A5) hC rfl (pe_glob (by rfl) g5 rfl) (fun _ h => h) k5 B.isinstance) (ba_val (n_isE (i := 0) (v := .ref A4) (cv := .ref A4) hC rfl (pe_glob (by rfl) g4 rfl) (fun _ h => h) k4 B.isinstance) ba_nil)))))))))
      (ss_cons (s_set 1 (hL _ (by decide)) sc_law_kinds.nd (pe_en (nOp op_addA addA_ok (pe_bp (pp_var 1)) (pe_bn (n_lst (ba_val (n_isE (i := 0) (v := .ref A11) (cv := .ref A11) hC rfl (pe_glob (by rfl) g11 rfl) (fun _ h => h) k11 B.isinstance) (ba_val (n_isE (i := 0) (v := .ref A10) (cv := .ref A10) hC rfl (pe_glob (by rfl) g10 rfl) (fun _ h => h) k10 B.isinstance) (ba_val (n_isE (i := 0) (v := .ref A9) (cv := .ref A9) hC rfl (pe_glob (by rfl) g9 rfl) (fun _ h => h) k9 B.isinstance) (ba_val (n_isE (i := 0) (v := .ref A8) (cv := .ref A8) hC rfl (pe_glob (by rfl) g8 rfl) (fun _ h => h) k8 B.isinstance) ba_nil)))))))))
      (ss_cons (s_set 2 (hL _ (by decide)) sc_law_kinds.nd (e_lst (a_val (pe_en n_str) (a_val (pe_en n_str) (a_val (pe_en n_str) (a_val (pe_en n_str) (a_val (pe_en n_str) (a_val (pe_en n_str) (a_val (pe_en n_str) (a_val (pe_en n_str) (a_val (pe_en n_str) (a_val (pe_en n_str) a_nil))))))))))))
      (ss_cons (s_set 2 (hL _ (by decide)) sc_law_kinds.nd (pe_en (nOp op_addA addA_ok (pe_bp (pp_var 2)) (pe_bn (n_lst (ba_val n_str (ba_val n_str (ba_val n_str (ba_val n_str ba_nil)))))))))
      (ss_cons (s_set 1 (hL _ (by decide)) sc_law_kinds.nd (pe_en (nOp op_addA addA_ok (pe_bp (pp_var 1)) (pe_bn (n_lst (ba_val (n_isE (i := 0) (v := .ref A13) (cv := .ref A13) hC rfl (pe_glob (by rfl) g13 rfl) (fun _ h => h) k13 B.isinstance) (ba_val (n_isE (i := 0) (v := .ty "ValueError") (cv := .type "ValueError") hC rfl (pe_bltn (v := .ty "ValueError") (by rfl) B.ValueError rfl rfl) (fun _ h => h) k12 B.isinstance) ba_nil)))))))
      (ss_one (s_ret (e_join (e_lcRH (own := [("k", 3)]) hot sc_law_kinds.nd B.range (pe_en n_int) (blkOk_by (own := [("k", 3)]) (N := ["e", "some", "words", "k"]) (sc := defScope s_law_kinds) (by decide +kernel)) (fun _ _ _ _ _ _ => pg_name (i := 3) sc_law_kinds.nd rfl (Or.inl rfl)) (fun _ _ _ _ _ _ => tt_one (fun ar _ => (t_val (pe_en (nIx (pe_bp (pp_var 1)) (pe_bp (pp_var 3)) (fun _ _ => rfl)))))) (fun _ _ _ _ _ _ => ee_all (fun ar _ => (pe_en (nIx (pe_bp (pp_var 2)) (pe_bp (pp_var 3)) (fun _ _ => rfl)))))))))))))))
theorem ok_law_next {f : Addr} {fd : FuncData} (F : Fun K "_law_next" "_law_next" s_law_next f fd) (B : Bi mg) : FnOk P w K mg base (L2N.CX P w) 1 f fd ["places", "marks", "at", "some"] (spO (gx K cl okc) 4 m_law_next) := by
  refine fn_okO [1, 2] (Γ := gx K cl okc) (k := 0) F sc_law_next fun cdv A outer s H E ar hr hL0 => ?_
  have tk : L2N.Takes (cxOf (L2N.CX P w) P w (gx K cl okc).K mg base ["places", "marks", "at", "some", "one"] "_law_next" (defScope s_law_next) f cdv A outer s H E) (fun cls d _ H => E cls d H) := L2N.takes_of rfl rfl rfl rfl
  have po : PassesOwn (model P w) (cxOf (L2N.CX P w) P w (gx K cl okc).K mg base ["places", "marks", "at", "some", "one"] "_law_next" (defScope s_law_next) f cdv A outer s H E).A (cxOf (L2N.CX P w) P w (gx K cl okc).K mg base ["places", "marks", "at", "some", "one"] "_law_next" (defScope s_law_next) f cdv A outer s H E).env (cxOf (L2N.CX P w) P w (gx K cl okc).K mg base ["places", "marks", "at", "some", "one"] "_law_next" (defScope s_law_next) f cdv A outer s H E).xe := passes_of rfl
  have hL : Loc' [1, 2, 4] ar := fun j hj => hL0 j (by revert j; decide)
  unfold b_law_next
  exact (ss_cons (s_if (t_cmpN (op_eqD hr.units) eqT_ok (pe_bp (pp_var 3)) (pe_bn (n_lst ba_nil)) (nomark _)) (ss_one (s_ret (e_lst (a_val (pe_en n_non) (a_val (pe_evar 2) (a_val (pe_evar 1) a_nil)))))) ss_nil)
      (ss_cons (s_while po (L2.PW.pt (w_or (t_cmpN (op_notInA (hu65 hr)) notInA_ok (b_ix (hu1 hr) (pe_bp (pp_var 0)) (pe_bp (pp_var 2)) (fun _ _ => rfl)) (pe_bp (pp_var 3)) (by rfl)) (w_one_or (t_cmpN (op_inA (hu65 hr)) inA_ok (b_ix (hu1 hr) (pe_bp (pp_var 0)) (pe_bp (pp_var 2)) (fun _ _ => rfl)) (pe_bp (pp_var 1)) (by rfl))))) (ss_cons (s_lcN (own := [("one", 4)]) 1 (hL _ (by decide)) rfl sc_law_next.nd (sw_true rfl rfl rfl (by decide +kernel)) (fun ar h => tgwN (j := 4) (by decide) (h 4 (by decide))) (pe_bp (pp_var 1)) (blkOk_by (own := [("one", 4)]) (N := ["places", "marks", "at", "some", "one"]) (sc := defScope s_law_next) (by decide +kernel)) (fun _ _ _ _ _ => (pg_name (i := 4) sc_law_next.nd rfl (Or.inl rfl))) (fun _ _ _ _ _ => tb_one (fun ar _ => (L2.PW.pt (wb_or (tb_cmp (op_neD hr.units) neT_ok (pe_bp (pp_var 4)) (b_ix (hu1 hr) (pe_bp (pp_var 0)) (pe_bp (pp_var 2)) (fun _ _ => rfl)) (nomark _)) (wb_one_or (tb_cmp (op_notInA (hu65 hr)) notInA_ok (pe_bp (pp_var 4)) (pe_bp (pp_var 3)) (by rfl))))))) (fun _ _ _ _ _ => en_all (fun ar _ => (pe_nb (pe_bp (pp_var 4))))))
      (ss_one (s_set 2 (hL _ (by decide)) sc_law_next.nd (pe_en (nOp op_mod modT_ok (pe_bn (nOp op_addA addA_ok (pe_bp (pp_var 2)) (pe_bn n_int))) (pe_bn (n_len B.len (pe_bp (pp_var 0))))))))))
      (ss_one (s_ret (e_lst (a_val (pe_en (pe_nb (b_ix (hu1 hr) (pe_bp (pp_var 0)) (pe_bp (pp_var 2)) (fun _ _ => rfl)))) (a_val (pe_en (nOp op_mod modT_ok (pe_bn (nOp op_addA addA_ok (pe_bp (pp_var 2)) (pe_bn n_int))) (pe_bn (n_len B.len (pe_bp (pp_var 0)))))) (a_val (pe_evar 1) a_nil))))))))
theorem ok_law_some {f : Addr} {fd : FuncData} (F : Fun K "_law_some" "_law_some" s_law_some f fd) (B : Bi mg) (D_law_take : DefOk P w (gx K cl okc) mg base 1 "_law_take" 2 m_law_take) : FnOk P w K mg base (L2N.CX P w) 2 f fd ["bag", "places"] (spT (gx K cl okc) 2 m_law_some) := by
  refine fn_okT (Γ := gx K cl okc) (k := 1) F sc_law_some fun cdv A outer s H E ar hr hL0 => ?_
  have tk : L2N.Takes (cxOf (L2N.CX P w) P w (gx K cl okc).K mg base ["bag", "places", "many", "way", "space", "some", "place"] "_law_some" (defScope s_law_some) f cdv A outer s H E) (fun cls d _ H => E cls d H) := L2N.takes_of rfl rfl rfl rfl
  have po : PassesOwn (model P w) (cxOf (L2N.CX P w) P w (gx K cl okc).K mg base ["bag", "places", "many", "way", "space", "some", "place"] "_law_some" (defScope s_law_some) f cdv A outer s H E).A (cxOf (L2N.CX P w) P w (gx K cl okc).K mg base ["bag", "places", "many", "way", "space", "some", "place"] "_law_some" (defScope s_law_some) f cdv A outer s H E).env (cxOf (L2N.CX P w) P w (gx K cl okc).K mg base ["bag", "places", "many", "way", "space", "some", "place"] "_law_some" (defScope s_law_some) f cdv A outer s H E).xe := passes_of rfl
  have hL : Loc' [2, 3, 4, 5, 6] ar := fun j hj => hL0 j (by revert j; decide)
  unfold b_law_some
  exact (ss_cons (s_set 2 (hL _ (by decide)) sc_law_some.nd (pe_en (n_len B.len (pe_bp (pp_var 1)))))
      (ss_cons (s_set 3 (hL _ (by decide)) sc_law_some.nd (e_call D_law_take (hr.mono (by decide)) tk (a_ref 0 (a_val (pe_en n_int) a_nil))))
      (ss_cons (s_set 4 (hL _ (by decide)) sc_law_some.nd (eIxEB (hu1 hr) (eIxVE 1 (e_call D_law_take (hr.mono (by decide)) tk (a_ref 0 (a_ref 2 a_nil))) (fun _ _ => rfl)) (pe_bn n_int) (fun _ _ => rfl)))
      (ss_cons (s_if (t_cmpN (op_eqD hr.units) eqT_ok (pe_bp (pp_var 3)) (pe_bn n_int) (nomark _)) (ss_one (s_ret (e_lst a_nil))) ss_nil)
      (ss_cons (s_if (t_cmpN (op_eqD hr.units) eqT_ok (pe_bp (pp_var 3)) (pe_bn n_int) (nomark _)) (ss_one (s_ret (pe_en (n_lc (own := [("place", 6)]) rfl sc_law_some.nd (fun ar h => tgwN (j := 6) (by decide) (h 6 (by decide))) (pe_bp (pp_var 1)) (blkOk_by (own := [("place", 6)]) (N := ["bag", "places", "many", "way", "space", "some", "place"]) (sc := defScope s_law_some) (by decide +kernel)) (fun _ _ _ _ _ => (pg_name (i := 6) sc_law_some.nd rfl (Or.inl rfl))) (fun _ _ _ _ _ => tb_one (fun ar _ => (tb_cmp (op_eqD hr.units) eqT_ok (b_ix (hu1 hr) (pe_bp (pp_var 6)) (pe_bn n_int) (fun _ _ => rfl)) (pe_bp (pp_var 4)) (nomark _)))) (fun _ _ _ _ _ => en_all (fun ar _ => (pe_nb (pe_bp (pp_var 6))))))))) ss_nil)
      (ss_cons (s_set 5 (hL _ (by decide)) sc_law_some.nd (e_lcP (own := [("place", 6)]) 1 rfl sc_law_some.nd (pp_var 1) (blkOk_by (own := [("place", 6)]) (N := ["bag", "places", "many", "way", "space", "some", "place"]) (sc := defScope s_law_some) (by decide +kernel)) (fun _ _ _ _ _ => pg_name (i := 6) sc_law_some.nd rfl (Or.inl rfl)) (fun _ _ _ _ _ => tt_one (fun ar _ => (t_cmpEB (op_eqD hr.units) eqT_ok (e_call D_law_take (hr.mono (by decide)) takesN0 (a_ref 0 (a_val (pe_en (pe_nb (b_ix (hu1 hr) (pe_bn (n_lst (ba_val n_int (ba_val n_int (ba_val n_int (ba_val n_int ba_nil)))))) (pe_bn (nOp op_sub subT_ok (pe_bp (pp_var 3)) (pe_bn n_int))) (fun _ _ => rfl)))) a_nil))) (pe_bn n_int) (nomark _)))) (fun _ _ _ _ _ => ee_all (fun ar _ => (pe_evar 6)))))
      (ss_cons (s_if (t_cmpN op_gt gtT_ok (pe_bp (pp_var 3)) (pe_bn n_int) (nomark _)) (ss_one (s_set 5 (hL _ (by decide)) sc_law_some.nd (pe_en (n_lc (own := [("place", 6)]) rfl sc_law_some.nd (fun ar h => tgwN (j := 6) (by decide) (h 6 (by decide))) (pe_bp (pp_var 1)) (blkOk_by (own := [("place", 6)]) (N := ["bag", "places", "many", "way", "space", "some", "place"]) (sc := defScope s_law_some) (by decide +kernel)) (fun _ _ _ _ _ => (pg_name (i := 6) sc_law_some.nd rfl (Or.inl rfl))) (fun _ _ _ _ _ => tb_one (fun ar _ => (tb_cmp (op_notInA (hu65 hr)) notInA_ok (pe_bp (pp_var 6)) (pe_bp (pp_var 5)) (by rfl)))) (fun _ _ _ _ _ => en_all (fun ar _ => (pe_nb (pe_bp (pp_var 6))))))))) ss_nil)
      (ss_one (s_ret (pe_evar 5))))))))))
theorem ok_law_marked {f : Addr} {fd : FuncData} (F : Fun K "_law_marked" "_law_marked" s_law_marked f fd) (B : Bi mg) (KD : KindsOk P w (gx K cl okc) mg base 1 "_law_kinds" "CallError" kn) (D_law_take : DefOk P w (gx K cl okc) mg base 1 "_law_take" 2 m_law_take) (D_Ring_mark : MethOk P w (gx K cl okc) mg base 3 1 "mark" 3 m_Ring_mark) : FnOk P w K mg base (L2N.CX P w) 4 f fd ["bag", "ring", "spaces", "pages", "marks"] (spT (gx K cl okc) 5 m_law_marked) := by
  refine fn_okT (Γ := gx K cl okc) (k := 3) F sc_law_marked fun cdv A outer s H E ar hr hL0 => ?_
  have tk : L2N.Takes (cxOf (L2N.CX P w) P w (gx K cl okc).K mg base ["bag", "ring", "spaces", "pages", "marks", "space", "page", "kind", "told", "e"] "_law_marked" (defScope s_law_marked) f cdv A outer s H E) (fun cls d _ H => E cls d H) := L2N.takes_of rfl rfl rfl rfl
  have po : PassesOwn (model P w) (cxOf (L2N.CX P w) P w (gx K cl okc).K mg base ["bag", "ring", "spaces", "pages", "marks", "space", "page", "kind", "told", "e"] "_law_marked" (defScope s_law_marked) f cdv A outer s H E).A (cxOf (L2N.CX P w) P w (gx K cl okc).K mg base ["bag", "ring", "spaces", "pages", "marks", "space", "page", "kind", "told", "e"] "_law_marked" (defScope s_law_marked) f cdv A outer s H E).env (cxOf (L2N.CX P w) P w (gx K cl okc).K mg base ["bag", "ring", "spaces", "pages", "marks", "space", "page", "kind", "told", "e"] "_law_marked" (defScope s_law_marked) f cdv A outer s H E).xe := passes_of rfl
  have hL : Loc' [5, 6, 7, 8, 9] ar := fun j hj => hL0 j (by revert j; decide)
  unfold b_law_marked
  exact (ss_cons (s_set 5 (hL _ (by decide)) sc_law_marked.nd (e_call D_law_take (hr.mono (by decide)) tk (a_ref 0 (a_ref 2 a_nil))))
      (ss_cons (s_set 6 (hL _ (by decide)) sc_law_marked.nd (e_call D_law_take (hr.mono (by decide)) tk (a_ref 0 (a_ref 3 a_nil))))
      (ss_cons (s_if (t_cmpEB (op_eqD hr.units) eqT_ok (e_call D_law_take (hr.mono (by decide)) tk (a_ref 0 (a_val (pe_en n_int) a_nil))) (pe_bn n_int) (nomark _)) (ss_cons (s_set 5 (hL _ (by decide)) sc_law_marked.nd (eIxA (hu1 hr) (e_lst (a_val (pe_evar 5) (a_val (pe_evar 2) (a_val (pe_en (n_neg (pe_bn n_int))) a_nil)))) (e_call D_law_take (hr.mono (by decide)) tk (a_ref 0 (a_val (pe_en n_int) a_nil))) (fun _ _ => rfl)))
      (ss_one (s_set 6 (hL _ (by decide)) sc_law_marked.nd (eIxA (hu1 hr) (e_lst (a_val (pe_evar 6) (a_val (pe_evar 3) (a_val (pe_en (n_neg (pe_bn n_int))) (a_val (pe_en (nOp op_pow powT_ok (pe_bn n_int) (pe_bn n_int))) a_nil))))) (e_call D_law_take (hr.mono (by decide)) tk (a_ref 0 (a_val (pe_en n_int) a_nil))) (fun _ _ => rfl))))) ss_nil)
      (ss_cons (s_set 7 (hL _ (by decide)) sc_law_marked.nd (pe_en n_str))
      (ss_cons (s_set 8 (hL _ (by decide)) sc_law_marked.nd (pe_en n_non))
      (ss_cons (s_tryK KD (hr.mono (by decide)) tk (hL 9 (by decide)) (hL 7 (by decide)) sc_law_marked.nd (fun W pn xe tk po => (ss_one (s_set 8 (hL _ (by decide)) sc_law_marked.nd (e_meth 1 D_Ring_mark (hr.mono (by decide)) tk (a_ref 5 (a_ref 6 a_nil)))))))
      (ss_cons (s_if (L2.PW.pt (w_or (t_cmpN op_lt ltT_ok (pe_bp (pp_var 5)) (pe_bn n_int) (nomark _)) (w_one_or (t_cmpN op_ge geT_ok (pe_bp (pp_var 5)) (pe_bp (pp_var 2)) (nomark _))))) (ss_one (s_ret (pe_en (nCmp (op_eqD hr.units) eqT_ok (pe_bp (pp_var 7)) (pe_bn n_str) (nomark _))))) ss_nil)
      (ss_cons (s_if (L2.PW.pt (w_or (t_cmpN op_lt ltT_ok (pe_bp (pp_var 6)) (pe_bn n_int) (nomark _)) (w_one_or (t_cmpN op_ge geT_ok (pe_bp (pp_var 6)) (pe_bp (pp_var 3)) (nomark _))))) (ss_one (s_ret (pe_en (nCmp (op_eqD hr.units) eqT_ok (pe_bp (pp_var 7)) (pe_bn n_str) (nomark _))))) ss_nil)
      (ss_cons (s_if (t_cmpN (op_notInA (hu65 hr)) notInA_ok (pe_bn (n_tup (ba_ref 5 (ba_ref 6 ba_nil)))) (pe_bp (pp_var 4)) (by rfl)) (ss_one (s_expr (e_lmV 4 appM_ok PySem.F.slot_list_append PySem.F.type_list_append mt_append (a_val (pe_en (n_tup (ba_ref 5 (ba_ref 6 ba_nil)))) a_nil)))) ss_nil)
      (ss_one (s_ret (pe_en (pe_nb (b_and (pe_bn (nCmp (op_eqD hr.units) eqT_ok (pe_bp (pp_var 7)) (pe_bn n_str) (nomark _))) (pe_one (pe_bn (nCmp op_isA isA_ok (pe_bp (pp_var 8)) (pe_bn n_non) (nomark _))))))))))))))))))
theorem ok_law_stands {f : Addr} {fd : FuncData} (F : Fun K "_law_stands" "_law_stands" s_law_stands f fd) (B : Bi mg) (D_Ring_marked : MethOk P w (gx K cl okc) mg base 1 1 "marked" 1 m_Ring_marked) (D_Ring_needle : MethOk P w (gx K cl okc) mg base 1 1 "needle" 1 m_Ring_needle) : FnOk P w K mg base (L2N.CX P w) 2 f fd ["ring", "places", "at", "marks"] (spT (gx K cl okc) 4 m_law_stands) := by
  refine fn_okT (Γ := gx K cl okc) (k := 1) F sc_law_stands fun cdv A outer s H E ar hr hL0 => ?_
  have tk : L2N.Takes (cxOf (L2N.CX P w) P w (gx K cl okc).K mg base ["ring", "places", "at", "marks", "found"] "_law_stands" (defScope s_law_stands) f cdv A outer s H E) (fun cls d _ H => E cls d H) := L2N.takes_of rfl rfl rfl rfl
  have po : PassesOwn (model P w) (cxOf (L2N.CX P w) P w (gx K cl okc).K mg base ["ring", "places", "at", "marks", "found"] "_law_stands" (defScope s_law_stands) f cdv A outer s H E).A (cxOf (L2N.CX P w) P w (gx K cl okc).K mg base ["ring", "places", "at", "marks", "found"] "_law_stands" (defScope s_law_stands) f cdv A outer s H E).env (cxOf (L2N.CX P w) P w (gx K cl okc).K mg base ["ring", "places", "at", "marks", "found"] "_law_stands" (defScope s_law_stands) f cdv A outer s H E).xe := passes_of rfl
  have hL : Loc' [4] ar := fun j hj => hL0 j (by revert j; decide)
  unfold b_law_stands
  exact (ss_cons (s_set 4 (hL _ (by decide)) sc_law_stands.nd (e_methP0 D_Ring_marked (hr.mono (by decide)) tk (pp_var 0)))
      (ss_cons (s_if (L2.PW.pt (w_or (t_not (t_val (pe_en (n_isi (n := "list") (by decide) B.isinstance B.list (by decide +kernel) (pe_bp (pp_var 4)))))) (w_or (t_cmpN (op_neD hr.units) neT_ok (pe_bp (pp_var 4)) (pe_bn (n_sorted rfl B.sorted (pe_bp (pp_var 3)))) (nomark _)) (w_one_or (t_cmpEB (op_neD hr.units) neT_ok (e_methP0 D_Ring_needle (hr.mono (by decide)) tk (pp_var 0)) (b_ix (hu1 hr) (pe_bp (pp_var 1)) (pe_bp (pp_var 2)) (fun _ _ => rfl)) (nomark _)))))) (ss_one (s_ret (pe_en n_bl))) ss_nil)
      (ss_cons (s_expr (e_lmV 4 appM_ok PySem.F.slot_list_append PySem.F.type_list_append mt_append (a_val (pe_en (n_tup (ba_val n_int (ba_val n_int ba_nil)))) a_nil)))
      (ss_one (s_ret (eCmpEB (op_eqD hr.units) eqT_ok (e_methP0 D_Ring_marked (hr.mono (by decide)) tk (pp_var 0)) (pe_bn (n_sorted rfl B.sorted (pe_bp (pp_var 3)))) (nomark _)))))))
theorem ok_law {f : Addr} {fd : FuncData} (F : Fun K "law" "law" s_law f fd) (B : Bi mg) (D_law_bag : DefOk P w (gx K cl okc) mg base 1 "_law_bag" 2 m_law_bag) (D_law_take : DefOk P w (gx K cl okc) mg base 1 "_law_take" 2 m_law_take) (K_Ring : MakeOk P w (gx K cl okc) mg base 3 1 "Ring" 3 m_Ring___init) (D_Ring_mark : MethOk P w (gx K cl okc) mg base 3 1 "mark" 3 m_Ring_mark) (D_law_marked : DefOk P w (gx K cl okc) mg base 4 "_law_marked" 5 m_law_marked) (D_law_some : DefOk P w (gx K cl okc) mg base 2 "_law_some" 2 m_law_some) (D_law_next : DefOkO P w (gx K cl okc) mg base 1 "_law_next" 4 m_law_next) (D_Ring_next_of : MethOk P w (gx K cl okc) mg base 1 1 "next_of" 2 m_Ring_next_of) (D_law_stands : DefOk P w (gx K cl okc) mg base 2 "_law_stands" 4 m_law_stands) : FnOk P w K mg base (L2N.CX P w) 5 f fd ["script"] (spT (gx K cl okc) 1 m_law) := by
  refine fn_okT (Γ := gx K cl okc) (k := 4) F sc_law fun cdv A outer s H E ar hr hL0 => ?_
  have tk : L2N.Takes (cxOf (L2N.CX P w) P w (gx K cl okc).K mg base ["script", "first", "spaces", "pages", "ring", "places", "marks", "at", "place", "k", "bag", "turn", "some", "handed", "due"] "law" (defScope s_law) f cdv A outer s H E) (fun cls d _ H => E cls d H) := L2N.takes_of rfl rfl rfl rfl
  have po : PassesOwn (model P w) (cxOf (L2N.CX P w) P w (gx K cl okc).K mg base ["script", "first", "spaces", "pages", "ring", "places", "marks", "at", "place", "k", "bag", "turn", "some", "handed", "due"] "law" (defScope s_law) f cdv A outer s H E).A (cxOf (L2N.CX P w) P w (gx K cl okc).K mg base ["script", "first", "spaces", "pages", "ring", "places", "marks", "at", "place", "k", "bag", "turn", "some", "handed", "due"] "law" (defScope s_law) f cdv A outer s H E).env (cxOf (L2N.CX P w) P w (gx K cl okc).K mg base ["script", "first", "spaces", "pages", "ring", "places", "marks", "at", "place", "k", "bag", "turn", "some", "handed", "due"] "law" (defScope s_law) f cdv A outer s H E).xe := passes_of rfl
  have hL : Loc' [1, 2, 3, 4, 5, 6, 7, 8, 9, 10, 11, 12, 13, 14] ar := fun j hj => hL0 j (by revert j; decide)
  unfold b_law
  exact (ss_cons (s_set 1 (hL _ (by decide)) sc_law.nd (e_call D_law_bag (hr.mono (by decide)) tk (a_ref 0 (a_val (pe_en n_int) a_nil))))
      (ss_cons (s_set 2 (hL _ (by decide)) sc_law.nd (eOp' op_addA addA_ok (pe_en n_int) (e_call D_law_take (hr.mono (by decide)) tk (a_ref 1 (a_val (pe_en n_int) a_nil)))))
      (ss_cons (s_set 3 (hL _ (by decide)) sc_law.nd (eOp' op_addA addA_ok (pe_en n_int) (e_call D_law_take (hr.mono (by decide)) tk (a_ref 1 (a_val (eIxA (hu1 hr) (e_lst (a_val (pe_en n_int) (a_val (pe_en n_int) a_nil))) (e_call D_law_take (hr.mono (by decide)) tk (a_ref 1 (a_val (pe_en n_int) a_nil))) (fun _ _ => rfl)) a_nil)))))
      (ss_cons (s_set 4 (hL _ (by decide)) sc_law.nd (e_make K_Ring (hr.mono (by decide)) (a_ref 2 (a_ref 3 a_nil))))
      (ss_cons (s_lcRN (own := [("k", 9)]) 5 (hL _ (by decide)) rfl sc_law.nd B.range (sw_true rfl rfl rfl (by decide +kernel)) (fun ar h => tgwN (j := 9) (by decide) (h 9 (by decide))) (pe_bn (nOp op_mulT mulT_ok (pe_bp (pp_var 2)) (pe_bp (pp_var 3)))) (blkOk_by (own := [("k", 9)]) (N := ["script", "first", "spaces", "pages", "ring", "places", "marks", "at", "place", "k", "bag", "turn", "some", "handed", "due"]) (sc := defScope s_law) (by decide +kernel)) (fun _ _ _ _ _ => (pg_name (i := 9) sc_law.nd rfl (Or.inl rfl))) (fun _ _ _ _ _ => tb_nil) (fun _ _ _ _ _ => en_all (fun ar _ => (n_tup (ba_val (nOp op_fdiv fdivT_ok (pe_bp (pp_var 9)) (pe_bp (pp_var 3))) (ba_val (nOp op_mod modT_ok (pe_bp (pp_var 9)) (pe_bp (pp_var 3))) ba_nil))))))
      (ss_cons (s_set 6 (hL _ (by decide)) sc_law.nd (e_lst a_nil))
      (ss_cons (s_set 7 (hL _ (by decide)) sc_law.nd (pe_en n_int))
      (ss_cons (s_if (t_cmpEB (op_eqD hr.units) eqT_ok (e_call D_law_take (hr.mono (by decide)) tk (a_ref 1 (a_val (pe_en n_int) a_nil))) (pe_bn n_int) (nomark _)) (ss_one (s_lcP (own := [("place", 8)]) 6 5 (hL _ (by decide)) rfl sc_law.nd (sw_true rfl rfl rfl (by decide +kernel)) (pp_var 5) (blkOk_by (own := [("place", 8)]) (N := ["script", "first", "spaces", "pages", "ring", "places", "marks", "at", "place", "k", "bag", "turn", "some", "handed", "due"]) (sc := defScope s_law) (by decide +kernel)) (fun _ _ _ _ _ => pg_name (i := 8) sc_law.nd rfl (Or.inl rfl)) (fun _ _ _ _ _ => tt_one (fun ar _ => (t_cmpEB op_gt gtT_ok (e_call D_law_take (hr.mono (by decide)) takesN0 (a_ref 1 (a_val (pe_en n_int) a_nil))) (pe_bn n_int) (nomark _)))) (fun _ _ _ _ _ => ee_all (fun ar _ => (pe_evar 8))))) ss_nil)
      (ss_cons (s_forP 6 [1, 2, 3, 4, 5, 7, 8, 9, 10, 11, 12, 13, 14] po rfl hL (pp_var 6) (fun ar hL => tgN_ok (hL _ (by decide))) (pg_name (i := 8) sc_law.nd rfl (Or.inl rfl)) (fun ar hL => (ss_one (s_expr (e_meth 4 D_Ring_mark (hr.mono (by decide)) tk (a_val (pe_en (pe_nb (b_ix (hu1 hr) (pe_bp (pp_var 8)) (pe_bn n_int) (fun _ _ => rfl)))) (a_val (pe_en (pe_nb (b_ix (hu1 hr) (pe_bp (pp_var 8)) (pe_bn n_int) (fun _ _ => rfl)))) a_nil)))))))
      (ss_cons (s_forR po rfl (tgN_ok (hL _ (by decide))) B.range (pe_en (nOp op_addA addA_ok (pe_bn (n_min rfl B.min (pe_bn (n_len B.len (pe_bp (pp_var 0)))) (pe_bn n_int))) (pe_bn n_int))) (pg_name (i := 9) sc_law.nd rfl (Or.inl rfl)) (ss_cons (s_set 10 (hL _ (by decide)) sc_law.nd (e_call D_law_bag (hr.mono (by decide)) tk (a_ref 0 (a_ref 9 a_nil))))
      (ss_one (s_forR po rfl (tgN_ok (hL _ (by decide))) B.range (eOp' op_addA addA_ok (pe_en n_int) (e_call D_law_take (hr.mono (by decide)) tk (a_ref 10 (a_val (pe_en n_int) a_nil)))) (pg_name (i := 11) sc_law.nd rfl (Or.inl rfl)) (ss_cons (s_if (t_cmpEB (op_eqD hr.units) eqT_ok (e_call D_law_take (hr.mono (by decide)) tk (a_ref 10 (a_val (pe_en n_int) a_nil))) (pe_bn n_int) (nomark _)) (ss_one (s_if (t_not (t_val (e_call D_law_marked (hr.mono (by decide)) tk (a_ref 10 (a_ref 4 (a_ref 2 (a_ref 3 (a_ref 6 a_nil)))))))) (ss_one (s_ret (pe_en n_bl))) ss_nil)) (ss_cons (s_set 12 (hL _ (by decide)) sc_law.nd (e_call D_law_some (hr.mono (by decide)) tk (a_ref 10 (a_ref 5 a_nil))))
      (ss_cons (s_set 13 (hL _ (by decide)) sc_law.nd (pe_en (n_list B.list (pe_bp (pp_var 12)))))
      (ss_cons (s_unpM (is := [14, 7, 6]) (fun j hj => hL j (by revert j; decide)) (pg_tl rfl (pgs_cons (pg_name (i := 14) sc_law.nd rfl (Or.inl rfl)) (pgs_cons (pg_name (i := 7) sc_law.nd rfl (Or.inl rfl)) (pgs_cons (pg_name (i := 6) sc_law.nd rfl (Or.inl rfl)) pgs_nil)))) (e_callO D_law_next (hr.mono (by decide)) tk (a_ref 5 (a_val (pe_evar 6) (a_val (pe_evar 7) (a_ref 12 a_nil))))))
      (ss_one (s_if (L2.PW.pt (w_or (t_cmpEB (op_neD hr.units) neT_ok (e_meth 4 D_Ring_next_of (hr.mono (by decide)) tk (a_ref 13 a_nil)) (pe_bp (pp_var 14)) (nomark _)) (w_one_or (t_cmpN (op_neD hr.units) neT_ok (pe_bp (pp_var 13)) (pe_bp (pp_var 12)) (nomark _))))) (ss_one (s_ret (pe_en n_bl))) ss_nil))))))
      (ss_one (s_if (t_not (t_val (e_call D_law_stands (hr.mono (by decide)) tk (a_ref 4 (a_ref 5 (a_ref 7 (a_ref 6 a_nil))))))) (ss_one (s_ret (pe_en n_bl))) ss_nil)))))))
      (ss_one (s_ret (pe_en n_bl)))))))))))))
end
end K28

namespace K28
open PySem L2 VT
def tkA (a n : Int) : Int := if a > 0 then a / n else a
def tkS (a s : Int) : Int := if a > 0 then s else s * 48271 % 2147483647
def tkR (a s n : Int) : Int := if a > 0 then a % n else (tkS a s / 13 * (tkS a s % 32749 + 17) % 2147483629 / 32) % n
abbrev bagT (a s : Int) : T := .nd .lst [.int a, .int s]
abbrev liT (l : List Int) : T := .nd .lst (l.map .int)
theorem tkR_lt (a s n : Int) (h0 : 0 < n) : 0 ≤ tkR a s n ∧ tkR a s n < n := by
  unfold tkR
  split
  · exact ⟨Int.emod_nonneg _ (by omega), Int.emod_lt_of_pos _ h0⟩
  · exact ⟨Int.emod_nonneg _ (by omega), Int.emod_lt_of_pos _ h0⟩
theorem rg_len {n : Int} : (rgT n).length = n.toNat := by rw [rgT_ints, List.length_map, rgI_length]
def two (x y r : Int) : Int := if r = 0 then x else y
theorem ix2 {x y a s : Int} : ixA (.nd .lst [.int x, .int y]) (.int (tkR a s 2)) = some (.int (two x y (tkR a s 2))) := by
  have := tkR_lt a s 2 (by decide)
  have h : tkR a s 2 = 0 ∨ tkR a s 2 = 1 := by omega
  rcases h with h | h
  · rw [h]; rfl
  · rw [h]; rfl
theorem two_le (x y r lo hi : Int) (h1 : lo ≤ x) (h2 : x ≤ hi) (h3 : lo ≤ y) (h4 : y ≤ hi) : lo ≤ two x y r ∧ two x y r ≤ hi := by
  unfold two
  split <;> omega
def three (x y z r : Int) : Int := if r = 0 then x else if r = 1 then y else z
theorem ix3 {x y z a s : Int} : ixA (.nd .lst [.int x, .int y, .int z]) (.int (tkR a s 3)) = some (.int (three x y z (tkR a s 3))) := by
  have := tkR_lt a s 3 (by decide)
  have h : tkR a s 3 = 0 ∨ tkR a s 3 = 1 ∨ tkR a s 3 = 2 := by omega
  rcases h with h | h | h
  · rw [h]; rfl
  · rw [h]; rfl
  · rw [h]; rfl
theorem three_le (x y z r lo hi : Int) (h1 : lo ≤ x) (h2 : x ≤ hi) (h3 : lo ≤ y) (h4 : y ≤ hi) (h5 : lo ≤ z) (h6 : z ≤ hi) : lo ≤ three x y z r ∧ three x y z r ≤ hi := by
  unfold three
  split
  · omega
  · split <;> omega
theorem eqT_bb {a b : Bool} : eqT (.bl a) (.bl b) = some (.bl (a == b)) := by cases a <;> cases b <;> rfl
theorem neT_bb {a b : Bool} : neT (.bl a) (.bl b) = some (.bl (!(a == b))) := by cases a <;> cases b <;> rfl
theorem pl_s {d : Nat} {z : Str} (h : PyData.strOk z = true) : plT d (.str z) = true := by cases d <;> exact h
theorem pl_i {d : Nat} {i : Int} : plT d (.int i) = true := by cases d <;> rfl
theorem pl_o {d : Nat} : plT d .non = true := by cases d <;> rfl
theorem im_ints' (l : List Int) : T.imAll (l.map T.int) = true := im_ints l
theorem nc0 : ((0 : Nat) : Int) = 0 := rfl
theorem nc1 : ((1 : Nat) : Int) = 1 := rfl
theorem nc2 : ((2 : Nat) : Int) = 2 := rfl
theorem nc3 : ((3 : Nat) : Int) = 3 := rfl
theorem nc4 : ((4 : Nat) : Int) = 4 := rfl
theorem nc5 : ((5 : Nat) : Int) = 5 := rfl
theorem nc6 : ((6 : Nat) : Int) = 6 := rfl
local macro_rules | `(tactic| walk_at "vtd") => `(tactic| first | omega | assumption | (simp only [List.length_set]; omega) | (simp only [plT, plAll, pl_ints, plI, Bool.and_true, Bool.and_self, ofS_ok, dg_ok]; done))
local macro_rules | `(tactic| walk_at "vt") => `(tactic| simp (disch := walk_at "vtd") only [↓eOp_q, kOp1_ok, kOp2_ok, kEn_q, ↓eOpB_q, kOpB_ok, kB1_q, ↓eOpV_q, kOpV0_q, kOpV_ok, kV1_q, ↓eUn_q, kUn_ok, ↓eOfN_q, ↓bOp_q, kBop_q, ↓bUn_q, ↓bOfP_q, kPl_q, kAt_q, tAt_nil, tAt_nd, nC_q, ↓nOfB_q, pVar_q, kPV_q, eVar_q, kVar_q, ↓sSeq_q, kSeq_nx, kSeq_rt, kSeq_ex, kSeq_bk, kSeq_ct, ↓sSet_q, kSet_ok, ↓sRet_q, kRet_ok, ↓sExpr_q, kExpr_ok, sNil_q, ↓sIf_q, kIf_q, ↓eIf_q, kEIf_q, ↓eNot_q, kNot_q, ↓eAnd_q, kAnd_q, ↓eOr_q, kOr_q, aNil_q, ↓aVal_q, kA1_ok, kA2_ok, ↓aRef_q, kAr_q, kAr2_ok, argOf_q, kArg_q, ↓eDisp_q, kD1_ok, kD2_q, valsOf_nil, valsOf_val, kVl_q, ↓eCall_q, kCall_ok, callR_q, kC1_q, kC2_q, argT_nil, argT_val, argT_pth, kAT1_q, kAT2_q, putB_nil, putB_val, tPut_nil, tPut_nd, ↓nTup_q, kNT_q, kNT2_q, baNil_q, ↓baVal_q, kBV_q, kBV2_q, ↓baRef_q, kBR_q, kBR2_q, ↓mBody_q, kBody_q, kBody2_nx, kBody2_rt, kBody2_ex, allS_nil, allS_some, imO_int, imO_str, imO_bl, imO_non, imO_tup, im_int, im_str, im_bl, im_non, im_tup, im_fz, im_lst, im_obj, imAll_nil, imAll_cons, mu_lst, mu_obj, gd_pos, gd_tr, addT_i, subT_i, mulT_i, modT_i, fdivT_i, powT_i, ltT_i, leT_i, gtT_i, geT_i, minT_i, ixT_lst, ixT_fz, ixT_tup, lenT_lst, lenT_fz, lenT_tup, isT_n, isNotT_n, isN_non, isN_int, isN_nd, isN_str, ↓sMut_q, kMu_ok, kM0_q, kM1_q, kM2_q, kM3_q, ↓sSetI_q, kI0_ok, kI1_q, kI2_q, kI3_q, kI4_q, setM_q, kSM_q, ob_some, sl, atI, ixN, ↓pFld_q, kF1_q, kF2_q, kF3_q, kF4_q, ↓pIx_q, kX0_q, kX1_q, kX2_q, kX3_q, ↓eMeth_q, kMe_q, kMe2_q, ↓eMethP_q, kMP_q, kMP1_q, kMP2_q, kMP3_q, putB_q, kPB_q, ↓eMake_q, kMk_q, kMk2_q, kMk3_q, ↓eMutV_q, kLV0_q, kLV_q, kLV1_q, kLV2_q, kLV3_q, isLst_q, ↓eMutP_q, kLP_q, kLP0_q, kLP1_q, kLP2_q, kLP3_q, kLP4_q, appM_q, popM_q, kPop_q, putFM_q, kPF_s, kPF_n, ↓sForR_q, kFR_q, ↓sForE_q, kFE_q, kFE2_q, seqO_lst, seqO_fz, seqO_tup, ↓sForP_q, kFP_q, kFP1_q, kFP2_q, kFP3_q, kFP4_q, eqT_ii, neT_ii, inT_ints, notInT_ints, kL1_q, kL2_nx, kL2_ct, kL2_bk, kL2_rt, runL_nil, runL_cons, tgN_q, lcFrom_q, kLc_q, lcEnd_q, kLcE_q, ↓eLcP_q, kLcP_q, kLcP1_q, kLcP2_q, kLcP3_q, kLP5_q, wipeS_nil, wipeS_cons, restS_nil, restS_cons, kRs_n, kRs_s, listT_lst, listT_fz, listT_tup, slT_lst, isi_ii, isi_ib, isi_ll, eqT_pl, neT_pl, kSet_ex, kRet_ex, kExpr_ex, sRaise_q, ↓sTryK_q, kTry_ex, kTry_nx, kTry_rt, kTry2_q, ↓sUnp_q, kUnp_ok, kUnp2_q, tgU_lst, tgU_tup, setAll_n, setAll_c, ↓sAugI_q, kAg0_q, kAg1_q, kAg2_q, kAg3_q, kAg4_q, kAg5_q, augM_ints, ↓sSetVE_q, kSv1_ok, kSv2_q, kSv3_q, kSv4_ints, ↓nLst_q, kNL_q, kNL2_q, ↓eLcR_q, kLR_q, mulT_l, lrgT_q, eqT_ln, neT_ln, rep_ints, get_int, set_int, app_int, teq_int, teq_str, teq_non, teq_tnil, teq_tcons, teq_li, ixA_lst, ixA_fz, ixA_tup, ixA_str, ixB_lst, ixB_fz, ixB_tup, ixB_dK, ixB_dT, kDo_s, dix_Ki, dix_Ks, dix_T, kDt_q, keysT_n, keysT_i, keysT_s, kKc_q, ↓pIxA_q, kX7_q, kX6_q, kX5_q, kX4_lst, kX4_dK, kX4_dT, kX8_s, ↓bGet_q, kBG_q, kBG1_q, kBG2_q, kGD_s, kGD_n, isDi_K, isDi_T, isDi_l, ↓sSetA_q, kSA_ok, kSA_ex, kSA0_q, kSA1_q, kSA2_q, kSA3_q, kSA4_q, setA_l, setA_Ki, setA_Ks, setA_T, kSt_q, nDK_q, nDT_q, mu_dK, mu_dT, im_dK, im_dT, inA_l, inA_t, inA_f, notInA_l, notInA_t, notInA_f, negT_i, ↓bNot_q, kBNot_q, ↓bAnd_q, kBAnd_q, ↓bOr_q, kBOr_q, ↓bIf_q, kBIf_q, bYes_q, lockT_q, lcN_q, kNlc_q, ↓bLc_q, kBL_q, kBLc_q, ↓bLcR_q, kBLR_q, addA_i, addA_s, addA_ll, addA_fl, addA_tt, isA_n, isA_b, isNotA_n, isNotA_b, isB_bl, isB_non, isB_int, isB_str, isB_nd, isN_bl, strT_s, ↓eVarL_q, kVL_q, kVL2_q, addA_lf, beq_tt, beq_tf, beq_ft, beq_ff, ↓eCallO_q, kCallO_ok, callRO_q, kO1_q, kO2_q, pthOk_n, pthOk_v, pthOk_p, ↓mBodyO_q, kBO_q, kBO2_nx, kBO2_rt, kBO2_ex, Option.getD_none, ↓sUnpM_q, kUM_l, kUM_t, kUM_ex, ↓eDmP_q, kDP_q, kDP0_q, kDP1_q, ↓eDmV_q, kDV0_q, ↓sAugF_q, kGF_q, kGF1_q, kGF2_q, kGF3_q, kGF4_q, ↓sWhile_q, List.length_set, beq_self_eq_true, getD_set, and_true, true_and, or_true, true_or, and_self, List.map_cons, List.map_nil, List.eraseIdx_cons_zero, List.length_cons, List.length_nil, List.length_map, List.replicate, List.append_nil, List.cons_append, List.nil_append, List.getElem?_cons_zero, List.getElem?_cons_succ, List.set_cons_zero, List.set_cons_succ, List.getD_cons_zero, List.getD_cons_succ, Option.getD_some, List.take, Nat.reduceSub, Nat.reduceAdd, Nat.reduceEqDiff, if_true, if_false, reduceIte, if_pos, if_neg, Int.toNat_zero, Int.toNat_one, Int.reduceLT, Int.reduceLE, Int.reduceToNat, List.tail_cons, Nat.zero_add, Nat.reduceLeDiff, Nat.reduceLT, Bool.and_true, Bool.true_and, Bool.and_self, Bool.not_true, Bool.not_false, decide_eq_true_eq, decide_true, decide_false, Bool.false_eq_true, im_ints, eqT_bb, neT_bb, rg_len])
theorem take_eq (a s n : Int) (h0 : 0 < n) (h1 : n < 1073741824) : m_law_take [bagT a s, .int n] = some (.ok (.int (tkR a s n)), [bagT (tkA a n) (tkS a s), .int n]) := by
  unfold m_law_take b_law_take bagT
  by_cases h : a > 0
  · walk_at "vt"
    simp [h, h0, h1, tkR, tkA, tkS]
  · walk_at "vt"
    simp [h, h0, h1, tkR, tkA, tkS]
theorem bag_ex (ns : List Int) (k : Int) (h0 : 0 ≤ k) (h1 : k < 1000) : ∃ r : Int × Int, m_law_bag [.nd .fz (ns.map .int), .int k] = some (.ok (bagT r.1 r.2), [.nd .fz (ns.map .int), .int k]) := by
  unfold m_law_bag b_law_bag
  by_cases h : k < (ns.length : Int)
  · by_cases h2 : ns.getD k.toNat 0 % 10 ^ 60 < 10 ^ 18
    · walk_at "vt"
      exact ⟨(_, _), rfl⟩
    · walk_at "vt"
      exact ⟨(_, _), rfl⟩
  · walk_at "vt"
    exact ⟨(_, _), rfl⟩
theorem c0_spaces : (ct 0).contains "spaces" = true := by decide +kernel
theorem i0_spaces : ixOf "spaces" ["spaces", "many", "grid"] = some 0 := by decide +kernel
theorem c0_many : (ct 0).contains "many" = true := by decide +kernel
theorem i0_many : ixOf "many" ["spaces", "many", "grid"] = some 1 := by decide +kernel
theorem c0_grid : (ct 0).contains "grid" = true := by decide +kernel
theorem i0_grid : ixOf "grid" ["spaces", "many", "grid"] = some 2 := by decide +kernel
theorem j0_spaces : ixOf "spaces" [] = none := by decide +kernel
theorem j0_many : ixOf "many" ["spaces"] = none := by decide +kernel
theorem j0_grid : ixOf "grid" ["spaces", "many"] = none := by decide +kernel
theorem io0_look_at_space {ts : List T} : VT.isObj 0 "look_at_space" (.nd (.obj 0 ["spaces", "many", "grid"]) ts) = true := by show (0 == 0 && !(List.contains (["spaces", "many", "grid"] : List Str) "look_at_space")) = true; decide +kernel
theorem io0_look_at_page {ts : List T} : VT.isObj 0 "look_at_page" (.nd (.obj 0 ["spaces", "many", "grid"]) ts) = true := by show (0 == 0 && !(List.contains (["spaces", "many", "grid"] : List Str) "look_at_page")) = true; decide +kernel
theorem io0_leaf {ts : List T} : VT.isObj 0 "leaf" (.nd (.obj 0 ["spaces", "many", "grid"]) ts) = true := by show (0 == 0 && !(List.contains (["spaces", "many", "grid"] : List Str) "leaf")) = true; decide +kernel
theorem io0_put {ts : List T} : VT.isObj 0 "put" (.nd (.obj 0 ["spaces", "many", "grid"]) ts) = true := by show (0 == 0 && !(List.contains (["spaces", "many", "grid"] : List Str) "put")) = true; decide +kernel
theorem c1_bounds : (ct 1).contains "bounds" = true := by decide +kernel
theorem i1_bounds : ixOf "bounds" ["bounds", "order", "marks", "at"] = some 0 := by decide +kernel
theorem c1_order : (ct 1).contains "order" = true := by decide +kernel
theorem i1_order : ixOf "order" ["bounds", "order", "marks", "at"] = some 1 := by decide +kernel
theorem c1_marks : (ct 1).contains "marks" = true := by decide +kernel
theorem i1_marks : ixOf "marks" ["bounds", "order", "marks", "at"] = some 2 := by decide +kernel
theorem c1_at : (ct 1).contains "at" = true := by decide +kernel
theorem i1_at : ixOf "at" ["bounds", "order", "marks", "at"] = some 3 := by decide +kernel
theorem j1_bounds : ixOf "bounds" [] = none := by decide +kernel
theorem j1_order : ixOf "order" ["bounds"] = none := by decide +kernel
theorem j1_marks : ixOf "marks" ["bounds", "order"] = none := by decide +kernel
theorem j1_at : ixOf "at" ["bounds", "order", "marks"] = none := by decide +kernel
theorem io1_mark {ts : List T} : VT.isObj 1 "mark" (.nd (.obj 1 ["bounds", "order", "marks", "at"]) ts) = true := by show (1 == 1 && !(List.contains (["bounds", "order", "marks", "at"] : List Str) "mark")) = true; decide +kernel
theorem io1_marked {ts : List T} : VT.isObj 1 "marked" (.nd (.obj 1 ["bounds", "order", "marks", "at"]) ts) = true := by show (1 == 1 && !(List.contains (["bounds", "order", "marks", "at"] : List Str) "marked")) = true; decide +kernel
theorem io1_needle {ts : List T} : VT.isObj 1 "needle" (.nd (.obj 1 ["bounds", "order", "marks", "at"]) ts) = true := by show (1 == 1 && !(List.contains (["bounds", "order", "marks", "at"] : List Str) "needle")) = true; decide +kernel
theorem io1_next_of {ts : List T} : VT.isObj 1 "next_of" (.nd (.obj 1 ["bounds", "order", "marks", "at"]) ts) = true := by show (1 == 1 && !(List.contains (["bounds", "order", "marks", "at"] : List Str) "next_of")) = true; decide +kernel
theorem kn3 : kn 3 = some (Str.ofString "NoSpace+") := rfl
theorem kn4 : kn 4 = some (Str.ofString "NoPage+") := rfl
abbrev Pl := Int × Int
abbrev plsT (l : List Pl) : T := .nd .lst (l.map pairT)
def mkT (ms : List Pl) : T := .nd (.dT (ms.map ky2)) (ms.map fun _ => .bl true)
abbrev rowN (n : Int) : T := .nd .lst (List.replicate n.toNat .non)
abbrev tbT (sp pg : Int) : T := .nd (.obj 0 ["spaces", "many", "grid"]) [.int sp, .int pg, .nd .lst (List.replicate sp.toNat (rowN pg))]
abbrev rgTr (sp pg : Int) (ord ms : List Pl) (k : Nat) : T := .nd (.obj 1 ["bounds", "order", "marks", "at"]) [tbT sp pg, plsT ord, mkT ms, .int (k : Int)]
theorem pl_e : PyData.strOk "" = true := by decide +kernel
theorem pl_n : PyData.strOk "NoSpace+" = true := by decide +kernel
theorem pl_p : PyData.strOk "NoPage+" = true := by decide +kernel
theorem mk_im (ms : List Pl) : (mkT ms).im = false := im_dT
theorem mk_di (ms : List Pl) : isDi (mkT ms) = true := rfl
theorem mk_sort (ms : List Pl) : sortT (mkT ms) = some (plsT (srt ms)) := sortT_d
theorem mk_in {p : Pl} {ms : List Pl} : inA (pairT p) (mkT ms) = some (.bl (decide (p ∈ ms))) := inA_dT
theorem mk_notIn {p : Pl} {ms : List Pl} : notInA (pairT p) (mkT ms) = some (.bl (decide (¬ p ∈ ms))) := notInA_dT
def addM (p : Pl) (ms : List Pl) : List Pl := if p ∈ ms then ms else ms ++ [p]
theorem ky2_nd {ms : List Pl} (nd : ms.Nodup) : (ms.map ky2).Nodup := List.Pairwise.map ky2 (fun a b h z => h (ky2_inj a b z)) nd
theorem putP_in {p : Pl} : ∀ {ms : List Pl}, p ∈ ms → putP p true (ms.map fun q => (q, true)) = ms.map fun q => (q, true)
  | [], h => by cases h
  | q :: ms, h => by
    rw [List.map_cons, putP]
    by_cases e : q = p
    · rw [if_pos e, e]
    · rw [if_neg e, putP_in ((List.mem_cons.mp h).resolve_left fun z => e z.symm)]
theorem putP_out {p : Pl} : ∀ {ms : List Pl}, ¬ p ∈ ms → putP p true (ms.map fun q => (q, true)) = (ms ++ [p]).map fun q => (q, true)
  | [], h => rfl
  | q :: ms, h => by
    rw [List.map_cons, putP, if_neg (fun e => h (by rw [← e]; exact List.mem_cons_self)), putP_out (fun z => h (List.mem_cons_of_mem _ z))]
    rfl
theorem mk_put {s p : Int} {ms : List Pl} (hl : ms.length < 1000) (nd : ms.Nodup) : setA (.nd .tup [.int s, .int p]) (mkT ms) [.bl true] = some (mkT (addM (s, p) ms), .non) := by
  unfold mkT
  rw [setA_T]
  show kSt _ _ _ (ky2 (s, p)) = _
  rw [kSt_q, if_pos ⟨by rw [List.length_map]; omega, ky2_nd nd⟩]
  have h := dput_map (kk := Kd.dT) (f := ky2) (h := fun _ : Bool => T.bl true) (a := (s, p)) (b := true) ky2_inj (ms.map fun q => (q, true))
  simp only [List.map_map, Function.comp_def] at h
  rw [h]
  unfold addM
  by_cases e : (s, p) ∈ ms
  · rw [if_pos e, putP_in e]
    simp only [List.map_map, Function.comp_def]
  · rw [if_neg e, putP_out e]
    simp only [List.map_map, Function.comp_def]
def outM (p : Pl) (ms : List Pl) : List Pl := ms.filter fun q => decide (¬ q = p)
theorem ixK_get {a : Pl} : ∀ {l : List Pl}, l.Nodup → a ∈ l → ∃ j, ixK a l = some j ∧ l.eraseIdx j = outM a l ∧ j < l.length
  | [], _, h => by cases h
  | b :: l, nd, h => by
    rw [List.nodup_cons] at nd
    rw [ixK]
    by_cases e : b = a
    · refine ⟨0, if_pos e, ?_, by simp⟩
      unfold outM
      rw [List.eraseIdx_cons_zero, List.filter_cons, if_neg (by simp [e])]
      exact (List.filter_eq_self.mpr fun q hq => by
        have : ¬ q = a := fun z => nd.1 (by rw [e, ← z]; exact hq)
        simp [this]).symm
    · obtain ⟨j, h1, h2, h3⟩ := ixK_get nd.2 ((List.mem_cons.mp h).resolve_left fun z => e z.symm)
      refine ⟨j + 1, by rw [if_neg e, h1]; rfl, ?_, by simp; omega⟩
      unfold outM at h2 ⊢
      rw [List.eraseIdx_cons_succ, h2, List.filter_cons, if_pos (by simp [e])]
theorem er_map {α β : Type} {f : α → β} : ∀ (l : List α) (j : Nat), (l.map f).eraseIdx j = (l.eraseIdx j).map f
  | [], _ => rfl
  | a :: l, 0 => rfl
  | a :: l, j + 1 => by rw [List.map_cons, List.eraseIdx_cons_succ, List.eraseIdx_cons_succ, er_map l j, List.map_cons]
theorem mk_pop {p : Pl} {ms : List Pl} (h : p ∈ ms) (nd : ms.Nodup) : dpopM (mkT ms) [pairT p] = some (mkT (outM p ms), .bl true) := by
  obtain ⟨j, h1, h2, h3⟩ := ixK_get nd h
  have nd2 : decide (ms.map ky2).Nodup = true := decide_eq_true (ky2_nd nd)
  show (keysT [.int p.1, .int p.2]).bind (fun k => dpopK (fun j => .dT ((ms.map ky2).eraseIdx j)) (.dT (ms.map ky2)) (decide (ms.map ky2).Nodup) (ms.map fun _ => T.bl true) [] (ixK k (ms.map ky2))) = _
  show dpopK (fun j => .dT ((ms.map ky2).eraseIdx j)) (.dT (ms.map ky2)) (decide (ms.map ky2).Nodup) (ms.map fun _ => T.bl true) [] (ixK (ky2 p) (ms.map ky2)) = _
  rw [ixK_map ky2_inj, h1]
  unfold dpopK
  simp only
  rw [if_pos ⟨nd2, by simp⟩, List.getElem?_map, List.getElem?_eq_getElem h3, er_map, er_map, h2]
  rfl
theorem getO {ord : List Pl} {k : Nat} (h : k < ord.length) : (ord.map pairT)[k]? = some (pairT ord[k]) := by rw [List.getElem?_map, List.getElem?_eq_getElem h]; rfl
theorem tonat {k : Nat} : ((k : Int)).toNat = k := rfl
local macro_rules | `(tactic| walk_at "vtd") => `(tactic| first | omega | assumption | (simp only [List.length_set]; omega) | (simp only [plT, plAll, pl_ints, plI, Bool.and_true, Bool.and_self, ofS_ok, dg_ok, pl_e, pl_n, pl_p, pair_pl, pairsT_pl]; done))
local macro_rules | `(tactic| walk_at "vt") => `(tactic| simp (disch := walk_at "vtd") only [↓eOp_q, kOp1_ok, kOp2_ok, kEn_q, ↓eOpB_q, kOpB_ok, kB1_q, ↓eOpV_q, kOpV0_q, kOpV_ok, kV1_q, ↓eUn_q, kUn_ok, ↓eOfN_q, ↓bOp_q, kBop_q, ↓bUn_q, ↓bOfP_q, kPl_q, kAt_q, tAt_nil, tAt_nd, nC_q, ↓nOfB_q, pVar_q, kPV_q, eVar_q, kVar_q, ↓sSeq_q, kSeq_nx, kSeq_rt, kSeq_ex, kSeq_bk, kSeq_ct, ↓sSet_q, kSet_ok, ↓sRet_q, kRet_ok, ↓sExpr_q, kExpr_ok, sNil_q, ↓sIf_q, kIf_q, ↓eIf_q, kEIf_q, ↓eNot_q, kNot_q, ↓eAnd_q, kAnd_q, ↓eOr_q, kOr_q, aNil_q, ↓aVal_q, kA1_ok, kA2_ok, ↓aRef_q, kAr_q, kAr2_ok, argOf_q, kArg_q, ↓eDisp_q, kD1_ok, kD2_q, valsOf_nil, valsOf_val, kVl_q, ↓eCall_q, kCall_ok, callR_q, kC1_q, kC2_q, argT_nil, argT_val, argT_pth, kAT1_q, kAT2_q, putB_nil, putB_val, tPut_nil, tPut_nd, ↓nTup_q, kNT_q, kNT2_q, baNil_q, ↓baVal_q, kBV_q, kBV2_q, ↓baRef_q, kBR_q, kBR2_q, ↓mBody_q, kBody_q, kBody2_nx, kBody2_rt, kBody2_ex, allS_nil, allS_some, imO_int, imO_str, imO_bl, imO_non, imO_tup, im_int, im_str, im_bl, im_non, im_tup, im_fz, im_lst, im_obj, imAll_nil, imAll_cons, mu_lst, mu_obj, gd_pos, gd_tr, addT_i, subT_i, mulT_i, modT_i, fdivT_i, powT_i, ltT_i, leT_i, gtT_i, geT_i, minT_i, ixT_lst, ixT_fz, ixT_tup, lenT_lst, lenT_fz, lenT_tup, isT_n, isNotT_n, isN_non, isN_int, isN_nd, isN_str, ↓sMut_q, kMu_ok, kM0_q, kM1_q, kM2_q, kM3_q, ↓sSetI_q, kI0_ok, kI1_q, kI2_q, kI3_q, kI4_q, setM_q, kSM_q, ob_some, sl, atI, ixN, ↓pFld_q, kF1_q, kF2_q, kF3_q, kF4_q, ↓pIx_q, kX0_q, kX1_q, kX2_q, kX3_q, ↓eMeth_q, kMe_q, kMe2_q, ↓eMethP_q, kMP_q, kMP1_q, kMP2_q, kMP3_q, putB_q, kPB_q, ↓eMake_q, kMk_q, kMk2_q, kMk3_q, ↓eMutV_q, kLV0_q, kLV_q, kLV1_q, kLV2_q, kLV3_q, isLst_q, ↓eMutP_q, kLP_q, kLP0_q, kLP1_q, kLP2_q, kLP3_q, kLP4_q, appM_q, popM_q, kPop_q, putFM_q, kPF_s, kPF_n, ↓sForR_q, kFR_q, ↓sForE_q, kFE_q, kFE2_q, seqO_lst, seqO_fz, seqO_tup, ↓sForP_q, kFP_q, kFP1_q, kFP2_q, kFP3_q, kFP4_q, eqT_ii, neT_ii, inT_ints, notInT_ints, kL1_q, kL2_nx, kL2_ct, kL2_bk, kL2_rt, runL_nil, runL_cons, tgN_q, lcFrom_q, kLc_q, lcEnd_q, kLcE_q, ↓eLcP_q, kLcP_q, kLcP1_q, kLcP2_q, kLcP3_q, kLP5_q, wipeS_nil, wipeS_cons, restS_nil, restS_cons, kRs_n, kRs_s, listT_lst, listT_fz, listT_tup, slT_lst, isi_ii, isi_ib, isi_ll, eqT_pl, neT_pl, kSet_ex, kRet_ex, kExpr_ex, sRaise_q, ↓sTryK_q, kTry_ex, kTry_nx, kTry_rt, kTry2_q, ↓sUnp_q, kUnp_ok, kUnp2_q, tgU_lst, tgU_tup, setAll_n, setAll_c, ↓sAugI_q, kAg0_q, kAg1_q, kAg2_q, kAg3_q, kAg4_q, kAg5_q, augM_ints, ↓sSetVE_q, kSv1_ok, kSv2_q, kSv3_q, kSv4_ints, ↓nLst_q, kNL_q, kNL2_q, ↓eLcR_q, kLR_q, mulT_l, lrgT_q, eqT_ln, neT_ln, rep_ints, get_int, set_int, app_int, teq_int, teq_str, teq_non, teq_tnil, teq_tcons, teq_li, ixA_lst, ixA_fz, ixA_tup, ixA_str, ixB_lst, ixB_fz, ixB_tup, ixB_dK, ixB_dT, kDo_s, dix_Ki, dix_Ks, dix_T, kDt_q, keysT_n, keysT_i, keysT_s, kKc_q, ↓pIxA_q, kX7_q, kX6_q, kX5_q, kX4_lst, kX4_dK, kX4_dT, kX8_s, ↓bGet_q, kBG_q, kBG1_q, kBG2_q, kGD_s, kGD_n, isDi_K, isDi_T, isDi_l, ↓sSetA_q, kSA_ok, kSA_ex, kSA0_q, kSA1_q, kSA2_q, kSA3_q, kSA4_q, setA_l, setA_Ki, setA_Ks, setA_T, kSt_q, nDK_q, nDT_q, mu_dK, mu_dT, im_dK, im_dT, inA_l, inA_t, inA_f, notInA_l, notInA_t, notInA_f, negT_i, ↓bNot_q, kBNot_q, ↓bAnd_q, kBAnd_q, ↓bOr_q, kBOr_q, ↓bIf_q, kBIf_q, bYes_q, lockT_q, lcN_q, kNlc_q, ↓bLc_q, kBL_q, kBLc_q, ↓bLcR_q, kBLR_q, addA_i, addA_s, addA_ll, addA_fl, addA_tt, isA_n, isA_b, isNotA_n, isNotA_b, isB_bl, isB_non, isB_int, isB_str, isB_nd, isN_bl, strT_s, ↓eVarL_q, kVL_q, kVL2_q, addA_lf, beq_tt, beq_tf, beq_ft, beq_ff, ↓eCallO_q, kCallO_ok, callRO_q, kO1_q, kO2_q, pthOk_n, pthOk_v, pthOk_p, ↓mBodyO_q, kBO_q, kBO2_nx, kBO2_rt, kBO2_ex, Option.getD_none, ↓sUnpM_q, kUM_l, kUM_t, kUM_ex, ↓eDmP_q, kDP_q, kDP0_q, kDP1_q, ↓eDmV_q, kDV0_q, ↓sAugF_q, kGF_q, kGF1_q, kGF2_q, kGF3_q, kGF4_q, ↓sWhile_q, List.length_set, beq_self_eq_true, getD_set, and_true, true_and, or_true, true_or, and_self, List.map_cons, List.map_nil, List.eraseIdx_cons_zero, List.length_cons, List.length_nil, List.length_map, List.replicate, List.append_nil, List.cons_append, List.nil_append, List.getElem?_cons_zero, List.getElem?_cons_succ, List.set_cons_zero, List.set_cons_succ, List.getD_cons_zero, List.getD_cons_succ, Option.getD_some, List.take, Nat.reduceSub, Nat.reduceAdd, Nat.reduceEqDiff, if_true, if_false, reduceIte, if_pos, if_neg, Int.toNat_zero, Int.toNat_one, Int.reduceLT, Int.reduceLE, Int.reduceToNat, List.tail_cons, Nat.zero_add, Nat.reduceLeDiff, Nat.reduceLT, Bool.and_true, Bool.true_and, Bool.and_self, Bool.not_true, Bool.not_false, decide_eq_true_eq, decide_true, decide_false, Bool.false_eq_true, c0_spaces, i0_spaces, c0_many, i0_many, c0_grid, i0_grid, j0_spaces, j0_many, j0_grid, io0_look_at_space, io0_look_at_page, io0_leaf, io0_put, c1_bounds, i1_bounds, c1_order, i1_order, c1_marks, i1_marks, c1_at, i1_at, j1_bounds, j1_order, j1_marks, j1_at, io1_mark, io1_marked, io1_needle, io1_next_of, kn3, kn4, im_ints, eqT_bb, neT_bb, rg_len, pair_im, pair_imO, mk_im, mk_di, ↓mk_sort, ↓mk_in, ↓mk_notIn, sortT_l, ↓inA_pairs, ↓notInA_pairs, neT_pair, eqT_pairs, neT_pairs, ↓mk_put])
theorem las_ok (sp pg s : Int) (h : ¬ s < 0) (h1 : ¬ sp ≤ s) : m_Tables_look_at_space [tbT sp pg, .int s] = some (.ok .non, [tbT sp pg, .int s]) := by
  unfold m_Tables_look_at_space b_Tables_look_at_space
  walk_at "vt"
theorem las_ex (sp pg s : Int) (h : s < 0 ∨ sp ≤ s) : m_Tables_look_at_space [tbT sp pg, .int s] = some (.ex 3, [tbT sp pg, .int s]) := by
  unfold m_Tables_look_at_space b_Tables_look_at_space
  by_cases h0 : s < 0
  · walk_at "vt"
  · have h1 : sp ≤ s := by omega
    walk_at "vt"
theorem lap_ok (sp pg s : Int) (h : ¬ s < 0) (h1 : ¬ pg ≤ s) : m_Tables_look_at_page [tbT sp pg, .int s] = some (.ok .non, [tbT sp pg, .int s]) := by
  unfold m_Tables_look_at_page b_Tables_look_at_page
  walk_at "vt"
theorem lap_ex (sp pg s : Int) (h : s < 0 ∨ pg ≤ s) : m_Tables_look_at_page [tbT sp pg, .int s] = some (.ex 4, [tbT sp pg, .int s]) := by
  unfold m_Tables_look_at_page b_Tables_look_at_page
  by_cases h0 : s < 0
  · walk_at "vt"
  · have h1 : pg ≤ s := by omega
    walk_at "vt"
theorem get_rep {α : Type} {n : Nat} {x : α} {k : Nat} (h : k < n) : (List.replicate n x)[k]? = some x := by rw [List.getElem?_replicate, if_pos h]
theorem leaf_ok (sp pg s p : Int) (a0 : 0 ≤ s) (a1 : s < sp) (b0 : 0 ≤ p) (b1 : p < pg) : m_Tables_leaf [tbT sp pg, .int s, .int p] = some (.ok .non, [tbT sp pg, .int s, .int p]) := by
  have e1 := las_ok sp pg s (by omega) (by omega)
  have e2 := lap_ok sp pg p (by omega) (by omega)
  have g1 := get_rep (n := sp.toNat) (x := rowN pg) (k := s.toNat) (by omega)
  have g2 := get_rep (n := pg.toNat) (x := T.non) (k := p.toNat) (by omega)
  have l1 : ((List.replicate sp.toNat (rowN pg)).length : Int) = sp := by simp; omega
  have l2 : ((List.replicate pg.toNat T.non).length : Int) = pg := by simp; omega
  unfold m_Tables_leaf b_Tables_leaf
  walk_at "vt"
  rw [e1]
  walk_at "vt"
  rw [e2]
  walk_at "vt"
  rw [g1]
  walk_at "vt"
  rw [g2]
  walk_at "vt"
theorem leaf_ex2 (sp pg s p : Int) (a : s < 0 ∨ sp ≤ s) : m_Tables_leaf [tbT sp pg, .int s, .int p] = some (.ex 3, [tbT sp pg, .int s, .int p]) := by
  have e1 := las_ex sp pg s a
  unfold m_Tables_leaf b_Tables_leaf
  walk_at "vt"
  rw [e1]
  walk_at "vt"
theorem leaf_ex3 (sp pg s p : Int) (a0 : 0 ≤ s) (a1 : s < sp) (b : p < 0 ∨ pg ≤ p) : m_Tables_leaf [tbT sp pg, .int s, .int p] = some (.ex 4, [tbT sp pg, .int s, .int p]) := by
  have e1 := las_ok sp pg s (by omega) (by omega)
  have e2 := lap_ex sp pg p b
  unfold m_Tables_leaf b_Tables_leaf
  walk_at "vt"
  rw [e1]
  walk_at "vt"
  rw [e2]
  walk_at "vt"
theorem init_t (m n : Int) (h0 : 0 ≤ m) (h1 : m ≤ 4) (h2 : 0 ≤ n) (h3 : n ≤ 30) : m_Tables___init [.nd (.obj 0 []) [], .int m, .int n] = some (.ok .non, [tbT m n, .int m, .int n]) := by
  have lr : (rgT m).length < 100000 := by rw [rg_len]; omega
  unfold m_Tables___init b_Tables___init
  walk_at "vt"
  rw [rgT_ints, runN_pure (gx := T.int) (q := fun _ => true) (h := fun _ => rowN n) (fun x => [some (.nd (.obj 0 ["spaces", "many"]) [.int m, .int n]), some (.int m), some (.int n), some (.int x)]) (rgI m) (fun x _ => rfl) (fun x _ => rfl) fun x _ _ => ?_]
  · walk_at "vt"
    have e : (rgI m).filter (fun _ => true) = rgI m := List.filter_eq_self.mpr fun _ _ => rfl
    have e2 : ((rgI m).map fun _ => rowN n) = List.replicate m.toNat (rowN n) := by
      rw [List.map_const', rgI_length]
    rw [e, e2]
  · walk_at "vt"
def ordOf (sp pg : Int) : List Pl := (rgI (sp * pg)).map fun k => (k / pg, k % pg)
theorem ord_len (sp pg : Int) : (ordOf sp pg).length = (sp * pg).toNat := by rw [ordOf, List.length_map, rgI_length]
theorem run_ord {tf : GF} {S : TSt} {cond elt : BF} {sp pg : Int} (S1 : Int → TSt) (h1 : ∀ x, tf (.int x) S = some (S1 x)) (h2 : ∀ x, cond (S1 x) = some (.bl true)) (h3 : ∀ x, elt (S1 x) = some (pairT (x / pg, x % pg))) : runN tf cond elt (rgT (sp * pg)) S = some ((ordOf sp pg).map pairT) := by
  rw [rgT_ints, runN_pure (gx := T.int) (q := fun _ => true) (h := fun x => pairT (x / pg, x % pg)) S1 (rgI (sp * pg)) (fun x _ => h1 x) (fun x _ => h2 x) (fun x _ _ => h3 x)]
  have e : (rgI (sp * pg)).filter (fun _ => true) = rgI (sp * pg) := List.filter_eq_self.mpr fun _ _ => rfl
  rw [e, ordOf, List.map_map]
  rfl
theorem mulB {m n : Int} (h0 : 0 ≤ m) (h1 : m ≤ 4) (h2 : 0 ≤ n) (h3 : n ≤ 30) : 0 ≤ m * n ∧ m * n ≤ 120 := ⟨Int.mul_nonneg h0 h2, Int.le_trans (Int.mul_le_mul h1 h3 h2 (by decide)) (by decide)⟩
theorem init_r (m n : Int) (h0 : 0 < m) (h1 : m ≤ 4) (h2 : 0 < n) (h3 : n ≤ 30) : m_Ring___init [.nd (.obj 1 []) [], .int m, .int n] = some (.ok .non, [rgTr m n (ordOf m n) [] 0, .int m, .int n]) := by
  have e0 := init_t m n (by omega) h1 (by omega) h3
  have mb := mulB (Int.le_of_lt h0) h1 (Int.le_of_lt h2) h3
  have lr : (rgT (m * n)).length < 100000 := by rw [rg_len]; omega
  unfold m_Ring___init b_Ring___init
  walk_at "vt"
  rw [e0]
  walk_at "vt"
  rw [run_ord (fun x => [some (.nd (.obj 1 ["bounds"]) [tbT m n]), some (.int m), some (.int n), some (.int x)]) (fun x => rfl) (fun x => rfl) fun x => ?_]
  · walk_at "vt"
    rfl
  · walk_at "vt"
    rfl
end K28

namespace K28
open PySem L2 VT
def nth (ord : List Pl) (k : Nat) : Pl := ord.getD k (0, 0)
theorem get_nth {ord : List Pl} {k : Nat} (h : k < ord.length) : (ord.map pairT)[k]? = some (pairT (nth ord k)) := by
  rw [List.getElem?_map, List.getElem?_eq_getElem h, nth, List.getD_eq_getElem?_getD, List.getElem?_eq_getElem h]; rfl
inductive Go (ord sm : List Pl) : Nat → Nat → List Pl → Pl → Nat → List Pl → Prop
  | stop {a : Nat} {ms : List Pl} (h : a < ord.length) (h1 : nth ord a ∈ sm) (h2 : ¬ nth ord a ∈ ms) : Go ord sm 0 a ms (nth ord a) ((a + 1) % ord.length) ms
  | skip {k a a' : Nat} {ms ms' : List Pl} {p : Pl} (h : a < ord.length) (h1 : ¬ nth ord a ∈ sm) (g : Go ord sm k ((a + 1) % ord.length) ms p a' ms') : Go ord sm (k + 1) a ms p a' ms'
  | take {k a a' : Nat} {ms ms' : List Pl} {p : Pl} (h : a < ord.length) (h1 : nth ord a ∈ sm) (h2 : nth ord a ∈ ms) (g : Go ord sm k ((a + 1) % ord.length) (outM (nth ord a) ms) p a' ms') : Go ord sm (k + 1) a ms p a' ms'
theorem outM_lt {p : Pl} {ms : List Pl} (h : p ∈ ms) : (outM p ms).length + 1 ≤ ms.length := by
  unfold outM
  exact List.length_filter_lt_length_iff_exists.mpr ⟨p, h, by simp⟩
theorem outM_nd {p : Pl} {ms : List Pl} (h : ms.Nodup) : (outM p ms).Nodup := h.filter _
theorem outM_sub {p q : Pl} {ms : List Pl} (h : q ∈ outM p ms) : q ∈ ms := (List.mem_filter.mp h).1
theorem dist_ex {ord sm : List Pl} (hne : sm ≠ []) (hs : ∀ q ∈ sm, q ∈ ord) {a : Nat} (ha : a < ord.length) : ∃ d, d < ord.length ∧ nth ord ((a + d) % ord.length) ∈ sm := by
  obtain ⟨q, hq⟩ := List.exists_mem_of_ne_nil sm hne
  obtain ⟨j, hj, e⟩ := List.getElem_of_mem (hs q hq)
  have key : nth ord j ∈ sm := by
    unfold nth
    rw [List.getD_eq_getElem?_getD, List.getElem?_eq_getElem hj, Option.getD_some, e]
    exact hq
  by_cases h : a ≤ j
  · refine ⟨j - a, by omega, ?_⟩
    rw [show a + (j - a) = j by omega, Nat.mod_eq_of_lt hj]
    exact key
  · refine ⟨ord.length - a + j, by omega, ?_⟩
    rw [show a + (ord.length - a + j) = j + ord.length by omega, Nat.add_mod_right, Nat.mod_eq_of_lt hj]
    exact key
theorem go_ex {ord sm : List Pl} (hne : sm ≠ []) (hs : ∀ q ∈ sm, q ∈ ord) : ∀ (m : Nat) (d : Nat) (a : Nat) (ms : List Pl), ms.length ≤ m → a < ord.length → nth ord ((a + d) % ord.length) ∈ sm → ∃ k p a' ms', k ≤ m * (ord.length + 1) + d ∧ Go ord sm k a ms p a' ms' := by
  intro m
  induction m with
  | zero =>
    intro d
    induction d with
    | zero =>
      intro a ms hl ha h
      rw [Nat.add_zero, Nat.mod_eq_of_lt ha] at h
      have : ms = [] := List.length_eq_zero_iff.mp (by omega)
      exact ⟨0, _, _, _, Nat.zero_le _, .stop ha h (by rw [this]; simp)⟩
    | succ d ih =>
      intro a ms hl ha h
      by_cases c : nth ord a ∈ sm
      · have : ms = [] := List.length_eq_zero_iff.mp (by omega)
        exact ⟨0, _, _, _, Nat.zero_le _, .stop ha c (by rw [this]; simp)⟩
      · obtain ⟨k, p, a', ms', h1, h2⟩ := ih ((a + 1) % ord.length) ms hl (Nat.mod_lt _ (by omega)) (by rw [Nat.mod_add_mod, show a + 1 + d = a + (d + 1) by omega]; exact h)
        exact ⟨k + 1, p, a', ms', by omega, .skip ha c h2⟩
  | succ m ihm =>
    have tk : ∀ (a : Nat) (ms : List Pl), ms.length ≤ m + 1 → a < ord.length → nth ord a ∈ sm → ∃ k p a' ms', k ≤ (m + 1) * (ord.length + 1) ∧ Go ord sm k a ms p a' ms' := by
      intro a ms hl ha h
      by_cases c : nth ord a ∈ ms
      · have hl2 := outM_lt c
        obtain ⟨d, hd, hd2⟩ := dist_ex hne hs (a := (a + 1) % ord.length) (Nat.mod_lt _ (by omega))
        obtain ⟨k, p, a', ms', h1, h2⟩ := ihm d ((a + 1) % ord.length) (outM (nth ord a) ms) (by omega) (Nat.mod_lt _ (by omega)) hd2
        exact ⟨k + 1, p, a', ms', by rw [Nat.succ_mul]; omega, .take ha h c h2⟩
      · exact ⟨0, _, _, _, Nat.zero_le _, .stop ha h c⟩
    intro d
    induction d with
    | zero =>
      intro a ms hl ha h
      rw [Nat.add_zero, Nat.mod_eq_of_lt ha] at h
      exact tk a ms hl ha h
    | succ d ih =>
      intro a ms hl ha h
      by_cases c : nth ord a ∈ sm
      · obtain ⟨k, p, a', ms', h1, h2⟩ := tk a ms hl ha c
        exact ⟨k, p, a', ms', by omega, h2⟩
      · obtain ⟨k, p, a', ms', h1, h2⟩ := ih ((a + 1) % ord.length) ms hl (Nat.mod_lt _ (by omega)) (by rw [Nat.mod_add_mod, show a + 1 + d = a + (d + 1) by omega]; exact h)
        exact ⟨k + 1, p, a', ms', by omega, .skip ha c h2⟩
theorem go_inv {ord sm : List Pl} {k a a' : Nat} {ms ms' : List Pl} {p : Pl} (g : Go ord sm k a ms p a' ms') : ms.Nodup → ms'.Nodup ∧ (∀ q ∈ ms', q ∈ ms) ∧ a' < ord.length ∧ ms'.length ≤ ms.length := by
  induction g with
  | stop h h1 h2 => exact fun nd => ⟨nd, fun _ z => z, Nat.mod_lt _ (by omega), Nat.le_refl _⟩
  | skip h h1 g ih => exact ih
  | take h h1 h2 g ih =>
    intro nd
    obtain ⟨i1, i2, i3, i4⟩ := ih (outM_nd nd)
    exact ⟨i1, fun q z => outM_sub (i2 q z), i3, Nat.le_trans i4 (List.length_filter_le _ _)⟩
theorem cast_mod {k n : Nat} : ((k : Int) + 1) % (n : Int) = (((k + 1) % n : Nat) : Int) := by rw [Int.natCast_emod]; rfl
theorem nat_nn {k : Nat} : ¬ ((k : Int) < 0) := by omega
theorem nat_nn' {k : Nat} : (0 ≤ (k : Int)) := by omega
abbrev C1 : EF := (eOfN (bOp neT (bOfP (pVar 1)) (nLst baNil)))
abbrev B1 : SF := (sSeq (sSet 2 (eOfN (nOfB (bOp ixB (bOfP (pFld ct "order" (pVar 0))) (bOfP (pFld ct "at" (pVar 0)))))))
    (sSeq (sMut (putFM ct "at") (pVar 0) (eOfN (bOp modT (bOp addA (bOfP (pFld ct "at" (pVar 0))) (nC (.int 1))) (bUn lenT (bOfP (pFld ct "order" (pVar 0)))))))
    (sIf (eOfN (bOp inA (bOfP (pVar 2)) (bOfP (pVar 1)))) (sSeq (sIf (eOfN (bOp notInA (bOfP (pVar 2)) (bOfP (pFld ct "marks" (pVar 0))))) (sRet (eVar 2)) sNil)
    (sExpr (eDmP dpopM (pFld ct "marks" (pVar 0)) (baRef 2 baNil)))) sNil)))
theorem pairs_im (l : List Pl) : T.imAll (l.map pairT) = true := im_map pair_im l
theorem ne_nil {sm : List Pl} : neT (plsT sm) (.nd .lst []) = some (.bl (decide (¬ sm = []))) := neT_pairs (m := [])
theorem eq_nil {sm : List Pl} : eqT (plsT sm) (.nd .lst []) = some (.bl (decide (sm = []))) := eqT_pairs (m := [])
local macro_rules | `(tactic| walk_at "vtd") => `(tactic| first | omega | assumption | (simp only [List.length_set]; omega) | (simp only [plT, plAll, pl_ints, plI, Bool.and_true, Bool.and_self, ofS_ok, dg_ok, pl_e, pl_n, pl_p, pair_pl, pairsT_pl]; done))
local macro_rules | `(tactic| walk_at "vt") => `(tactic| simp (disch := walk_at "vtd") only [↓eOp_q, kOp1_ok, kOp2_ok, kEn_q, ↓eOpB_q, kOpB_ok, kB1_q, ↓eOpV_q, kOpV0_q, kOpV_ok, kV1_q, ↓eUn_q, kUn_ok, ↓eOfN_q, ↓bOp_q, kBop_q, ↓bUn_q, ↓bOfP_q, kPl_q, kAt_q, tAt_nil, tAt_nd, nC_q, ↓nOfB_q, pVar_q, kPV_q, eVar_q, kVar_q, ↓sSeq_q, kSeq_nx, kSeq_rt, kSeq_ex, kSeq_bk, kSeq_ct, ↓sSet_q, kSet_ok, ↓sRet_q, kRet_ok, ↓sExpr_q, kExpr_ok, sNil_q, ↓sIf_q, kIf_q, ↓eIf_q, kEIf_q, ↓eNot_q, kNot_q, ↓eAnd_q, kAnd_q, ↓eOr_q, kOr_q, aNil_q, ↓aVal_q, kA1_ok, kA2_ok, ↓aRef_q, kAr_q, kAr2_ok, argOf_q, kArg_q, ↓eDisp_q, kD1_ok, kD2_q, valsOf_nil, valsOf_val, kVl_q, ↓eCall_q, kCall_ok, callR_q, kC1_q, kC2_q, argT_nil, argT_val, argT_pth, kAT1_q, kAT2_q, putB_nil, putB_val, tPut_nil, tPut_nd, ↓nTup_q, kNT_q, kNT2_q, baNil_q, ↓baVal_q, kBV_q, kBV2_q, ↓baRef_q, kBR_q, kBR2_q, ↓mBody_q, kBody_q, kBody2_nx, kBody2_rt, kBody2_ex, allS_nil, allS_some, imO_int, imO_str, imO_bl, imO_non, imO_tup, im_int, im_str, im_bl, im_non, im_tup, im_fz, im_lst, im_obj, imAll_nil, imAll_cons, mu_lst, mu_obj, gd_pos, gd_tr, addT_i, subT_i, mulT_i, modT_i, fdivT_i, powT_i, ltT_i, leT_i, gtT_i, geT_i, minT_i, ixT_lst, ixT_fz, ixT_tup, lenT_lst, lenT_fz, lenT_tup, isT_n, isNotT_n, isN_non, isN_int, isN_nd, isN_str, ↓sMut_q, kMu_ok, kM0_q, kM1_q, kM2_q, kM3_q, ↓sSetI_q, kI0_ok, kI1_q, kI2_q, kI3_q, kI4_q, setM_q, kSM_q, ob_some, sl, atI, ixN, ↓pFld_q, kF1_q, kF2_q, kF3_q, kF4_q, ↓pIx_q, kX0_q, kX1_q, kX2_q, kX3_q, ↓eMeth_q, kMe_q, kMe2_q, ↓eMethP_q, kMP_q, kMP1_q, kMP2_q, kMP3_q, putB_q, kPB_q, ↓eMake_q, kMk_q, kMk2_q, kMk3_q, ↓eMutV_q, kLV0_q, kLV_q, kLV1_q, kLV2_q, kLV3_q, isLst_q, ↓eMutP_q, kLP_q, kLP0_q, kLP1_q, kLP2_q, kLP3_q, kLP4_q, appM_q, popM_q, kPop_q, putFM_q, kPF_s, kPF_n, ↓sForR_q, kFR_q, ↓sForE_q, kFE_q, kFE2_q, seqO_lst, seqO_fz, seqO_tup, ↓sForP_q, kFP_q, kFP1_q, kFP2_q, kFP3_q, kFP4_q, eqT_ii, neT_ii, inT_ints, notInT_ints, kL1_q, kL2_nx, kL2_ct, kL2_bk, kL2_rt, runL_nil, runL_cons, tgN_q, lcFrom_q, kLc_q, lcEnd_q, kLcE_q, ↓eLcP_q, kLcP_q, kLcP1_q, kLcP2_q, kLcP3_q, kLP5_q, wipeS_nil, wipeS_cons, restS_nil, restS_cons, kRs_n, kRs_s, listT_lst, listT_fz, listT_tup, slT_lst, isi_ii, isi_ib, isi_ll, eqT_pl, neT_pl, kSet_ex, kRet_ex, kExpr_ex, sRaise_q, ↓sTryK_q, kTry_ex, kTry_nx, kTry_rt, kTry2_q, ↓sUnp_q, kUnp_ok, kUnp2_q, tgU_lst, tgU_tup, setAll_n, setAll_c, ↓sAugI_q, kAg0_q, kAg1_q, kAg2_q, kAg3_q, kAg4_q, kAg5_q, augM_ints, ↓sSetVE_q, kSv1_ok, kSv2_q, kSv3_q, kSv4_ints, ↓nLst_q, kNL_q, kNL2_q, ↓eLcR_q, kLR_q, mulT_l, lrgT_q, eqT_ln, neT_ln, rep_ints, get_int, set_int, app_int, teq_int, teq_str, teq_non, teq_tnil, teq_tcons, teq_li, ixA_lst, ixA_fz, ixA_tup, ixA_str, ixB_lst, ixB_fz, ixB_tup, ixB_dK, ixB_dT, kDo_s, dix_Ki, dix_Ks, dix_T, kDt_q, keysT_n, keysT_i, keysT_s, kKc_q, ↓pIxA_q, kX7_q, kX6_q, kX5_q, kX4_lst, kX4_dK, kX4_dT, kX8_s, ↓bGet_q, kBG_q, kBG1_q, kBG2_q, kGD_s, kGD_n, isDi_K, isDi_T, isDi_l, ↓sSetA_q, kSA_ok, kSA_ex, kSA0_q, kSA1_q, kSA2_q, kSA3_q, kSA4_q, setA_l, setA_Ki, setA_Ks, setA_T, kSt_q, nDK_q, nDT_q, mu_dK, mu_dT, im_dK, im_dT, inA_l, inA_t, inA_f, notInA_l, notInA_t, notInA_f, negT_i, ↓bNot_q, kBNot_q, ↓bAnd_q, kBAnd_q, ↓bOr_q, kBOr_q, ↓bIf_q, kBIf_q, bYes_q, lockT_q, lcN_q, kNlc_q, ↓bLc_q, kBL_q, kBLc_q, ↓bLcR_q, kBLR_q, addA_i, addA_s, addA_ll, addA_fl, addA_tt, isA_n, isA_b, isNotA_n, isNotA_b, isB_bl, isB_non, isB_int, isB_str, isB_nd, isN_bl, strT_s, ↓eVarL_q, kVL_q, kVL2_q, addA_lf, beq_tt, beq_tf, beq_ft, beq_ff, ↓eCallO_q, kCallO_ok, callRO_q, kO1_q, kO2_q, pthOk_n, pthOk_v, pthOk_p, ↓mBodyO_q, kBO_q, kBO2_nx, kBO2_rt, kBO2_ex, Option.getD_none, ↓sUnpM_q, kUM_l, kUM_t, kUM_ex, ↓eDmP_q, kDP_q, kDP0_q, kDP1_q, ↓eDmV_q, kDV0_q, ↓sAugF_q, kGF_q, kGF1_q, kGF2_q, kGF3_q, kGF4_q, ↓sWhile_q, List.length_set, beq_self_eq_true, getD_set, and_true, true_and, or_true, true_or, and_self, List.map_cons, List.map_nil, List.eraseIdx_cons_zero, List.length_cons, List.length_nil, List.length_map, List.replicate, List.append_nil, List.cons_append, List.nil_append, List.getElem?_cons_zero, List.getElem?_cons_succ, List.set_cons_zero, List.set_cons_succ, List.getD_cons_zero, List.getD_cons_succ, Option.getD_some, List.take, Nat.reduceSub, Nat.reduceAdd, Nat.reduceEqDiff, if_true, if_false, reduceIte, if_pos, if_neg, Int.toNat_zero, Int.toNat_one, Int.reduceLT, Int.reduceLE, Int.reduceToNat, List.tail_cons, Nat.zero_add, Nat.reduceLeDiff, Nat.reduceLT, Bool.and_true, Bool.true_and, Bool.and_self, Bool.not_true, Bool.not_false, decide_eq_true_eq, decide_true, decide_false, Bool.false_eq_true, c0_spaces, i0_spaces, c0_many, i0_many, c0_grid, i0_grid, j0_spaces, j0_many, j0_grid, io0_look_at_space, io0_look_at_page, io0_leaf, io0_put, c1_bounds, i1_bounds, c1_order, i1_order, c1_marks, i1_marks, c1_at, i1_at, j1_bounds, j1_order, j1_marks, j1_at, io1_mark, io1_marked, io1_needle, io1_next_of, kn3, kn4, im_ints, eqT_bb, neT_bb, rg_len, pair_im, pair_imO, mk_im, mk_di, ↓mk_sort, ↓mk_in, ↓mk_notIn, sortT_l, ↓inA_pairs, ↓notInA_pairs, neT_pair, eqT_pairs, neT_pairs, ↓mk_put, ↓ne_nil, ↓eq_nil, get_nth, cast_mod, Int.toNat_natCast, ↓mk_pop, nat_nn, nat_nn', pairs_im])
section
variable {sp pg : Int} {ord sm : List Pl}
theorem next_loop {k a a' : Nat} {ms ms' : List Pl} {p : Pl} (hne : ¬ sm = []) (g : Go ord sm k a ms p a' ms') : ∀ (N : Nat) (o : Option T), ms.Nodup → k < N → runW C1 B1 N [some (rgTr sp pg ord ms a), some (plsT sm), o] = some (.rt (pairT p), [some (rgTr sp pg ord ms' a'), some (plsT sm), some (pairT p)]) := by
  induction g with
  | @stop a ms h h1 h2 =>
    intro N o nd hN
    obtain ⟨N, rfl⟩ : ∃ M, N = M + 1 := ⟨N - 1, by omega⟩
    refine runW_r (S1 := [some (rgTr sp pg ord ms a), some (plsT sm), o]) ?_ ?_
    · walk_at "vt"
      rw [decide_eq_true hne]
    · walk_at "vt"
  | @skip k a a' ms ms' p h h1 g ih =>
    intro N o nd hN
    obtain ⟨N, rfl⟩ : ∃ M, N = M + 1 := ⟨N - 1, by omega⟩
    rw [runW_t (S1 := [some (rgTr sp pg ord ms a), some (plsT sm), o]) (S2 := [some (rgTr sp pg ord ms ((a + 1) % ord.length)), some (plsT sm), some (pairT (nth ord a))])]
    · exact ih N _ nd (by omega)
    · walk_at "vt"
      rw [decide_eq_true hne]
    · walk_at "vt"
  | @take k a a' ms ms' p h h1 h2 g ih =>
    intro N o nd hN
    obtain ⟨N, rfl⟩ : ∃ M, N = M + 1 := ⟨N - 1, by omega⟩
    rw [runW_t (S1 := [some (rgTr sp pg ord ms a), some (plsT sm), o]) (S2 := [some (rgTr sp pg ord (outM (nth ord a) ms) ((a + 1) % ord.length)), some (plsT sm), some (pairT (nth ord a))])]
    · exact ih N _ (outM_nd nd) (by omega)
    all_goals have hn : ¬ ¬ nth ord a ∈ ms := fun z => z h2
    · walk_at "vt"
      rw [decide_eq_true hne]
    · walk_at "vt"
theorem next_nil {a : Nat} {ms : List Pl} : m_Ring_next_of [rgTr sp pg ord ms a, plsT []] = some (.ok .non, [rgTr sp pg ord ms a, plsT []]) := by
  unfold m_Ring_next_of b_Ring_next_of
  walk_at "vt"
  rw [runW_f (n := 999999) (S1 := [some (rgTr sp pg ord ms a), some (plsT []), none])]
  · walk_at "vt"
  · rfl
theorem next_go {k a a' : Nat} {ms ms' : List Pl} {p : Pl} (hne : ¬ sm = []) (g : Go ord sm k a ms p a' ms') (nd : ms.Nodup) (hk : k < 1000000) : m_Ring_next_of [rgTr sp pg ord ms a, plsT sm] = some (.ok (pairT p), [rgTr sp pg ord ms' a', plsT sm]) := by
  unfold m_Ring_next_of b_Ring_next_of
  walk_at "vt"
  rw [next_loop hne g 1000000 none nd hk]
  walk_at "vt"
abbrev C2 : EF := (eOr (eOfN (bOp notInA (bOp ixB (bOfP (pVar 0)) (bOfP (pVar 2))) (bOfP (pVar 3)))) (eOfN (bOp inA (bOp ixB (bOfP (pVar 0)) (bOfP (pVar 2))) (bOfP (pVar 1)))))
abbrev B2 : SF := (sSeq (sSet 1 (eOfN (bLc [4] (tgN 4) (bOfP (pVar 1)) (bOr (bOp neT (bOfP (pVar 4)) (bOp ixB (bOfP (pVar 0)) (bOfP (pVar 2)))) (bOp notInA (bOfP (pVar 4)) (bOfP (pVar 3)))) (nOfB (bOfP (pVar 4))))))
    (sSet 2 (eOfN (bOp modT (bOp addA (bOfP (pVar 2)) (nC (.int 1))) (bUn lenT (bOfP (pVar 0)))))))
abbrev nS (ord ms : List Pl) (a : Nat) (sm : List Pl) : TSt := [some (plsT ord), some (plsT ms), some (.int (a : Int)), some (plsT sm), none]
theorem lawn_filter {a : Nat} {ms : List Pl} (h : a < ord.length) : runN (tgN 4) (bOr (bOp neT (bOfP (pVar 4)) (bOp ixB (bOfP (pVar 0)) (bOfP (pVar 2)))) (bOp notInA (bOfP (pVar 4)) (bOfP (pVar 3)))) (nOfB (bOfP (pVar 4))) (ms.map pairT) (nS ord ms a sm) = some ((ms.filter fun q => decide (¬ q = nth ord a) || decide (¬ q ∈ sm)).map pairT) := by
  refine runN_pure (gx := pairT) (q := fun q => decide (¬ q = nth ord a) || decide (¬ q ∈ sm)) (h := pairT) (fun x => [some (plsT ord), some (plsT ms), some (.int (a : Int)), some (plsT sm), some (pairT x)]) ms (fun x _ => rfl) (fun x _ => ?_) fun x _ _ => ?_
  · by_cases c : x = nth ord a
    · have c2 : ¬ ¬ x = nth ord a := fun z => z c
      walk_at "vt"
      simp [c]
    · walk_at "vt"
      simp [c]
  · rfl
theorem lawn_loop {k a a' : Nat} {ms ms' : List Pl} {p : Pl} (g : Go ord sm k a ms p a' ms') : ∀ (N : Nat), ms.length < 1000 → k < N → ∃ b, b < ord.length ∧ p = nth ord b ∧ a' = (b + 1) % ord.length ∧ runW C2 B2 N (nS ord ms a sm) = some (.nx, nS ord ms' b sm) := by
  induction g with
  | @stop a ms h h1 h2 =>
    intro N hl hN
    obtain ⟨N, rfl⟩ : ∃ M, N = M + 1 := ⟨N - 1, by omega⟩
    refine ⟨a, h, rfl, rfl, runW_f ?_⟩
    have hn : ¬ ¬ nth ord a ∈ sm := fun z => z h1
    walk_at "vt"
    rw [decide_eq_false h2]
  | @skip k a a' ms ms' p h h1 g ih =>
    intro N hl hN
    obtain ⟨N, rfl⟩ : ∃ M, N = M + 1 := ⟨N - 1, by omega⟩
    obtain ⟨b, b1, b2, b3, b4⟩ := ih N hl (by omega)
    refine ⟨b, b1, b2, b3, ?_⟩
    rw [runW_t (S1 := nS ord ms a sm) (S2 := nS ord ms ((a + 1) % ord.length) sm)]
    · exact b4
    · walk_at "vt"
    · have lm : (ms.map pairT).length < 100000 := by rw [List.length_map]; omega
      have e : (ms.filter fun q => decide (¬ q = nth ord a) || decide (¬ q ∈ sm)) = ms := List.filter_eq_self.mpr fun q _ => by
        by_cases c : q = nth ord a
        · rw [c]; simp [h1]
        · simp [c]
      have e2 := lawn_filter (sm := sm) (ms := ms) h
      rw [e] at e2
      walk_at "vt"
      rw [e2]
      walk_at "vt"
  | @take k a a' ms ms' p h h1 h2 g ih =>
    intro N hl hN
    obtain ⟨N, rfl⟩ : ∃ M, N = M + 1 := ⟨N - 1, by omega⟩
    have hl2 := outM_lt h2
    obtain ⟨b, b1, b2, b3, b4⟩ := ih N (by omega) (by omega)
    refine ⟨b, b1, b2, b3, ?_⟩
    have hn : ¬ ¬ nth ord a ∈ sm := fun z => z h1
    rw [runW_t (S1 := nS ord ms a sm) (S2 := nS ord (outM (nth ord a) ms) ((a + 1) % ord.length) sm)]
    · exact b4
    · walk_at "vt"
      rw [decide_eq_true h2]
    · have lm : (ms.map pairT).length < 100000 := by rw [List.length_map]; omega
      have e : (ms.filter fun q => decide (¬ q = nth ord a) || decide (¬ q ∈ sm)) = outM (nth ord a) ms := by
        unfold outM
        refine List.filter_congr fun q _ => ?_
        by_cases c : q = nth ord a
        · rw [c]; simp [h1]
        · simp [c]
      have e2 := lawn_filter (sm := sm) (ms := ms) h
      rw [e] at e2
      walk_at "vt"
      rw [e2]
      walk_at "vt"
theorem lawn_nil {a : Nat} {ms : List Pl} : m_law_next [plsT ord, plsT ms, .int (a : Int), plsT []] = some (.ok (.nd .lst [.non, .int (a : Int), plsT ms]), [some (plsT ord), none, none, some (plsT [])]) := by
  unfold m_law_next b_law_next
  walk_at "vt"
theorem lawn_go {k a a' : Nat} {ms ms' : List Pl} {p : Pl} (hne : ¬ sm = []) (g : Go ord sm k a ms p a' ms') (hl : ms.length < 1000) (hk : k < 1000000) : m_law_next [plsT ord, plsT ms, .int (a : Int), plsT sm] = some (.ok (.nd .lst [pairT p, .int (a' : Int), plsT ms']), [some (plsT ord), none, none, some (plsT sm)]) := by
  obtain ⟨b, b1, b2, b3, b4⟩ := lawn_loop g 1000000 hl hk
  unfold m_law_next b_law_next
  walk_at "vt"
  rw [b4]
  walk_at "vt"
  rw [b2, b3]
end
end K28

namespace K28
open PySem L2 VT
local macro_rules | `(tactic| walk_at "vtd") => `(tactic| first | omega | assumption | (simp only [List.length_set]; omega) | (simp only [plT, plAll, pl_ints, plI, Bool.and_true, Bool.and_self, ofS_ok, dg_ok, pl_e, pl_n, pl_p, pair_pl, pairsT_pl]; done))
local macro_rules | `(tactic| walk_at "vt") => `(tactic| simp (disch := walk_at "vtd") only [↓eOp_q, kOp1_ok, kOp2_ok, kEn_q, ↓eOpB_q, kOpB_ok, kB1_q, ↓eOpV_q, kOpV0_q, kOpV_ok, kV1_q, ↓eUn_q, kUn_ok, ↓eOfN_q, ↓bOp_q, kBop_q, ↓bUn_q, ↓bOfP_q, kPl_q, kAt_q, tAt_nil, tAt_nd, nC_q, ↓nOfB_q, pVar_q, kPV_q, eVar_q, kVar_q, ↓sSeq_q, kSeq_nx, kSeq_rt, kSeq_ex, kSeq_bk, kSeq_ct, ↓sSet_q, kSet_ok, ↓sRet_q, kRet_ok, ↓sExpr_q, kExpr_ok, sNil_q, ↓sIf_q, kIf_q, ↓eIf_q, kEIf_q, ↓eNot_q, kNot_q, ↓eAnd_q, kAnd_q, ↓eOr_q, kOr_q, aNil_q, ↓aVal_q, kA1_ok, kA2_ok, ↓aRef_q, kAr_q, kAr2_ok, argOf_q, kArg_q, ↓eDisp_q, kD1_ok, kD2_q, valsOf_nil, valsOf_val, kVl_q, ↓eCall_q, kCall_ok, callR_q, kC1_q, kC2_q, argT_nil, argT_val, argT_pth, kAT1_q, kAT2_q, putB_nil, putB_val, tPut_nil, tPut_nd, ↓nTup_q, kNT_q, kNT2_q, baNil_q, ↓baVal_q, kBV_q, kBV2_q, ↓baRef_q, kBR_q, kBR2_q, ↓mBody_q, kBody_q, kBody2_nx, kBody2_rt, kBody2_ex, allS_nil, allS_some, imO_int, imO_str, imO_bl, imO_non, imO_tup, im_int, im_str, im_bl, im_non, im_tup, im_fz, im_lst, im_obj, imAll_nil, imAll_cons, mu_lst, mu_obj, gd_pos, gd_tr, addT_i, subT_i, mulT_i, modT_i, fdivT_i, powT_i, ltT_i, leT_i, gtT_i, geT_i, minT_i, ixT_lst, ixT_fz, ixT_tup, lenT_lst, lenT_fz, lenT_tup, isT_n, isNotT_n, isN_non, isN_int, isN_nd, isN_str, ↓sMut_q, kMu_ok, kM0_q, kM1_q, kM2_q, kM3_q, ↓sSetI_q, kI0_ok, kI1_q, kI2_q, kI3_q, kI4_q, setM_q, kSM_q, ob_some, sl, atI, ixN, ↓pFld_q, kF1_q, kF2_q, kF3_q, kF4_q, ↓pIx_q, kX0_q, kX1_q, kX2_q, kX3_q, ↓eMeth_q, kMe_q, kMe2_q, ↓eMethP_q, kMP_q, kMP1_q, kMP2_q, kMP3_q, putB_q, kPB_q, ↓eMake_q, kMk_q, kMk2_q, kMk3_q, ↓eMutV_q, kLV0_q, kLV_q, kLV1_q, kLV2_q, kLV3_q, isLst_q, ↓eMutP_q, kLP_q, kLP0_q, kLP1_q, kLP2_q, kLP3_q, kLP4_q, appM_q, popM_q, kPop_q, putFM_q, kPF_s, kPF_n, ↓sForR_q, kFR_q, ↓sForE_q, kFE_q, kFE2_q, seqO_lst, seqO_fz, seqO_tup, ↓sForP_q, kFP_q, kFP1_q, kFP2_q, kFP3_q, kFP4_q, eqT_ii, neT_ii, inT_ints, notInT_ints, kL1_q, kL2_nx, kL2_ct, kL2_bk, kL2_rt, runL_nil, runL_cons, tgN_q, lcFrom_q, kLc_q, lcEnd_q, kLcE_q, ↓eLcP_q, kLcP_q, kLcP1_q, kLcP2_q, kLcP3_q, kLP5_q, wipeS_nil, wipeS_cons, restS_nil, restS_cons, kRs_n, kRs_s, listT_lst, listT_fz, listT_tup, slT_lst, isi_ii, isi_ib, isi_ll, eqT_pl, neT_pl, kSet_ex, kRet_ex, kExpr_ex, sRaise_q, ↓sTryK_q, kTry_ex, kTry_nx, kTry_rt, kTry2_q, ↓sUnp_q, kUnp_ok, kUnp2_q, tgU_lst, tgU_tup, setAll_n, setAll_c, ↓sAugI_q, kAg0_q, kAg1_q, kAg2_q, kAg3_q, kAg4_q, kAg5_q, augM_ints, ↓sSetVE_q, kSv1_ok, kSv2_q, kSv3_q, kSv4_ints, ↓nLst_q, kNL_q, kNL2_q, ↓eLcR_q, kLR_q, mulT_l, lrgT_q, eqT_ln, neT_ln, rep_ints, get_int, set_int, app_int, teq_int, teq_str, teq_non, teq_tnil, teq_tcons, teq_li, ixA_lst, ixA_fz, ixA_tup, ixA_str, ixB_lst, ixB_fz, ixB_tup, ixB_dK, ixB_dT, kDo_s, dix_Ki, dix_Ks, dix_T, kDt_q, keysT_n, keysT_i, keysT_s, kKc_q, ↓pIxA_q, kX7_q, kX6_q, kX5_q, kX4_lst, kX4_dK, kX4_dT, kX8_s, ↓bGet_q, kBG_q, kBG1_q, kBG2_q, kGD_s, kGD_n, isDi_K, isDi_T, isDi_l, ↓sSetA_q, kSA_ok, kSA_ex, kSA0_q, kSA1_q, kSA2_q, kSA3_q, kSA4_q, setA_l, setA_Ki, setA_Ks, setA_T, kSt_q, nDK_q, nDT_q, mu_dK, mu_dT, im_dK, im_dT, inA_l, inA_t, inA_f, notInA_l, notInA_t, notInA_f, negT_i, ↓bNot_q, kBNot_q, ↓bAnd_q, kBAnd_q, ↓bOr_q, kBOr_q, ↓bIf_q, kBIf_q, bYes_q, lockT_q, lcN_q, kNlc_q, ↓bLc_q, kBL_q, kBLc_q, ↓bLcR_q, kBLR_q, addA_i, addA_s, addA_ll, addA_fl, addA_tt, isA_n, isA_b, isNotA_n, isNotA_b, isB_bl, isB_non, isB_int, isB_str, isB_nd, isN_bl, strT_s, ↓eVarL_q, kVL_q, kVL2_q, addA_lf, beq_tt, beq_tf, beq_ft, beq_ff, ↓eCallO_q, kCallO_ok, callRO_q, kO1_q, kO2_q, pthOk_n, pthOk_v, pthOk_p, ↓mBodyO_q, kBO_q, kBO2_nx, kBO2_rt, kBO2_ex, Option.getD_none, ↓sUnpM_q, kUM_l, kUM_t, kUM_ex, ↓eDmP_q, kDP_q, kDP0_q, kDP1_q, ↓eDmV_q, kDV0_q, ↓sAugF_q, kGF_q, kGF1_q, kGF2_q, kGF3_q, kGF4_q, ↓sWhile_q, List.length_set, beq_self_eq_true, getD_set, and_true, true_and, or_true, true_or, and_self, List.map_cons, List.map_nil, List.eraseIdx_cons_zero, List.length_cons, List.length_nil, List.length_map, List.replicate, List.append_nil, List.cons_append, List.nil_append, List.getElem?_cons_zero, List.getElem?_cons_succ, List.set_cons_zero, List.set_cons_succ, List.getD_cons_zero, List.getD_cons_succ, Option.getD_some, List.take, Nat.reduceSub, Nat.reduceAdd, Nat.reduceEqDiff, if_true, if_false, reduceIte, if_pos, if_neg, Int.toNat_zero, Int.toNat_one, Int.reduceLT, Int.reduceLE, Int.reduceToNat, List.tail_cons, Nat.zero_add, Nat.reduceLeDiff, Nat.reduceLT, Bool.and_true, Bool.true_and, Bool.and_self, Bool.not_true, Bool.not_false, decide_eq_true_eq, decide_true, decide_false, Bool.false_eq_true, c0_spaces, i0_spaces, c0_many, i0_many, c0_grid, i0_grid, j0_spaces, j0_many, j0_grid, io0_look_at_space, io0_look_at_page, io0_leaf, io0_put, c1_bounds, i1_bounds, c1_order, i1_order, c1_marks, i1_marks, c1_at, i1_at, j1_bounds, j1_order, j1_marks, j1_at, io1_mark, io1_marked, io1_needle, io1_next_of, kn3, kn4, im_ints, eqT_bb, neT_bb, rg_len, pair_im, pair_imO, mk_im, mk_di, ↓mk_sort, ↓mk_in, ↓mk_notIn, sortT_l, ↓inA_pairs, ↓notInA_pairs, neT_pair, eqT_pairs, neT_pairs, ↓mk_put, ↓ne_nil, ↓eq_nil, get_nth, cast_mod, Int.toNat_natCast, ↓mk_pop, nat_nn, nat_nn', pairs_im, not_true_eq_false, not_false_eq_true])
theorem mark_ok (sp pg s p : Int) (ord ms : List Pl) (a : Nat) (a0 : 0 ≤ s) (a1 : s < sp) (b0 : 0 ≤ p) (b1 : p < pg) (nd : ms.Nodup) (hl : ms.length < 1000) : m_Ring_mark [rgTr sp pg ord ms a, .int s, .int p] = some (.ok .non, [rgTr sp pg ord (addM (s, p) ms) a, .int s, .int p]) := by
  have e1 := leaf_ok sp pg s p a0 a1 b0 b1
  unfold m_Ring_mark b_Ring_mark
  walk_at "vt"
  rw [e1]
  walk_at "vt"
theorem mark_ex2 (sp pg s p : Int) (ord ms : List Pl) (a : Nat) (h : s < 0 ∨ sp ≤ s) : m_Ring_mark [rgTr sp pg ord ms a, .int s, .int p] = some (.ex 3, [rgTr sp pg ord ms a, .int s, .int p]) := by
  have e1 := leaf_ex2 sp pg s p h
  unfold m_Ring_mark b_Ring_mark
  walk_at "vt"
  rw [e1]
  walk_at "vt"
theorem mark_ex3 (sp pg s p : Int) (ord ms : List Pl) (a : Nat) (a0 : 0 ≤ s) (a1 : s < sp) (h : p < 0 ∨ pg ≤ p) : m_Ring_mark [rgTr sp pg ord ms a, .int s, .int p] = some (.ex 4, [rgTr sp pg ord ms a, .int s, .int p]) := by
  have e1 := leaf_ex3 sp pg s p a0 a1 h
  unfold m_Ring_mark b_Ring_mark
  walk_at "vt"
  rw [e1]
  walk_at "vt"
theorem marked_eq (sp pg : Int) (ord ms : List Pl) (a : Nat) : m_Ring_marked [rgTr sp pg ord ms a] = some (.ok (plsT (srt ms)), [rgTr sp pg ord ms a]) := by
  unfold m_Ring_marked b_Ring_marked
  walk_at "vt"
theorem needle_eq (sp pg : Int) (ord ms : List Pl) (a : Nat) (h : a < ord.length) : m_Ring_needle [rgTr sp pg ord ms a] = some (.ok (pairT (nth ord a)), [rgTr sp pg ord ms a]) := by
  unfold m_Ring_needle b_Ring_needle
  walk_at "vt"
theorem isi_pl {l : List Pl} : isiT "list" (plsT l) = some (.bl true) := rfl
theorem app_pl {l : List Pl} {u : Pl} : (l.map pairT) ++ [.nd .tup [.int 0, .int 0]] = (l ++ [(0, 0)]).map pairT := by simp [pairT]
theorem dneg {a : Pl} : (decide (¬ a = a)) = false := by simp
theorem dneg' {a : List Pl} : (decide (¬ a = a)) = false := by simp
theorem dpos' {a : List Pl} : (decide (a = a)) = true := by simp
theorem stands_eq (sp pg : Int) (ord ms : List Pl) (a : Nat) (h : a < ord.length) (hl : ms.length < 1000) : m_law_stands [rgTr sp pg ord ms a, plsT ord, .int (a : Int), plsT ms] = some (.ok (.bl true), [rgTr sp pg ord ms a, plsT ord, .int (a : Int), plsT ms]) := by
  have e1 := marked_eq sp pg ord ms a
  have e2 := needle_eq sp pg ord ms a h
  have ls : (srt ms).length < 100000 := by unfold srt; rw [List.length_mergeSort]; omega
  unfold m_law_stands b_law_stands
  walk_at "vt"
  rw [e1]
  walk_at "vt"
  rw [e2]
  walk_at "vt"
  rw [e1]
  walk_at "vt"
/-! places drawn -/
theorem lc_filter {S : Int → Int → TSt} {j : Nat} {vs : List Nat} {cond elt : EF} (htg : ∀ p a s, tgN j (pairT p) (S a s) = some ((S a s).set j (some (pairT p)))) (hc : ∀ (a s : Int) (p : Pl), ∃ a' s' b, cond ((S a s).set j (some (pairT p))) = some (.ok (.bl b), (S a' s').set j (some (pairT p)))) (hw : ∀ a s p, wipeS ((S a s).set j (some (pairT p))) vs = S a s)
    (he : ∀ a s p, elt ((S a s).set j (some (pairT p))) = some (.ok (pairT p), (S a s).set j (some (pairT p)))) : ∀ (l : List Pl) (a s : Int) (acc : List T), ∃ (l' : List Pl) (a' s' : Int), runC j vs cond elt (l.map pairT) (S a s) acc = some (acc ++ l'.map pairT, S a' s') ∧ l'.Sublist l
  | [], a, s, acc => ⟨[], a, s, by simp [runC], .slnil⟩
  | p :: l, a, s, acc => by
    obtain ⟨a1, s1, b, e⟩ := hc a s p
    cases b with
    | true =>
      obtain ⟨l', a', s', e2, sb⟩ := lc_filter htg hc hw he l a1 s1 (acc ++ [pairT p])
      refine ⟨p :: l', a', s', ?_, sb.cons₂ p⟩
      rw [List.map_cons, runC, htg, Option.bind_some, e, Option.bind_some]
      show (elt _).bind _ = _
      rw [he, Option.bind_some]
      show runC j vs cond elt (l.map pairT) (wipeS _ vs) (acc ++ [pairT p]) = _
      rw [hw, e2]
      simp
    | false =>
      obtain ⟨l', a', s', e2, sb⟩ := lc_filter htg hc hw he l a1 s1 acc
      refine ⟨l', a', s', ?_, sb.cons p⟩
      rw [List.map_cons, runC, htg, Option.bind_some, e, Option.bind_some]
      show runC j vs cond elt (l.map pairT) (wipeS _ vs) acc = _
      rw [hw, e2]
theorem ixA_p0 {p : Pl} : ixA (pairT p) (.int 0) = some (.int p.1) := rfl
theorem ixA_p1 {p : Pl} : ixA (pairT p) (.int 1) = some (.int p.2) := rfl
theorem ixB_p0 {p : Pl} : ixB (pairT p) (.int 0) = some (.int p.1) := rfl
theorem ixB_p1 {p : Pl} : ixB (pairT p) (.int 1) = some (.int p.2) := rfl
def fr (w : Int) : Int := if w = 2 then 9 else if w = 3 then 2 else if w = 4 then 9 else 2
theorem ix4 {w : Int} (h0 : 2 ≤ w) (h1 : w ≤ 5) : ixB (.nd .lst [.int 9, .int 2, .int 9, .int 2]) (.int (w - 2)) = some (.int (fr w)) := by
  have h : w = 2 ∨ w = 3 ∨ w = 4 ∨ w = 5 := by omega
  rcases h with h | h | h | h <;> (subst h; rfl)
theorem fr_lt (w : Int) : 0 < fr w ∧ fr w ≤ 9 := by
  unfold fr
  split
  · omega
  · split
    · omega
    · split <;> omega
local macro_rules | `(tactic| walk_at "vtd") => `(tactic| first | omega | assumption | (simp only [List.length_set]; omega) | (simp only [plT, plAll, pl_ints, plI, Bool.and_true, Bool.and_self, ofS_ok, dg_ok, pl_e, pl_n, pl_p, pair_pl, pairsT_pl]; done))
local macro_rules | `(tactic| walk_at "vt") => `(tactic| simp (disch := walk_at "vtd") only [↓eOp_q, kOp1_ok, kOp2_ok, kEn_q, ↓eOpB_q, kOpB_ok, kB1_q, ↓eOpV_q, kOpV0_q, kOpV_ok, kV1_q, ↓eUn_q, kUn_ok, ↓eOfN_q, ↓bOp_q, kBop_q, ↓bUn_q, ↓bOfP_q, kPl_q, kAt_q, tAt_nil, tAt_nd, nC_q, ↓nOfB_q, pVar_q, kPV_q, eVar_q, kVar_q, ↓sSeq_q, kSeq_nx, kSeq_rt, kSeq_ex, kSeq_bk, kSeq_ct, ↓sSet_q, kSet_ok, ↓sRet_q, kRet_ok, ↓sExpr_q, kExpr_ok, sNil_q, ↓sIf_q, kIf_q, ↓eIf_q, kEIf_q, ↓eNot_q, kNot_q, ↓eAnd_q, kAnd_q, ↓eOr_q, kOr_q, aNil_q, ↓aVal_q, kA1_ok, kA2_ok, ↓aRef_q, kAr_q, kAr2_ok, argOf_q, kArg_q, ↓eDisp_q, kD1_ok, kD2_q, valsOf_nil, valsOf_val, kVl_q, ↓eCall_q, kCall_ok, callR_q, kC1_q, kC2_q, argT_nil, argT_val, argT_pth, kAT1_q, kAT2_q, putB_nil, putB_val, tPut_nil, tPut_nd, ↓nTup_q, kNT_q, kNT2_q, baNil_q, ↓baVal_q, kBV_q, kBV2_q, ↓baRef_q, kBR_q, kBR2_q, ↓mBody_q, kBody_q, kBody2_nx, kBody2_rt, kBody2_ex, allS_nil, allS_some, imO_int, imO_str, imO_bl, imO_non, imO_tup, im_int, im_str, im_bl, im_non, im_tup, im_fz, im_lst, im_obj, imAll_nil, imAll_cons, mu_lst, mu_obj, gd_pos, gd_tr, addT_i, subT_i, mulT_i, modT_i, fdivT_i, powT_i, ltT_i, leT_i, gtT_i, geT_i, minT_i, ixT_lst, ixT_fz, ixT_tup, lenT_lst, lenT_fz, lenT_tup, isT_n, isNotT_n, isN_non, isN_int, isN_nd, isN_str, ↓sMut_q, kMu_ok, kM0_q, kM1_q, kM2_q, kM3_q, ↓sSetI_q, kI0_ok, kI1_q, kI2_q, kI3_q, kI4_q, setM_q, kSM_q, ob_some, sl, atI, ixN, ↓pFld_q, kF1_q, kF2_q, kF3_q, kF4_q, ↓pIx_q, kX0_q, kX1_q, kX2_q, kX3_q, ↓eMeth_q, kMe_q, kMe2_q, ↓eMethP_q, kMP_q, kMP1_q, kMP2_q, kMP3_q, putB_q, kPB_q, ↓eMake_q, kMk_q, kMk2_q, kMk3_q, ↓eMutV_q, kLV0_q, kLV_q, kLV1_q, kLV2_q, kLV3_q, isLst_q, ↓eMutP_q, kLP_q, kLP0_q, kLP1_q, kLP2_q, kLP3_q, kLP4_q, appM_q, popM_q, kPop_q, putFM_q, kPF_s, kPF_n, ↓sForR_q, kFR_q, ↓sForE_q, kFE_q, kFE2_q, seqO_lst, seqO_fz, seqO_tup, ↓sForP_q, kFP_q, kFP1_q, kFP2_q, kFP3_q, kFP4_q, eqT_ii, neT_ii, inT_ints, notInT_ints, kL1_q, kL2_nx, kL2_ct, kL2_bk, kL2_rt, runL_nil, runL_cons, tgN_q, lcFrom_q, kLc_q, lcEnd_q, kLcE_q, ↓eLcP_q, kLcP_q, kLcP1_q, kLcP2_q, kLcP3_q, kLP5_q, wipeS_nil, wipeS_cons, restS_nil, restS_cons, kRs_n, kRs_s, listT_lst, listT_fz, listT_tup, slT_lst, isi_ii, isi_ib, isi_ll, eqT_pl, neT_pl, kSet_ex, kRet_ex, kExpr_ex, sRaise_q, ↓sTryK_q, kTry_ex, kTry_nx, kTry_rt, kTry2_q, ↓sUnp_q, kUnp_ok, kUnp2_q, tgU_lst, tgU_tup, setAll_n, setAll_c, ↓sAugI_q, kAg0_q, kAg1_q, kAg2_q, kAg3_q, kAg4_q, kAg5_q, augM_ints, ↓sSetVE_q, kSv1_ok, kSv2_q, kSv3_q, kSv4_ints, ↓nLst_q, kNL_q, kNL2_q, ↓eLcR_q, kLR_q, mulT_l, lrgT_q, eqT_ln, neT_ln, rep_ints, get_int, set_int, app_int, teq_int, teq_str, teq_non, teq_tnil, teq_tcons, teq_li, ixA_lst, ixA_fz, ixA_tup, ixA_str, ixB_lst, ixB_fz, ixB_tup, ixB_dK, ixB_dT, kDo_s, dix_Ki, dix_Ks, dix_T, kDt_q, keysT_n, keysT_i, keysT_s, kKc_q, ↓pIxA_q, kX7_q, kX6_q, kX5_q, kX4_lst, kX4_dK, kX4_dT, kX8_s, ↓bGet_q, kBG_q, kBG1_q, kBG2_q, kGD_s, kGD_n, isDi_K, isDi_T, isDi_l, ↓sSetA_q, kSA_ok, kSA_ex, kSA0_q, kSA1_q, kSA2_q, kSA3_q, kSA4_q, setA_l, setA_Ki, setA_Ks, setA_T, kSt_q, nDK_q, nDT_q, mu_dK, mu_dT, im_dK, im_dT, inA_l, inA_t, inA_f, notInA_l, notInA_t, notInA_f, negT_i, ↓bNot_q, kBNot_q, ↓bAnd_q, kBAnd_q, ↓bOr_q, kBOr_q, ↓bIf_q, kBIf_q, bYes_q, lockT_q, lcN_q, kNlc_q, ↓bLc_q, kBL_q, kBLc_q, ↓bLcR_q, kBLR_q, addA_i, addA_s, addA_ll, addA_fl, addA_tt, isA_n, isA_b, isNotA_n, isNotA_b, isB_bl, isB_non, isB_int, isB_str, isB_nd, isN_bl, strT_s, ↓eVarL_q, kVL_q, kVL2_q, addA_lf, beq_tt, beq_tf, beq_ft, beq_ff, ↓eCallO_q, kCallO_ok, callRO_q, kO1_q, kO2_q, pthOk_n, pthOk_v, pthOk_p, ↓mBodyO_q, kBO_q, kBO2_nx, kBO2_rt, kBO2_ex, Option.getD_none, ↓sUnpM_q, kUM_l, kUM_t, kUM_ex, ↓eDmP_q, kDP_q, kDP0_q, kDP1_q, ↓eDmV_q, kDV0_q, ↓sAugF_q, kGF_q, kGF1_q, kGF2_q, kGF3_q, kGF4_q, ↓sWhile_q, List.length_set, beq_self_eq_true, getD_set, and_true, true_and, or_true, true_or, and_self, List.map_cons, List.map_nil, List.eraseIdx_cons_zero, List.length_cons, List.length_nil, List.length_map, List.replicate, List.append_nil, List.cons_append, List.nil_append, List.getElem?_cons_zero, List.getElem?_cons_succ, List.set_cons_zero, List.set_cons_succ, List.getD_cons_zero, List.getD_cons_succ, Option.getD_some, List.take, Nat.reduceSub, Nat.reduceAdd, Nat.reduceEqDiff, if_true, if_false, reduceIte, if_pos, if_neg, Int.toNat_zero, Int.toNat_one, Int.reduceLT, Int.reduceLE, Int.reduceToNat, List.tail_cons, Nat.zero_add, Nat.reduceLeDiff, Nat.reduceLT, Bool.and_true, Bool.true_and, Bool.and_self, Bool.not_true, Bool.not_false, decide_eq_true_eq, decide_true, decide_false, Bool.false_eq_true, c0_spaces, i0_spaces, c0_many, i0_many, c0_grid, i0_grid, j0_spaces, j0_many, j0_grid, io0_look_at_space, io0_look_at_page, io0_leaf, io0_put, c1_bounds, i1_bounds, c1_order, i1_order, c1_marks, i1_marks, c1_at, i1_at, j1_bounds, j1_order, j1_marks, j1_at, io1_mark, io1_marked, io1_needle, io1_next_of, kn3, kn4, im_ints, eqT_bb, neT_bb, rg_len, pair_im, pair_imO, mk_im, mk_di, ↓mk_sort, ↓mk_in, ↓mk_notIn, sortT_l, ↓inA_pairs, ↓notInA_pairs, neT_pair, eqT_pairs, neT_pairs, ↓mk_put, ↓ne_nil, ↓eq_nil, get_nth, cast_mod, Int.toNat_natCast, ↓mk_pop, nat_nn, nat_nn', pairs_im, not_true_eq_false, not_false_eq_true, take_eq, ↓ixA_p0, ↓ixA_p1, ↓ixB_p0, ↓ixB_p1, ↓ix4])
abbrev C_some : EF := (eOpB eqT (eCall m_law_take 2 (aRef 0 (aVal (eOfN (nOfB (bOp ixB (nLst (baVal (nC (.int 9)) (baVal (nC (.int 2)) (baVal (nC (.int 9)) (baVal (nC (.int 2)) baNil))))) (bOp subT (bOfP (pVar 3)) (nC (.int 2)))))) aNil))) (nC (.int 0)))
theorem some_ex (a s : Int) (ord : List Pl) (h0 : 0 < ord.length) (h1 : ord.length ≤ 120) : ∃ (a' s' : Int) (sm : List Pl), m_law_some [bagT a s, plsT ord] = some (.ok (plsT sm), [bagT a' s', plsT ord]) ∧ ∀ q ∈ sm, q ∈ ord := by
  have t1 := tkR_lt a s 6 (by decide)
  have t2 := tkR_lt (tkA a 6) (tkS a s) (ord.length : Int) (by omega)
  unfold m_law_some b_law_some
  walk_at "vt"
  revert t1 t2
  generalize tkR (tkA a 6) (tkS a s) (ord.length : Int) = x
  generalize tkR a s 6 = w
  generalize tkA (tkA a 6) _ = a2
  generalize tkS (tkA a 6) _ = s2
  intro t1 t2
  by_cases w0 : w = 0
  · walk_at "vt"
    exact ⟨_, _, [], rfl, fun _ z => (nomatch z)⟩
  · by_cases w1 : w = 1
    · walk_at "vt"
      rw [runN_pure (gx := pairT) (q := fun q => decide (q.1 = (nth ord x.toNat).1)) (h := pairT) (fun p => [some (bagT a2 s2), some (plsT ord), some (.int (ord.length : Int)), some (.int w), some (.int (nth ord x.toNat).1), none, some (pairT p)]) ord (fun p _ => rfl) (fun p _ => ?_) fun p _ _ => rfl]
      · walk_at "vt"
        exact ⟨_, _, _, rfl, fun q z => (List.mem_filter.mp z).1⟩
      · walk_at "vt"
    · have f0 := fr_lt w
      obtain ⟨l', a', s', e, sb⟩ := lc_filter (j := 6) (vs := [6]) (S := fun a s => [some (bagT a s), none, some (.int (ord.length : Int)), some (.int w), some (.int (nth ord x.toNat).1), none, none]) (cond := C_some) (elt := eVar 6) (fun p a s => rfl) (fun a s p => by
        refine ⟨tkA a (fr w), tkS a s, decide (tkR a s (fr w) = 0), ?_⟩
        show C_some [some (bagT a s), none, some (.int (ord.length : Int)), some (.int w), some (.int (nth ord x.toNat).1), none, some (pairT p)] = some (.ok (.bl _), [some (bagT _ _), none, some (.int (ord.length : Int)), some (.int w), some (.int (nth ord x.toNat).1), none, some (pairT p)])
        walk_at "vt") (fun a s p => rfl) (fun a s p => by
        show eVar 6 [some (bagT a s), none, some (.int (ord.length : Int)), some (.int w), some (.int (nth ord x.toNat).1), none, some (pairT p)] = some (.ok (pairT p), [some (bagT a s), none, some (.int (ord.length : Int)), some (.int w), some (.int (nth ord x.toNat).1), none, some (pairT p)])
        walk_at "vt") ord a2 s2 []
      walk_at "vt"
      rw [e]
      by_cases w3 : 3 < w
      · walk_at "vt"
        rw [runN_pure (gx := pairT) (q := fun q => decide (¬ q ∈ l')) (h := pairT) (fun p => [some (bagT a' s'), some (plsT ord), some (.int (ord.length : Int)), some (.int w), some (.int (nth ord x.toNat).1), some (plsT l'), some (pairT p)]) ord (fun p _ => rfl) (fun p _ => ?_) fun p _ _ => rfl]
        · walk_at "vt"
          exact ⟨_, _, _, rfl, fun q z => (List.mem_filter.mp z).1⟩
        · walk_at "vt"
      · walk_at "vt"
        exact ⟨_, _, _, rfl, fun q z => sb.subset z⟩
end K28

namespace K28
open PySem L2 VT
def four (x y z u r : Int) : Int := if r = 0 then x else if r = 1 then y else if r = 2 then z else u
theorem ix4' {x y z u a s : Int} : ixA (.nd .lst [.int x, .int y, .int z, .int u]) (.int (tkR a s 4)) = some (.int (four x y z u (tkR a s 4))) := by
  have := tkR_lt a s 4 (by decide)
  have h : tkR a s 4 = 0 ∨ tkR a s 4 = 1 ∨ tkR a s 4 = 2 ∨ tkR a s 4 = 3 := by omega
  rcases h with h | h | h | h <;> (rw [h]; rfl)
def B_mk : SF := (sSeq (sSet 7 (eOfN (nC (.str ""))))
    (sSeq (sSet 8 (eOfN (nC .non)))
    (sSeq (sTryK kn 9 7 (sSet 8 (eMeth m_Ring_mark 3 1 "mark" 1 (aRef 5 (aRef 6 aNil)))))
    (sSeq (sIf (eOr (eOfN (bOp ltT (bOfP (pVar 5)) (nC (.int 0)))) (eOfN (bOp geT (bOfP (pVar 5)) (bOfP (pVar 2))))) (sRet (eOfN (bOp eqT (bOfP (pVar 7)) (nC (.str "NoSpace+"))))) sNil)
    (sSeq (sIf (eOr (eOfN (bOp ltT (bOfP (pVar 6)) (nC (.int 0)))) (eOfN (bOp geT (bOfP (pVar 6)) (bOfP (pVar 3))))) (sRet (eOfN (bOp eqT (bOfP (pVar 7)) (nC (.str "NoPage+"))))) sNil)
    (sSeq (sIf (eOfN (bOp notInA (nTup (baRef 5 (baRef 6 baNil))) (bOfP (pVar 4)))) (sExpr (eMutV appM 4 (aVal (eOfN (nTup (baRef 5 (baRef 6 baNil)))) aNil))) sNil)
    (sRet (eOfN (nOfB (bAnd (bOp eqT (bOfP (pVar 7)) (nC (.str ""))) (bOp isA (bOfP (pVar 8)) (nC .non))))))))))))
def B_mq : SF := (sSeq (sSet 5 (eCall m_law_take 2 (aRef 0 (aRef 2 aNil))))
    (sSeq (sSet 6 (eCall m_law_take 2 (aRef 0 (aRef 3 aNil))))
    (sSeq (sIf (eOpB eqT (eCall m_law_take 2 (aRef 0 (aVal (eOfN (nC (.int 8))) aNil))) (nC (.int 0))) (sSeq (sSet 5 (eOp ixA (eDisp .lst (aVal (eVar 5) (aVal (eVar 2) (aVal (eOfN (bUn negT (nC (.int 1)))) aNil)))) (eCall m_law_take 2 (aRef 0 (aVal (eOfN (nC (.int 3))) aNil)))))
    (sSet 6 (eOp ixA (eDisp .lst (aVal (eVar 6) (aVal (eVar 3) (aVal (eOfN (bUn negT (nC (.int 1)))) (aVal (eOfN (bOp powT (nC (.int 10)) (nC (.int 39)))) aNil))))) (eCall m_law_take 2 (aRef 0 (aVal (eOfN (nC (.int 4))) aNil)))))) sNil)
    B_mk)))
theorem mq_eq : b_law_marked = B_mq := rfl
theorem in_raw {s p : Int} {l : List Pl} : notInA (.nd .tup [.int s, .int p]) (plsT l) = some (.bl (decide (¬ (s, p) ∈ l))) := notInA_pairs (p := (s, p))
theorem app_raw {s p : Int} {l : List Pl} : (l.map pairT) ++ [.nd .tup [.int s, .int p]] = (l ++ [(s, p)]).map pairT := by simp [pairT]
theorem raw_pair {s p : Int} : T.nd .tup [.int s, .int p] = pairT (s, p) := rfl
local macro_rules | `(tactic| walk_at "vtd") => `(tactic| first | omega | assumption | (simp only [List.length_set]; omega) | (simp only [plT, plAll, pl_ints, plI, Bool.and_true, Bool.and_self, ofS_ok, dg_ok, pl_e, pl_n, pl_p, pair_pl, pairsT_pl]; done))
local macro_rules | `(tactic| walk_at "vt") => `(tactic| simp (disch := walk_at "vtd") only [↓eOp_q, kOp1_ok, kOp2_ok, kEn_q, ↓eOpB_q, kOpB_ok, kB1_q, ↓eOpV_q, kOpV0_q, kOpV_ok, kV1_q, ↓eUn_q, kUn_ok, ↓eOfN_q, ↓bOp_q, kBop_q, ↓bUn_q, ↓bOfP_q, kPl_q, kAt_q, tAt_nil, tAt_nd, nC_q, ↓nOfB_q, pVar_q, kPV_q, eVar_q, kVar_q, ↓sSeq_q, kSeq_nx, kSeq_rt, kSeq_ex, kSeq_bk, kSeq_ct, ↓sSet_q, kSet_ok, ↓sRet_q, kRet_ok, ↓sExpr_q, kExpr_ok, sNil_q, ↓sIf_q, kIf_q, ↓eIf_q, kEIf_q, ↓eNot_q, kNot_q, ↓eAnd_q, kAnd_q, ↓eOr_q, kOr_q, aNil_q, ↓aVal_q, kA1_ok, kA2_ok, ↓aRef_q, kAr_q, kAr2_ok, argOf_q, kArg_q, ↓eDisp_q, kD1_ok, kD2_q, valsOf_nil, valsOf_val, kVl_q, ↓eCall_q, kCall_ok, callR_q, kC1_q, kC2_q, argT_nil, argT_val, argT_pth, kAT1_q, kAT2_q, putB_nil, putB_val, tPut_nil, tPut_nd, ↓nTup_q, kNT_q, kNT2_q, baNil_q, ↓baVal_q, kBV_q, kBV2_q, ↓baRef_q, kBR_q, kBR2_q, ↓mBody_q, kBody_q, kBody2_nx, kBody2_rt, kBody2_ex, allS_nil, allS_some, imO_int, imO_str, imO_bl, imO_non, imO_tup, im_int, im_str, im_bl, im_non, im_tup, im_fz, im_lst, im_obj, imAll_nil, imAll_cons, mu_lst, mu_obj, gd_pos, gd_tr, addT_i, subT_i, mulT_i, modT_i, fdivT_i, powT_i, ltT_i, leT_i, gtT_i, geT_i, minT_i, ixT_lst, ixT_fz, ixT_tup, lenT_lst, lenT_fz, lenT_tup, isT_n, isNotT_n, isN_non, isN_int, isN_nd, isN_str, ↓sMut_q, kMu_ok, kM0_q, kM1_q, kM2_q, kM3_q, ↓sSetI_q, kI0_ok, kI1_q, kI2_q, kI3_q, kI4_q, setM_q, kSM_q, ob_some, sl, atI, ixN, ↓pFld_q, kF1_q, kF2_q, kF3_q, kF4_q, ↓pIx_q, kX0_q, kX1_q, kX2_q, kX3_q, ↓eMeth_q, kMe_q, kMe2_q, ↓eMethP_q, kMP_q, kMP1_q, kMP2_q, kMP3_q, putB_q, kPB_q, ↓eMake_q, kMk_q, kMk2_q, kMk3_q, ↓eMutV_q, kLV0_q, kLV_q, kLV1_q, kLV2_q, kLV3_q, isLst_q, ↓eMutP_q, kLP_q, kLP0_q, kLP1_q, kLP2_q, kLP3_q, kLP4_q, appM_q, popM_q, kPop_q, putFM_q, kPF_s, kPF_n, ↓sForR_q, kFR_q, ↓sForE_q, kFE_q, kFE2_q, seqO_lst, seqO_fz, seqO_tup, ↓sForP_q, kFP_q, kFP1_q, kFP2_q, kFP3_q, kFP4_q, eqT_ii, neT_ii, inT_ints, notInT_ints, kL1_q, kL2_nx, kL2_ct, kL2_bk, kL2_rt, runL_nil, runL_cons, tgN_q, lcFrom_q, kLc_q, lcEnd_q, kLcE_q, ↓eLcP_q, kLcP_q, kLcP1_q, kLcP2_q, kLcP3_q, kLP5_q, wipeS_nil, wipeS_cons, restS_nil, restS_cons, kRs_n, kRs_s, listT_lst, listT_fz, listT_tup, slT_lst, isi_ii, isi_ib, isi_ll, eqT_pl, neT_pl, kSet_ex, kRet_ex, kExpr_ex, sRaise_q, ↓sTryK_q, kTry_ex, kTry_nx, kTry_rt, kTry2_q, ↓sUnp_q, kUnp_ok, kUnp2_q, tgU_lst, tgU_tup, setAll_n, setAll_c, ↓sAugI_q, kAg0_q, kAg1_q, kAg2_q, kAg3_q, kAg4_q, kAg5_q, augM_ints, ↓sSetVE_q, kSv1_ok, kSv2_q, kSv3_q, kSv4_ints, ↓nLst_q, kNL_q, kNL2_q, ↓eLcR_q, kLR_q, mulT_l, lrgT_q, eqT_ln, neT_ln, rep_ints, get_int, set_int, app_int, teq_int, teq_str, teq_non, teq_tnil, teq_tcons, teq_li, ixA_lst, ixA_fz, ixA_tup, ixA_str, ixB_lst, ixB_fz, ixB_tup, ixB_dK, ixB_dT, kDo_s, dix_Ki, dix_Ks, dix_T, kDt_q, keysT_n, keysT_i, keysT_s, kKc_q, ↓pIxA_q, kX7_q, kX6_q, kX5_q, kX4_lst, kX4_dK, kX4_dT, kX8_s, ↓bGet_q, kBG_q, kBG1_q, kBG2_q, kGD_s, kGD_n, isDi_K, isDi_T, isDi_l, ↓sSetA_q, kSA_ok, kSA_ex, kSA0_q, kSA1_q, kSA2_q, kSA3_q, kSA4_q, setA_l, setA_Ki, setA_Ks, setA_T, kSt_q, nDK_q, nDT_q, mu_dK, mu_dT, im_dK, im_dT, inA_l, inA_t, inA_f, notInA_l, notInA_t, notInA_f, negT_i, ↓bNot_q, kBNot_q, ↓bAnd_q, kBAnd_q, ↓bOr_q, kBOr_q, ↓bIf_q, kBIf_q, bYes_q, lockT_q, lcN_q, kNlc_q, ↓bLc_q, kBL_q, kBLc_q, ↓bLcR_q, kBLR_q, addA_i, addA_s, addA_ll, addA_fl, addA_tt, isA_n, isA_b, isNotA_n, isNotA_b, isB_bl, isB_non, isB_int, isB_str, isB_nd, isN_bl, strT_s, ↓eVarL_q, kVL_q, kVL2_q, addA_lf, beq_tt, beq_tf, beq_ft, beq_ff, ↓eCallO_q, kCallO_ok, callRO_q, kO1_q, kO2_q, pthOk_n, pthOk_v, pthOk_p, ↓mBodyO_q, kBO_q, kBO2_nx, kBO2_rt, kBO2_ex, Option.getD_none, ↓sUnpM_q, kUM_l, kUM_t, kUM_ex, ↓eDmP_q, kDP_q, kDP0_q, kDP1_q, ↓eDmV_q, kDV0_q, ↓sAugF_q, kGF_q, kGF1_q, kGF2_q, kGF3_q, kGF4_q, ↓sWhile_q, List.length_set, beq_self_eq_true, getD_set, and_true, true_and, or_true, true_or, and_self, List.map_cons, List.map_nil, List.eraseIdx_cons_zero, List.length_cons, List.length_nil, List.length_map, List.replicate, List.append_nil, List.cons_append, List.nil_append, List.getElem?_cons_zero, List.getElem?_cons_succ, List.set_cons_zero, List.set_cons_succ, List.getD_cons_zero, List.getD_cons_succ, Option.getD_some, List.take, Nat.reduceSub, Nat.reduceAdd, Nat.reduceEqDiff, if_true, if_false, reduceIte, if_pos, if_neg, Int.toNat_zero, Int.toNat_one, Int.reduceLT, Int.reduceLE, Int.reduceToNat, List.tail_cons, Nat.zero_add, Nat.reduceLeDiff, Nat.reduceLT, Bool.and_true, Bool.true_and, Bool.and_self, Bool.not_true, Bool.not_false, decide_eq_true_eq, decide_true, decide_false, Bool.false_eq_true, c0_spaces, i0_spaces, c0_many, i0_many, c0_grid, i0_grid, j0_spaces, j0_many, j0_grid, io0_look_at_space, io0_look_at_page, io0_leaf, io0_put, c1_bounds, i1_bounds, c1_order, i1_order, c1_marks, i1_marks, c1_at, i1_at, j1_bounds, j1_order, j1_marks, j1_at, io1_mark, io1_marked, io1_needle, io1_next_of, kn3, kn4, im_ints, eqT_bb, neT_bb, rg_len, pair_im, pair_imO, mk_im, mk_di, ↓mk_sort, ↓mk_in, ↓mk_notIn, sortT_l, ↓inA_pairs, ↓notInA_pairs, neT_pair, eqT_pairs, neT_pairs, ↓mk_put, ↓ne_nil, ↓eq_nil, get_nth, cast_mod, Int.toNat_natCast, ↓mk_pop, nat_nn, nat_nn', pairs_im, not_true_eq_false, not_false_eq_true, take_eq, ↓ixA_p0, ↓ixA_p1, ↓ixB_p0, ↓ixB_p1, ↓ix4, ↓ix4', ↓ix3, ↓in_raw])
theorem mk_tail (bg : T) (hb : ¬ bg.im = true) (x y sp pg : Int) (ord ms : List Pl) (k : Nat) (nd : ms.Nodup) (hl : ms.length < 1000) : ∃ (o7 o8 o9 : Option T) (ms' : List Pl) , B_mk [some bg, some (rgTr sp pg ord ms k), some (.int sp), some (.int pg), some (plsT ms), some (.int x), some (.int y), none, none, none] = some (.rt (.bl true), [some bg, some (rgTr sp pg ord ms' k), some (.int sp), some (.int pg), some (plsT ms'), some (.int x), some (.int y), o7, o8, o9]) ∧ (ms' = ms ∨ (0 ≤ x ∧ x < sp ∧ 0 ≤ y ∧ y < pg ∧ ms' = addM (x, y) ms)) := by
  unfold B_mk
  by_cases a : x < 0 ∨ sp ≤ x
  · have e := mark_ex2 sp pg x y ord ms k a
    by_cases a1 : x < 0
    · walk_at "vt"
      rw [e]
      walk_at "vt"
      exact ⟨_, _, _, ms, rfl, .inl rfl⟩
    · have a2 : sp ≤ x := by omega
      walk_at "vt"
      rw [e]
      walk_at "vt"
      exact ⟨_, _, _, ms, rfl, .inl rfl⟩
  · by_cases b : y < 0 ∨ pg ≤ y
    · have e := mark_ex3 sp pg x y ord ms k (by omega) (by omega) b
      by_cases b1 : y < 0
      · walk_at "vt"
        rw [e]
        walk_at "vt"
        exact ⟨_, _, _, ms, rfl, .inl rfl⟩
      · have b2 : pg ≤ y := by omega
        walk_at "vt"
        rw [e]
        walk_at "vt"
        exact ⟨_, _, _, ms, rfl, .inl rfl⟩
    · have e := mark_ok sp pg x y ord ms k (by omega) (by omega) (by omega) (by omega) nd hl
      by_cases c : (x, y) ∈ ms
      · have c2 : ¬ ¬ (x, y) ∈ ms := fun z => z c
        have ea : addM (x, y) ms = ms := if_pos c
        rw [ea] at e
        walk_at "vt"
        rw [e]
        walk_at "vt"
        exact ⟨_, _, _, ms, rfl, .inl rfl⟩
      · have ea : addM (x, y) ms = ms ++ [(x, y)] := if_neg c
        rw [ea] at e
        walk_at "vt"
        rw [e]
        walk_at "vt"
        rw [app_raw]
        exact ⟨_, _, _, ms ++ [(x, y)], rfl, .inr ⟨by omega, by omega, by omega, by omega, ea.symm⟩⟩
theorem bag_im {a s : Int} : ¬ (bagT a s).im = true := by rw [im_lst]; simp
theorem marked_ex (a s sp pg : Int) (ord ms : List Pl) (k : Nat) (nd : ms.Nodup) (hl : ms.length < 1000) (h0 : 0 < sp) (h1 : sp ≤ 4) (h2 : 0 < pg) (h3 : pg ≤ 30) : ∃ (a' s' : Int) (ms' : List Pl), m_law_marked [bagT a s, rgTr sp pg ord ms k, .int sp, .int pg, plsT ms] = some (.ok (.bl true), [bagT a' s', rgTr sp pg ord ms' k, .int sp, .int pg, plsT ms']) ∧ (ms' = ms ∨ ∃ x y, 0 ≤ x ∧ x < sp ∧ 0 ≤ y ∧ y < pg ∧ ms' = addM (x, y) ms) := by
  unfold m_law_marked
  rw [mq_eq]
  unfold B_mq
  by_cases c : tkR (tkA (tkA a sp) pg) (tkS (tkA a sp) (tkS a s)) 8 = 0
  · walk_at "vt"
    generalize three _ _ _ _ = x
    generalize four _ _ _ _ _ = y
    generalize tkA _ 4 = a2
    generalize tkS _ _ = s2
    obtain ⟨o7, o8, o9, ms', e, hh⟩ := mk_tail (bagT a2 s2) bag_im x y sp pg ord ms k nd hl
    rw [e]
    walk_at "vt"
    exact ⟨_, _, ms', rfl, hh.imp_right fun z => ⟨x, y, z⟩⟩
  · walk_at "vt"
    generalize tkR a s sp = x
    generalize tkR (tkA a sp) _ pg = y
    generalize tkA _ 8 = a2
    generalize tkS _ _ = s2
    obtain ⟨o7, o8, o9, ms', e, hh⟩ := mk_tail (bagT a2 s2) bag_im x y sp pg ord ms k nd hl
    rw [e]
    walk_at "vt"
    exact ⟨_, _, ms', rfl, hh.imp_right fun z => ⟨x, y, z⟩⟩
end K28

namespace K28
open PySem L2 VT
theorem ne_oo : neT .non .non = some (.bl false) := rfl
theorem mem_ord {sp pg : Int} (h0 : 0 < sp) (h2 : 0 < pg) {q : Pl} : q ∈ ordOf sp pg ↔ 0 ≤ q.1 ∧ q.1 < sp ∧ 0 ≤ q.2 ∧ q.2 < pg := by
  unfold ordOf
  rw [List.mem_map]
  constructor
  · rintro ⟨k, hk, rfl⟩
    have hk := mem_rgI.mp hk
    exact ⟨Int.ediv_nonneg hk.1 (by omega), Int.ediv_lt_of_lt_mul h2 hk.2, Int.emod_nonneg _ (by omega), Int.emod_lt_of_pos _ h2⟩
  · rintro ⟨a, b, c, d⟩
    refine ⟨q.1 * pg + q.2, mem_rgI.mpr ⟨?_, ?_⟩, ?_⟩
    · have := Int.mul_nonneg a (Int.le_of_lt h2); omega
    · have : (q.1 + 1) * pg ≤ sp * pg := Int.mul_le_mul_of_nonneg_right (by omega) (by omega)
      rw [Int.add_mul] at this
      omega
    · have e1 : (q.1 * pg + q.2) / pg = q.1 := by
        rw [Int.add_comm, Int.add_mul_ediv_right _ _ (by omega), Int.ediv_eq_zero_of_lt c d]; omega
      have e2 : (q.1 * pg + q.2) % pg = q.2 := by
        rw [Int.add_comm, Int.add_mul_emod_self_right, Int.emod_eq_of_lt c d]
      rw [e1, e2]
theorem rgI_nd (n : Int) : (rgI n).Nodup := by
  unfold rgI
  exact List.Pairwise.map _ (fun a b h z => h (Int.ofNat.inj z)) List.nodup_range
theorem ord_nd (sp pg : Int) : (ordOf sp pg).Nodup := by
  unfold ordOf
  refine List.Pairwise.map _ (fun a b h z => h ?_) (rgI_nd _)
  injection z with z1 z2
  have e1 := Int.mul_ediv_add_emod a pg
  have e2 := Int.mul_ediv_add_emod b pg
  rw [z1, z2] at e1
  omega
theorem sub_len : ∀ {ms ord : List Pl}, ms.Nodup → (∀ q ∈ ms, q ∈ ord) → ms.length ≤ ord.length
  | [], _, _, _ => Nat.zero_le _
  | q :: ms, ord, nd, h => by
    rw [List.nodup_cons] at nd
    have hq := h q List.mem_cons_self
    have ih := sub_len (ms := ms) (ord := ord.erase q) nd.2 fun r hr => (List.mem_erase_of_ne fun z => nd.1 (by rw [← z]; exact hr)).mpr (h r (List.mem_cons_of_mem _ hr))
    rw [List.length_erase_of_mem hq] at ih
    have : 0 < ord.length := List.length_pos_of_mem hq
    simp
    omega
theorem addM_nd {p : Pl} {ms : List Pl} (h : ms.Nodup) : (addM p ms).Nodup := by
  unfold addM
  split
  · exact h
  · rename_i c
    exact List.nodup_append.mpr ⟨h, by simp, fun a ha b hb z => c (by
      rw [List.mem_singleton] at hb
      rw [← hb, ← z]; exact ha)⟩
theorem addM_sub {p q : Pl} {ms : List Pl} (h : q ∈ addM p ms) : q ∈ ms ∨ q = p := by
  unfold addM at h
  split at h
  · exact .inl h
  · rcases List.mem_append.mp h with z | z
    · exact .inl z
    · exact .inr (List.mem_singleton.mp z)
local macro_rules | `(tactic| walk_at "vtd") => `(tactic| first | omega | assumption | (simp only [List.length_set]; omega) | (simp only [plT, plAll, pl_ints, plI, Bool.and_true, Bool.and_self, ofS_ok, dg_ok, pl_e, pl_n, pl_p, pair_pl, pairsT_pl]; done))
local macro_rules | `(tactic| walk_at "vt") => `(tactic| simp (disch := walk_at "vtd") only [↓eOp_q, kOp1_ok, kOp2_ok, kEn_q, ↓eOpB_q, kOpB_ok, kB1_q, ↓eOpV_q, kOpV0_q, kOpV_ok, kV1_q, ↓eUn_q, kUn_ok, ↓eOfN_q, ↓bOp_q, kBop_q, ↓bUn_q, ↓bOfP_q, kPl_q, kAt_q, tAt_nil, tAt_nd, nC_q, ↓nOfB_q, pVar_q, kPV_q, eVar_q, kVar_q, ↓sSeq_q, kSeq_nx, kSeq_rt, kSeq_ex, kSeq_bk, kSeq_ct, ↓sSet_q, kSet_ok, ↓sRet_q, kRet_ok, ↓sExpr_q, kExpr_ok, sNil_q, ↓sIf_q, kIf_q, ↓eIf_q, kEIf_q, ↓eNot_q, kNot_q, ↓eAnd_q, kAnd_q, ↓eOr_q, kOr_q, aNil_q, ↓aVal_q, kA1_ok, kA2_ok, ↓aRef_q, kAr_q, kAr2_ok, argOf_q, kArg_q, ↓eDisp_q, kD1_ok, kD2_q, valsOf_nil, valsOf_val, kVl_q, ↓eCall_q, kCall_ok, callR_q, kC1_q, kC2_q, argT_nil, argT_val, argT_pth, kAT1_q, kAT2_q, putB_nil, putB_val, tPut_nil, tPut_nd, ↓nTup_q, kNT_q, kNT2_q, baNil_q, ↓baVal_q, kBV_q, kBV2_q, ↓baRef_q, kBR_q, kBR2_q, ↓mBody_q, kBody_q, kBody2_nx, kBody2_rt, kBody2_ex, allS_nil, allS_some, imO_int, imO_str, imO_bl, imO_non, imO_tup, im_int, im_str, im_bl, im_non, im_tup, im_fz, im_lst, im_obj, imAll_nil, imAll_cons, mu_lst, mu_obj, gd_pos, gd_tr, addT_i, subT_i, mulT_i, modT_i, fdivT_i, powT_i, ltT_i, leT_i, gtT_i, geT_i, minT_i, ixT_lst, ixT_fz, ixT_tup, lenT_lst, lenT_fz, lenT_tup, isT_n, isNotT_n, isN_non, isN_int, isN_nd, isN_str, ↓sMut_q, kMu_ok, kM0_q, kM1_q, kM2_q, kM3_q, ↓sSetI_q, kI0_ok, kI1_q, kI2_q, kI3_q, kI4_q, setM_q, kSM_q, ob_some, sl, atI, ixN, ↓pFld_q, kF1_q, kF2_q, kF3_q, kF4_q, ↓pIx_q, kX0_q, kX1_q, kX2_q, kX3_q, ↓eMeth_q, kMe_q, kMe2_q, ↓eMethP_q, kMP_q, kMP1_q, kMP2_q, kMP3_q, putB_q, kPB_q, ↓eMake_q, kMk_q, kMk2_q, kMk3_q, ↓eMutV_q, kLV0_q, kLV_q, kLV1_q, kLV2_q, kLV3_q, isLst_q, ↓eMutP_q, kLP_q, kLP0_q, kLP1_q, kLP2_q, kLP3_q, kLP4_q, appM_q, popM_q, kPop_q, putFM_q, kPF_s, kPF_n, ↓sForR_q, kFR_q, ↓sForE_q, kFE_q, kFE2_q, seqO_lst, seqO_fz, seqO_tup, ↓sForP_q, kFP_q, kFP1_q, kFP2_q, kFP3_q, kFP4_q, eqT_ii, neT_ii, inT_ints, notInT_ints, kL1_q, kL2_nx, kL2_ct, kL2_bk, kL2_rt, runL_nil, runL_cons, tgN_q, lcFrom_q, kLc_q, lcEnd_q, kLcE_q, ↓eLcP_q, kLcP_q, kLcP1_q, kLcP2_q, kLcP3_q, kLP5_q, wipeS_nil, wipeS_cons, restS_nil, restS_cons, kRs_n, kRs_s, listT_lst, listT_fz, listT_tup, slT_lst, isi_ii, isi_ib, isi_ll, eqT_pl, neT_pl, kSet_ex, kRet_ex, kExpr_ex, sRaise_q, ↓sTryK_q, kTry_ex, kTry_nx, kTry_rt, kTry2_q, ↓sUnp_q, kUnp_ok, kUnp2_q, tgU_lst, tgU_tup, setAll_n, setAll_c, ↓sAugI_q, kAg0_q, kAg1_q, kAg2_q, kAg3_q, kAg4_q, kAg5_q, augM_ints, ↓sSetVE_q, kSv1_ok, kSv2_q, kSv3_q, kSv4_ints, ↓nLst_q, kNL_q, kNL2_q, ↓eLcR_q, kLR_q, mulT_l, lrgT_q, eqT_ln, neT_ln, rep_ints, get_int, set_int, app_int, teq_int, teq_str, teq_non, teq_tnil, teq_tcons, teq_li, ixA_lst, ixA_fz, ixA_tup, ixA_str, ixB_lst, ixB_fz, ixB_tup, ixB_dK, ixB_dT, kDo_s, dix_Ki, dix_Ks, dix_T, kDt_q, keysT_n, keysT_i, keysT_s, kKc_q, ↓pIxA_q, kX7_q, kX6_q, kX5_q, kX4_lst, kX4_dK, kX4_dT, kX8_s, ↓bGet_q, kBG_q, kBG1_q, kBG2_q, kGD_s, kGD_n, isDi_K, isDi_T, isDi_l, ↓sSetA_q, kSA_ok, kSA_ex, kSA0_q, kSA1_q, kSA2_q, kSA3_q, kSA4_q, setA_l, setA_Ki, setA_Ks, setA_T, kSt_q, nDK_q, nDT_q, mu_dK, mu_dT, im_dK, im_dT, inA_l, inA_t, inA_f, notInA_l, notInA_t, notInA_f, negT_i, ↓bNot_q, kBNot_q, ↓bAnd_q, kBAnd_q, ↓bOr_q, kBOr_q, ↓bIf_q, kBIf_q, bYes_q, lockT_q, lcN_q, kNlc_q, ↓bLc_q, kBL_q, kBLc_q, ↓bLcR_q, kBLR_q, addA_i, addA_s, addA_ll, addA_fl, addA_tt, isA_n, isA_b, isNotA_n, isNotA_b, isB_bl, isB_non, isB_int, isB_str, isB_nd, isN_bl, strT_s, ↓eVarL_q, kVL_q, kVL2_q, addA_lf, beq_tt, beq_tf, beq_ft, beq_ff, ↓eCallO_q, kCallO_ok, callRO_q, kO1_q, kO2_q, pthOk_n, pthOk_v, pthOk_p, ↓mBodyO_q, kBO_q, kBO2_nx, kBO2_rt, kBO2_ex, Option.getD_none, ↓sUnpM_q, kUM_l, kUM_t, kUM_ex, ↓eDmP_q, kDP_q, kDP0_q, kDP1_q, ↓eDmV_q, kDV0_q, ↓sAugF_q, kGF_q, kGF1_q, kGF2_q, kGF3_q, kGF4_q, ↓sWhile_q, List.length_set, beq_self_eq_true, getD_set, and_true, true_and, or_true, true_or, and_self, List.map_cons, List.map_nil, List.eraseIdx_cons_zero, List.length_cons, List.length_nil, List.length_map, List.replicate, List.append_nil, List.cons_append, List.nil_append, List.getElem?_cons_zero, List.getElem?_cons_succ, List.set_cons_zero, List.set_cons_succ, List.getD_cons_zero, List.getD_cons_succ, Option.getD_some, List.take, Nat.reduceSub, Nat.reduceAdd, Nat.reduceEqDiff, if_true, if_false, reduceIte, if_pos, if_neg, Int.toNat_zero, Int.toNat_one, Int.reduceLT, Int.reduceLE, Int.reduceToNat, List.tail_cons, Nat.zero_add, Nat.reduceLeDiff, Nat.reduceLT, Bool.and_true, Bool.true_and, Bool.and_self, Bool.not_true, Bool.not_false, decide_eq_true_eq, decide_true, decide_false, Bool.false_eq_true, c0_spaces, i0_spaces, c0_many, i0_many, c0_grid, i0_grid, j0_spaces, j0_many, j0_grid, io0_look_at_space, io0_look_at_page, io0_leaf, io0_put, c1_bounds, i1_bounds, c1_order, i1_order, c1_marks, i1_marks, c1_at, i1_at, j1_bounds, j1_order, j1_marks, j1_at, io1_mark, io1_marked, io1_needle, io1_next_of, kn3, kn4, im_ints, eqT_bb, neT_bb, rg_len, pair_im, pair_imO, mk_im, mk_di, ↓mk_sort, ↓mk_in, ↓mk_notIn, sortT_l, ↓inA_pairs, ↓notInA_pairs, neT_pair, eqT_pairs, neT_pairs, ↓mk_put, ↓ne_nil, ↓eq_nil, get_nth, cast_mod, Int.toNat_natCast, ↓mk_pop, nat_nn, nat_nn', pairs_im, not_true_eq_false, not_false_eq_true, take_eq, ↓ixA_p0, ↓ixA_p1, ↓ixB_p0, ↓ixB_p1, ↓ne_oo])
abbrev B_ini : SF := (sExpr (eMeth m_Ring_mark 3 1 "mark" 4 (aVal (eOfN (nOfB (bOp ixB (bOfP (pVar 8)) (nC (.int 0))))) (aVal (eOfN (nOfB (bOp ixB (bOfP (pVar 8)) (nC (.int 1))))) aNil))))
theorem ini_loop (sc fi : T) (sp pg : Int) (ord : List Pl) (h0 : 0 < sp) (h2 : 0 < pg) : ∀ (l2 l1 : List Pl) (o8 : Option T), (l1 ++ l2).Nodup → (∀ q ∈ l2, q ∈ ordOf sp pg) → (l1 ++ l2).length < 1000 → ∃ o8', runL (tgN 8) B_ini (l2.map pairT) [some sc, some fi, some (.int sp), some (.int pg), some (rgTr sp pg ord l1 0), some (plsT ord), none, some (.int 0), o8, none, none, none, none, none, none] = some (.nx, [some sc, some fi, some (.int sp), some (.int pg), some (rgTr sp pg ord (l1 ++ l2) 0), some (plsT ord), none, some (.int 0), o8', none, none, none, none, none, none])
  | [], l1, o8, _, _, _ => ⟨o8, by rw [List.append_nil]; rfl⟩
  | q :: l2, l1, o8, nd, hs, hl => by
    have hq := (mem_ord h0 h2).mp (hs q List.mem_cons_self)
    have e1 : l1 ++ q :: l2 = (l1 ++ [q]) ++ l2 := by simp
    have nq : ¬ q ∈ l1 := fun z => (List.nodup_append.mp nd).2.2 q z q List.mem_cons_self rfl
    have hl1 : l1.length < 1000 := by rw [List.length_append] at hl; omega
    have e := mark_ok sp pg q.1 q.2 ord l1 0 hq.1 hq.2.1 hq.2.2.1 hq.2.2.2 (List.nodup_append.mp nd).1 hl1
    have ea : addM (q.1, q.2) l1 = l1 ++ [q] := if_neg nq
    rw [ea] at e
    obtain ⟨o8', ih⟩ := ini_loop sc fi sp pg ord h0 h2 l2 (l1 ++ [q]) (some (pairT q)) (by rw [← e1]; exact nd) (fun r hr => hs r (List.mem_cons_of_mem _ hr)) (by rw [← e1]; exact hl)
    refine ⟨o8', ?_⟩
    rw [e1, ← ih, List.map_cons, runL_cons]
    walk_at "vt"
    rw [e]
    walk_at "vt"
abbrev B_in : SF := (sSeq (sIf (eOpB eqT (eCall m_law_take 2 (aRef 10 (aVal (eOfN (nC (.int 3))) aNil))) (nC (.int 0))) (sIf (eNot (eCall m_law_marked 5 (aRef 10 (aRef 4 (aRef 2 (aRef 3 (aRef 6 aNil))))))) (sRet (eOfN (nC (.bl false)))) sNil) (sSeq (sSet 12 (eCall m_law_some 2 (aRef 10 (aRef 5 aNil))))
    (sSeq (sSet 13 (eOfN (bUn listT (bOfP (pVar 12)))))
    (sSeq (sUnpM [14, 7, 6] (eCallO m_law_next 4 (aRef 5 (aVal (eVar 6) (aVal (eVar 7) (aRef 12 aNil))))))
    (sIf (eOr (eOpB neT (eMeth m_Ring_next_of 2 1 "next_of" 4 (aRef 13 aNil)) (bOfP (pVar 14))) (eOfN (bOp neT (bOfP (pVar 13)) (bOfP (pVar 12))))) (sRet (eOfN (nC (.bl false)))) sNil)))))
    (sIf (eNot (eCall m_law_stands 4 (aRef 4 (aRef 5 (aRef 7 (aRef 6 aNil)))))) (sRet (eOfN (nC (.bl false)))) sNil))
abbrev lS (sc fi : T) (sp pg : Int) (ms : List Pl) (k : Nat) (o8 o9 o10 o11 o12 o13 o14 : Option T) : TSt := [some sc, some fi, some (.int sp), some (.int pg), some (rgTr sp pg (ordOf sp pg) ms k), some (plsT (ordOf sp pg)), some (plsT ms), some (.int (k : Int)), o8, o9, o10, o11, o12, o13, o14]
structure Iv (sp pg : Int) (ms : List Pl) (k : Nat) : Prop where
  nd : ms.Nodup
  sb : ∀ q ∈ ms, q ∈ ordOf sp pg
  lt : k < (ordOf sp pg).length
theorem Iv.len {sp pg : Int} {ms : List Pl} {k : Nat} (I : Iv sp pg ms k) : ms.length ≤ (ordOf sp pg).length := sub_len I.nd I.sb
theorem next_nil' {sp pg : Int} {ord sm : List Pl} {a : Nat} {ms : List Pl} (h : sm = []) : m_Ring_next_of [rgTr sp pg ord ms a, plsT sm] = some (.ok .non, [rgTr sp pg ord ms a, plsT sm]) := by rw [h]; exact next_nil
theorem lawn_nil' {ord sm : List Pl} {a : Nat} {ms : List Pl} (h : sm = []) : m_law_next [plsT ord, plsT ms, .int (a : Int), plsT sm] = some (.ok (.nd .lst [.non, .int (a : Int), plsT ms]), [some (plsT ord), none, none, some (plsT sm)]) := by rw [h]; exact lawn_nil
theorem body_eq (sc fi t : T) (a s sp pg : Int) (ms : List Pl) (k : Nat) (o8 o9 o12 o13 o14 : Option T) (I : Iv sp pg ms k) (h0 : 0 < sp) (h1 : sp ≤ 4) (h2 : 0 < pg) (h3 : pg ≤ 30) :
    ∃ (a' s' : Int) (ms' : List Pl) (k' : Nat) (o12' o13' o14' : Option T), B_in (lS sc fi sp pg ms k o8 o9 (some (bagT a s)) (some t) o12 o13 o14) = some (.nx, lS sc fi sp pg ms' k' o8 o9 (some (bagT a' s')) (some t) o12' o13' o14') ∧ Iv sp pg ms' k' := by
  have mb := mulB (Int.le_of_lt h0) h1 (Int.le_of_lt h2) h3
  have ol := ord_len sp pg
  have hl := I.len
  by_cases c : tkR a s 3 = 0
  · obtain ⟨a', s', ms', e, hm⟩ := marked_ex (tkA a 3) (tkS a s) sp pg (ordOf sp pg) ms k I.nd (by omega) h0 h1 h2 h3
    have I' : Iv sp pg ms' k := by
      rcases hm with rfl | ⟨x, y, hx0, hx1, hy0, hy1, rfl⟩
      · exact I
      · exact ⟨addM_nd I.nd, fun q hq => (addM_sub hq).elim (I.sb q) fun z => (mem_ord h0 h2).mpr (by rw [z]; exact ⟨hx0, hx1, hy0, hy1⟩), I.lt⟩
    have hl' := I'.len
    have es := stands_eq sp pg (ordOf sp pg) ms' k I.lt (by omega)
    refine ⟨a', s', ms', k, o12, o13, o14, ?_, I'⟩
    walk_at "vt"
    rw [e]
    walk_at "vt"
    rw [es]
    walk_at "vt"
  · obtain ⟨a', s', sm, e, hs⟩ := some_ex (tkA a 3) (tkS a s) (ordOf sp pg) (by have := I.lt; omega) (by omega)
    by_cases hne : sm = []
    · have e1 := next_nil' (sp := sp) (pg := pg) (ord := ordOf sp pg) (a := k) (ms := ms) hne
      have e2 := lawn_nil' (ord := ordOf sp pg) (a := k) (ms := ms) hne
      have es := stands_eq sp pg (ordOf sp pg) ms k I.lt (by omega)
      refine ⟨a', s', ms, k, some (plsT sm), some (plsT sm), some .non, ?_, I⟩
      walk_at "vt"
      rw [e]
      walk_at "vt"
      rw [e2]
      walk_at "vt"
      rw [e1]
      walk_at "vt"
      rw [es]
      walk_at "vt"
    · obtain ⟨d, hd, hd2⟩ := dist_ex hne hs I.lt
      obtain ⟨n, p, k', ms', hn, g⟩ := go_ex hne hs ms.length d k ms (Nat.le_refl _) I.lt hd2
      have hn2 : n < 1000000 := by
        have : ms.length * ((ordOf sp pg).length + 1) ≤ 120 * 121 := Nat.mul_le_mul (by omega) (by omega)
        omega
      have e1 := next_go (sp := sp) (pg := pg) hne g I.nd hn2
      have e2 := lawn_go hne g (by omega) hn2
      obtain ⟨i1, i2, i3, i4⟩ := go_inv g I.nd
      have es := stands_eq sp pg (ordOf sp pg) ms' k' i3 (by omega)
      refine ⟨a', s', ms', k', some (plsT sm), some (plsT sm), some (pairT p), ?_, ⟨i1, fun q z => I.sb q (i2 q z), i3⟩⟩
      walk_at "vt"
      rw [e]
      walk_at "vt"
      rw [e2]
      walk_at "vt"
      rw [e1]
      walk_at "vt"
      rw [es]
      walk_at "vt"
end K28

namespace K28
open PySem L2 VT
local macro_rules | `(tactic| walk_at "vtd") => `(tactic| first | omega | assumption | (simp only [List.length_set]; omega) | (simp only [plT, plAll, pl_ints, plI, Bool.and_true, Bool.and_self, ofS_ok, dg_ok, pl_e, pl_n, pl_p, pair_pl, pairsT_pl]; done))
local macro_rules | `(tactic| walk_at "vt") => `(tactic| simp (disch := walk_at "vtd") only [↓eOp_q, kOp1_ok, kOp2_ok, kEn_q, ↓eOpB_q, kOpB_ok, kB1_q, ↓eOpV_q, kOpV0_q, kOpV_ok, kV1_q, ↓eUn_q, kUn_ok, ↓eOfN_q, ↓bOp_q, kBop_q, ↓bUn_q, ↓bOfP_q, kPl_q, kAt_q, tAt_nil, tAt_nd, nC_q, ↓nOfB_q, pVar_q, kPV_q, eVar_q, kVar_q, ↓sSeq_q, kSeq_nx, kSeq_rt, kSeq_ex, kSeq_bk, kSeq_ct, ↓sSet_q, kSet_ok, ↓sRet_q, kRet_ok, ↓sExpr_q, kExpr_ok, sNil_q, ↓sIf_q, kIf_q, ↓eIf_q, kEIf_q, ↓eNot_q, kNot_q, ↓eAnd_q, kAnd_q, ↓eOr_q, kOr_q, aNil_q, ↓aVal_q, kA1_ok, kA2_ok, ↓aRef_q, kAr_q, kAr2_ok, argOf_q, kArg_q, ↓eDisp_q, kD1_ok, kD2_q, valsOf_nil, valsOf_val, kVl_q, ↓eCall_q, kCall_ok, callR_q, kC1_q, kC2_q, argT_nil, argT_val, argT_pth, kAT1_q, kAT2_q, putB_nil, putB_val, tPut_nil, tPut_nd, ↓nTup_q, kNT_q, kNT2_q, baNil_q, ↓baVal_q, kBV_q, kBV2_q, ↓baRef_q, kBR_q, kBR2_q, ↓mBody_q, kBody_q, kBody2_nx, kBody2_rt, kBody2_ex, allS_nil, allS_some, imO_int, imO_str, imO_bl, imO_non, imO_tup, im_int, im_str, im_bl, im_non, im_tup, im_fz, im_lst, im_obj, imAll_nil, imAll_cons, mu_lst, mu_obj, gd_pos, gd_tr, addT_i, subT_i, mulT_i, modT_i, fdivT_i, powT_i, ltT_i, leT_i, gtT_i, geT_i, minT_i, ixT_lst, ixT_fz, ixT_tup, lenT_lst, lenT_fz, lenT_tup, isT_n, isNotT_n, isN_non, isN_int, isN_nd, isN_str, ↓sMut_q, kMu_ok, kM0_q, kM1_q, kM2_q, kM3_q, ↓sSetI_q, kI0_ok, kI1_q, kI2_q, kI3_q, kI4_q, setM_q, kSM_q, ob_some, sl, atI, ixN, ↓pFld_q, kF1_q, kF2_q, kF3_q, kF4_q, ↓pIx_q, kX0_q, kX1_q, kX2_q, kX3_q, ↓eMeth_q, kMe_q, kMe2_q, ↓eMethP_q, kMP_q, kMP1_q, kMP2_q, kMP3_q, putB_q, kPB_q, ↓eMake_q, kMk_q, kMk2_q, kMk3_q, ↓eMutV_q, kLV0_q, kLV_q, kLV1_q, kLV2_q, kLV3_q, isLst_q, ↓eMutP_q, kLP_q, kLP0_q, kLP1_q, kLP2_q, kLP3_q, kLP4_q, appM_q, popM_q, kPop_q, putFM_q, kPF_s, kPF_n, ↓sForR_q, kFR_q, ↓sForE_q, kFE_q, kFE2_q, seqO_lst, seqO_fz, seqO_tup, ↓sForP_q, kFP_q, kFP1_q, kFP2_q, kFP3_q, kFP4_q, eqT_ii, neT_ii, inT_ints, notInT_ints, kL1_q, kL2_nx, kL2_ct, kL2_bk, kL2_rt, runL_nil, runL_cons, tgN_q, lcFrom_q, kLc_q, lcEnd_q, kLcE_q, ↓eLcP_q, kLcP_q, kLcP1_q, kLcP2_q, kLcP3_q, kLP5_q, wipeS_nil, wipeS_cons, restS_nil, restS_cons, kRs_n, kRs_s, listT_lst, listT_fz, listT_tup, slT_lst, isi_ii, isi_ib, isi_ll, eqT_pl, neT_pl, kSet_ex, kRet_ex, kExpr_ex, sRaise_q, ↓sTryK_q, kTry_ex, kTry_nx, kTry_rt, kTry2_q, ↓sUnp_q, kUnp_ok, kUnp2_q, tgU_lst, tgU_tup, setAll_n, setAll_c, ↓sAugI_q, kAg0_q, kAg1_q, kAg2_q, kAg3_q, kAg4_q, kAg5_q, augM_ints, ↓sSetVE_q, kSv1_ok, kSv2_q, kSv3_q, kSv4_ints, ↓nLst_q, kNL_q, kNL2_q, ↓eLcR_q, kLR_q, mulT_l, lrgT_q, eqT_ln, neT_ln, rep_ints, get_int, set_int, app_int, teq_int, teq_str, teq_non, teq_tnil, teq_tcons, teq_li, ixA_lst, ixA_fz, ixA_tup, ixA_str, ixB_lst, ixB_fz, ixB_tup, ixB_dK, ixB_dT, kDo_s, dix_Ki, dix_Ks, dix_T, kDt_q, keysT_n, keysT_i, keysT_s, kKc_q, ↓pIxA_q, kX7_q, kX6_q, kX5_q, kX4_lst, kX4_dK, kX4_dT, kX8_s, ↓bGet_q, kBG_q, kBG1_q, kBG2_q, kGD_s, kGD_n, isDi_K, isDi_T, isDi_l, ↓sSetA_q, kSA_ok, kSA_ex, kSA0_q, kSA1_q, kSA2_q, kSA3_q, kSA4_q, setA_l, setA_Ki, setA_Ks, setA_T, kSt_q, nDK_q, nDT_q, mu_dK, mu_dT, im_dK, im_dT, inA_l, inA_t, inA_f, notInA_l, notInA_t, notInA_f, negT_i, ↓bNot_q, kBNot_q, ↓bAnd_q, kBAnd_q, ↓bOr_q, kBOr_q, ↓bIf_q, kBIf_q, bYes_q, lockT_q, lcN_q, kNlc_q, ↓bLc_q, kBL_q, kBLc_q, ↓bLcR_q, kBLR_q, addA_i, addA_s, addA_ll, addA_fl, addA_tt, isA_n, isA_b, isNotA_n, isNotA_b, isB_bl, isB_non, isB_int, isB_str, isB_nd, isN_bl, strT_s, ↓eVarL_q, kVL_q, kVL2_q, addA_lf, beq_tt, beq_tf, beq_ft, beq_ff, ↓eCallO_q, kCallO_ok, callRO_q, kO1_q, kO2_q, pthOk_n, pthOk_v, pthOk_p, ↓mBodyO_q, kBO_q, kBO2_nx, kBO2_rt, kBO2_ex, Option.getD_none, ↓sUnpM_q, kUM_l, kUM_t, kUM_ex, ↓eDmP_q, kDP_q, kDP0_q, kDP1_q, ↓eDmV_q, kDV0_q, ↓sAugF_q, kGF_q, kGF1_q, kGF2_q, kGF3_q, kGF4_q, ↓sWhile_q, List.length_set, beq_self_eq_true, getD_set, and_true, true_and, or_true, true_or, and_self, List.map_cons, List.map_nil, List.eraseIdx_cons_zero, List.length_cons, List.length_nil, List.length_map, List.replicate, List.append_nil, List.cons_append, List.nil_append, List.getElem?_cons_zero, List.getElem?_cons_succ, List.set_cons_zero, List.set_cons_succ, List.getD_cons_zero, List.getD_cons_succ, Option.getD_some, List.take, Nat.reduceSub, Nat.reduceAdd, Nat.reduceEqDiff, if_true, if_false, reduceIte, if_pos, if_neg, Int.toNat_zero, Int.toNat_one, Int.reduceLT, Int.reduceLE, Int.reduceToNat, List.tail_cons, Nat.zero_add, Nat.reduceLeDiff, Nat.reduceLT, Bool.and_true, Bool.true_and, Bool.and_self, Bool.not_true, Bool.not_false, decide_eq_true_eq, decide_true, decide_false, Bool.false_eq_true, c0_spaces, i0_spaces, c0_many, i0_many, c0_grid, i0_grid, j0_spaces, j0_many, j0_grid, io0_look_at_space, io0_look_at_page, io0_leaf, io0_put, c1_bounds, i1_bounds, c1_order, i1_order, c1_marks, i1_marks, c1_at, i1_at, j1_bounds, j1_order, j1_marks, j1_at, io1_mark, io1_marked, io1_needle, io1_next_of, kn3, kn4, im_ints, eqT_bb, neT_bb, rg_len, pair_im, pair_imO, mk_im, mk_di, ↓mk_sort, ↓mk_in, ↓mk_notIn, sortT_l, ↓inA_pairs, ↓notInA_pairs, neT_pair, eqT_pairs, neT_pairs, ↓mk_put, ↓ne_nil, ↓eq_nil, get_nth, cast_mod, Int.toNat_natCast, ↓mk_pop, nat_nn, nat_nn', pairs_im, not_true_eq_false, not_false_eq_true, take_eq, ↓ixA_p0, ↓ixA_p1, ↓ixB_p0, ↓ixB_p1, ↓ne_oo, ↓ix2])
theorem in_loop (sc fi : T) (a s sp pg : Int) (ms : List Pl) (k : Nat) (o8 o9 o11 o12 o13 o14 : Option T) (I : Iv sp pg ms k) (h0 : 0 < sp) (h1 : sp ≤ 4) (h2 : 0 < pg) (h3 : pg ≤ 30) (N : Int) :
    ∃ (a' s' : Int) (ms' : List Pl) (k' : Nat) (o11' o12' o13' o14' : Option T), runL (tgN 11) B_in (rgT N) (lS sc fi sp pg ms k o8 o9 (some (bagT a s)) o11 o12 o13 o14) = some (.nx, lS sc fi sp pg ms' k' o8 o9 (some (bagT a' s')) o11' o12' o13' o14') ∧ Iv sp pg ms' k' := by
  obtain ⟨S', e, ⟨a', s', ms', k', o11', o12', o13', o14', hS, hI⟩⟩ := runL_inv (tf := tgN 11) (body := B_in) (I := fun _ S => ∃ (a s : Int) (ms : List Pl) (k : Nat) (o11 o12 o13 o14 : Option T), S = lS sc fi sp pg ms k o8 o9 (some (bagT a s)) o11 o12 o13 o14 ∧ Iv sp pg ms k) (rgT N) (lS sc fi sp pg ms k o8 o9 (some (bagT a s)) o11 o12 o13 o14)
    ⟨a, s, ms, k, o11, o12, o13, o14, rfl, I⟩ (by
      rintro n t S ht ⟨a, s, ms, k, o11, o12, o13, o14, rfl, I⟩
      rw [rgT_ints] at ht
      obtain ⟨j, hj, rfl⟩ := List.mem_map.mp ht
      obtain ⟨a', s', ms', k', o12', o13', o14', e, I'⟩ := body_eq sc fi (.int j) a s sp pg ms k o8 o9 o12 o13 o14 I h0 h1 h2 h3
      exact ⟨lS sc fi sp pg ms k o8 o9 (some (bagT a s)) (some (.int j)) o12 o13 o14, _, rfl, e, a', s', ms', k', _, o12', o13', o14', rfl, I'⟩)
  exact ⟨a', s', ms', k', o11', o12', o13', o14', by rw [e, hS], hI⟩
abbrev B_out : SF := (sSeq (sSet 10 (eCall m_law_bag 2 (aRef 0 (aRef 9 aNil))))
    (sForR (tgN 11) (eOp addA (eOfN (nC (.int 1))) (eCall m_law_take 2 (aRef 10 (aVal (eOfN (nC (.int 4))) aNil)))) B_in))
theorem out_loop (ns : List Int) (fi : T) (sp pg : Int) (ms : List Pl) (k : Nat) (o8 : Option T) (I : Iv sp pg ms k) (h0 : 0 < sp) (h1 : sp ≤ 4) (h2 : 0 < pg) (h3 : pg ≤ 30) (N : Int) (hN : N ≤ 66) :
    ∃ S', runL (tgN 9) B_out (rgT N) (lS (.nd .fz (ns.map .int)) fi sp pg ms k o8 none none none none none none) = some (.nx, S') ∧ ∃ (ms' : List Pl) (k' : Nat) (o9 o10 o11 o12 o13 o14 : Option T), S' = lS (.nd .fz (ns.map .int)) fi sp pg ms' k' o8 o9 o10 o11 o12 o13 o14 := by
  obtain ⟨S', e, ⟨ms', k', o9, o10, o11, o12, o13, o14, hS, hI⟩⟩ := runL_inv (tf := tgN 9) (body := B_out) (I := fun _ S => ∃ (ms : List Pl) (k : Nat) (o9 o10 o11 o12 o13 o14 : Option T), S = lS (.nd .fz (ns.map .int)) fi sp pg ms k o8 o9 o10 o11 o12 o13 o14 ∧ Iv sp pg ms k) (rgT N) (lS (.nd .fz (ns.map .int)) fi sp pg ms k o8 none none none none none none)
    ⟨ms, k, none, none, none, none, none, none, rfl, I⟩ (by
      rintro n t S ht ⟨ms, k, o9, o10, o11, o12, o13, o14, rfl, I⟩
      rw [rgT_ints] at ht
      obtain ⟨j, hj, rfl⟩ := List.mem_map.mp ht
      have hj2 := mem_rgI.mp hj
      obtain ⟨⟨a, s⟩, eb⟩ := bag_ex ns j hj2.1 (by omega)
      have t1 := tkR_lt a s 4 (by decide)
      obtain ⟨a', s', ms', k', o11', o12', o13', o14', e, I'⟩ := in_loop (.nd .fz (ns.map .int)) fi (tkA a 4) (tkS a s) sp pg ms k o8 (some (.int j)) o11 o12 o13 o14 I h0 h1 h2 h3 (1 + tkR a s 4)
      refine ⟨lS (.nd .fz (ns.map .int)) fi sp pg ms k o8 (some (.int j)) o10 o11 o12 o13 o14, lS (.nd .fz (ns.map .int)) fi sp pg ms' k' o8 (some (.int j)) (some (bagT a' s')) o11' o12' o13' o14', rfl, ?_, ms', k', _, _, o11', o12', o13', o14', rfl, I'⟩
      walk_at "vt"
      rw [eb]
      walk_at "vt"
      rw [e])
  exact ⟨S', e, ms', k', o9, o10, o11, o12, o13, o14, hS⟩
abbrev C_ini : EF := (eOpB gtT (eCall m_law_take 2 (aRef 1 (aVal (eOfN (nC (.int 4))) aNil))) (nC (.int 0)))
theorem law_end (ns : List Int) (hn : ns.length ≤ 63) : ∃ ts', m_law [.nd .fz (ns.map T.int)] = some (.ok (.bl true), ts') := by
  unfold m_law b_law
  obtain ⟨⟨a, s⟩, eb⟩ := bag_ex ns 0 (by decide) (by decide)
  have t1 := tkR_lt a s 4 (by decide)
  have t2 := two_le 3 30 (tkR (tkA a 4) (tkS a s) 2) 3 30 (by decide) (by decide) (by decide) (by decide)
  have t3 := tkR_lt (tkA (tkA a 4) 2) (tkS (tkA a 4) (tkS a s)) (two 3 30 (tkR (tkA a 4) (tkS a s) 2)) (by omega)
  walk_at "vt"
  rw [eb]
  walk_at "vt"
  revert t1 t3
  generalize tkR (tkA (tkA a 4) 2) (tkS (tkA a 4) (tkS a s)) (two 3 30 (tkR (tkA a 4) (tkS a s) 2)) = m0
  generalize tkR a s 4 = m1
  intro t1 t3
  generalize tkA (tkA (tkA a 4) 2) _ = a2
  generalize tkS (tkA (tkA a 4) 2) _ = s2
  have h0 : 0 < 1 + m1 := by omega
  have h1 : 1 + m1 ≤ 4 := by omega
  have h2 : 0 < 1 + m0 := by omega
  have h3 : 1 + m0 ≤ 30 := by omega
  generalize 1 + m1 = sp at *
  generalize 1 + m0 = pg at *
  have ei := init_r sp pg h0 h1 h2 h3
  have mb := mulB (Int.le_of_lt h0) h1 (Int.le_of_lt h2) h3
  have ol := ord_len sp pg
  have lr : (rgT (sp * pg)).length < 100000 := by rw [rg_len]; omega
  rw [ei]
  walk_at "vt"
  rw [run_ord (fun x => [some (.nd .fz (ns.map .int)), some (bagT a2 s2), some (.int sp), some (.int pg), some (rgTr sp pg (ordOf sp pg) [] 0), none, none, none, none, some (.int x), none, none, none, none, none]) (fun x => rfl) (fun x => rfl) fun x => ?_]
  · by_cases c : tkR a2 s2 3 = 0
    · obtain ⟨l', a', s', e, sb⟩ := lc_filter (j := 8) (vs := [8]) (S := fun a s => [some (.nd .fz (ns.map .int)), some (bagT a s), some (.int sp), some (.int pg), some (rgTr sp pg (ordOf sp pg) [] 0), none, some (.nd .lst []), some (.int 0), none, none, none, none, none, none, none]) (cond := C_ini) (elt := eVar 8) (fun p a s => rfl) (fun a s p => by
        refine ⟨tkA a 4, tkS a s, decide (0 < tkR a s 4), ?_⟩
        show C_ini [some (.nd .fz (ns.map .int)), some (bagT a s), some (.int sp), some (.int pg), some (rgTr sp pg (ordOf sp pg) [] 0), none, some (.nd .lst []), some (.int 0), some (pairT p), none, none, none, none, none, none] = some (.ok (.bl _), [some (.nd .fz (ns.map .int)), some (bagT _ _), some (.int sp), some (.int pg), some (rgTr sp pg (ordOf sp pg) [] 0), none, some (.nd .lst []), some (.int 0), some (pairT p), none, none, none, none, none, none])
        walk_at "vt") (fun a s p => rfl) (fun a s p => by
        show eVar 8 [some (.nd .fz (ns.map .int)), some (bagT a s), some (.int sp), some (.int pg), some (rgTr sp pg (ordOf sp pg) [] 0), none, some (.nd .lst []), some (.int 0), some (pairT p), none, none, none, none, none, none] = some (.ok (pairT p), [some (.nd .fz (ns.map .int)), some (bagT a s), some (.int sp), some (.int pg), some (rgTr sp pg (ordOf sp pg) [] 0), none, some (.nd .lst []), some (.int 0), some (pairT p), none, none, none, none, none, none])
        walk_at "vt") (ordOf sp pg) (tkA a2 3) (tkS a2 s2) []
      have nd' := (ord_nd sp pg).sublist sb
      have sub' : ∀ q ∈ l', q ∈ ordOf sp pg := fun q z => sb.subset z
      have ll := sub_len nd' sub'
      obtain ⟨o8, e2⟩ := ini_loop (.nd .fz (ns.map .int)) (bagT a' s') sp pg (ordOf sp pg) h0 h2 l' [] none nd' sub' (by simp; omega)
      have I : Iv sp pg l' 0 := ⟨nd', sub', by rw [ol]; have := Int.mul_pos h0 h2; omega⟩
      obtain ⟨S', e3, ms', k', o9, o10, o11, o12, o13, o14, rfl⟩ := out_loop ns (bagT a' s') sp pg l' 0 o8 I h0 h1 h2 h3 ((ns.length : Int) + 2) (by omega)
      have e3 : runL (tgN 9) B_out (rgT ((ns.length : Int) + 2)) [some (.nd .fz (ns.map .int)), some (bagT a' s'), some (.int sp), some (.int pg), some (rgTr sp pg (ordOf sp pg) l' 0), some (plsT (ordOf sp pg)), some (plsT l'), some (.int 0), o8, none, none, none, none, none, none] = _ := e3
      rw [List.nil_append] at e e2
      walk_at "vt"
      rw [e]
      walk_at "vt"
      rw [e2]
      walk_at "vt"
      rw [e3]
      walk_at "vt"
      exact ⟨_, rfl⟩
    · have I : Iv sp pg [] 0 := ⟨List.nodup_nil, fun _ z => (nomatch z), by rw [ol]; have := Int.mul_pos h0 h2; omega⟩
      obtain ⟨S', e3, ms', k', o9, o10, o11, o12, o13, o14, rfl⟩ := out_loop ns (bagT (tkA a2 3) (tkS a2 s2)) sp pg [] 0 none I h0 h1 h2 h3 ((ns.length : Int) + 2) (by omega)
      have e3 : runL (tgN 9) B_out (rgT ((ns.length : Int) + 2)) [some (.nd .fz (ns.map .int)), some (bagT (tkA a2 3) (tkS a2 s2)), some (.int sp), some (.int pg), some (rgTr sp pg (ordOf sp pg) [] 0), some (plsT (ordOf sp pg)), some (.nd .lst []), some (.int 0), none, none, none, none, none, none, none] = _ := e3
      walk_at "vt"
      rw [e3]
      walk_at "vt"
      exact ⟨_, rfl⟩
  · walk_at "vt"
    rfl
end K28

namespace K28
open PySem L2 VT
abbrev clOf (C0 C1 C3 C4 : Addr) : Nat → Addr
  | 0 => C0
  | 1 => C1
  | 3 => C3
  | 4 => C4
  | _ => 0
theorem all_mk {P : Program} {w : World} {K : PySem.W.Frag} {h : Heap} {mg : Str → Option Value} {fa C0 C1 C3 C4 f0 f1 f2 f3 f4 f5 f6 f7 f8 f9 f10 f11 f12 f13 f14 f15 fK A_NoCall A_Here A_BadRow A_Asleep A_NoLeaf A_NoHand A_NoDeed A_Taken A_NoRoom A_NoRight A_Waits A_CallError : Addr} (X : K.In h) (G : h.Ns mainGlobals mg) (hfa : mg "law" = some (.ref fa))
    {odK anK : Option Addr} {slK : Array (Option Value)} {ocK kVK dcK pmK cdK ctK : Value}
    {od0 an0 od1 an1 od2 an2 od3 an3 od4 an4 od5 an5 od6 an6 od7 an7 od8 an8 od9 an9 od10 an10 od11 an11 od12 an12 od13 an13 od14 an14 od15 an15 : Option Addr} {sl0 sl1 sl2 sl3 sl4 sl5 sl6 sl7 sl8 sl9 sl10 sl11 sl12 sl13 sl14 sl15 : Array (Option Value)} {oc0 kV0 dc0 pm0 cd0 ct0 oc1 kV1 dc1 pm1 cd1 ct1 oc2 kV2 dc2 pm2 cd2 ct2 oc3 kV3 dc3 pm3 cd3 ct3 oc4 kV4 dc4 pm4 cd4 ct4 oc5 kV5 dc5 pm5 cd5 ct5 oc6 kV6 dc6 pm6 cd6 ct6 oc7 kV7 dc7 pm7 cd7 ct7 oc8 kV8 dc8 pm8 cd8 ct8 oc9 kV9 dc9 pm9 cd9 ct9 oc10 kV10 dc10 pm10 cd10 ct10 oc11 kV11 dc11 pm11 cd11 ct11 oc12 kV12 dc12 pm12 cd12 ct12 oc13 kV13 dc13 pm13 cd13 ct13 oc14 kV14 dc14 pm14 cd14 ct14 oc15 kV15 dc15 pm15 cd15 ct15 : Value}
    (aA_NoCall : PySem.W.nsIn K mainGlobals "NoCall" = some (some (.ref A_NoCall)))
    (it_A_NoCall : PySem.W.typeIn K (.ref A_NoCall) = some (.type "type"))
    (ic_A_NoCall : PySem.W.isClsIn K A_NoCall = true)
    (aA_Here : PySem.W.nsIn K mainGlobals "Here" = some (some (.ref A_Here)))
    (it_A_Here : PySem.W.typeIn K (.ref A_Here) = some (.type "type"))
    (ic_A_Here : PySem.W.isClsIn K A_Here = true)
    (aA_BadRow : PySem.W.nsIn K mainGlobals "BadRow" = some (some (.ref A_BadRow)))
    (it_A_BadRow : PySem.W.typeIn K (.ref A_BadRow) = some (.type "type"))
    (ic_A_BadRow : PySem.W.isClsIn K A_BadRow = true)
    (aA_Asleep : PySem.W.nsIn K mainGlobals "Asleep" = some (some (.ref A_Asleep)))
    (it_A_Asleep : PySem.W.typeIn K (.ref A_Asleep) = some (.type "type"))
    (ic_A_Asleep : PySem.W.isClsIn K A_Asleep = true)
    (aA_NoLeaf : PySem.W.nsIn K mainGlobals "NoLeaf" = some (some (.ref A_NoLeaf)))
    (it_A_NoLeaf : PySem.W.typeIn K (.ref A_NoLeaf) = some (.type "type"))
    (ic_A_NoLeaf : PySem.W.isClsIn K A_NoLeaf = true)
    (aA_NoHand : PySem.W.nsIn K mainGlobals "NoHand" = some (some (.ref A_NoHand)))
    (it_A_NoHand : PySem.W.typeIn K (.ref A_NoHand) = some (.type "type"))
    (ic_A_NoHand : PySem.W.isClsIn K A_NoHand = true)
    (aA_NoDeed : PySem.W.nsIn K mainGlobals "NoDeed" = some (some (.ref A_NoDeed)))
    (it_A_NoDeed : PySem.W.typeIn K (.ref A_NoDeed) = some (.type "type"))
    (ic_A_NoDeed : PySem.W.isClsIn K A_NoDeed = true)
    (aA_Taken : PySem.W.nsIn K mainGlobals "Taken" = some (some (.ref A_Taken)))
    (it_A_Taken : PySem.W.typeIn K (.ref A_Taken) = some (.type "type"))
    (ic_A_Taken : PySem.W.isClsIn K A_Taken = true)
    (aA_NoRoom : PySem.W.nsIn K mainGlobals "NoRoom" = some (some (.ref A_NoRoom)))
    (it_A_NoRoom : PySem.W.typeIn K (.ref A_NoRoom) = some (.type "type"))
    (ic_A_NoRoom : PySem.W.isClsIn K A_NoRoom = true)
    (aA_NoRight : PySem.W.nsIn K mainGlobals "NoRight" = some (some (.ref A_NoRight)))
    (it_A_NoRight : PySem.W.typeIn K (.ref A_NoRight) = some (.type "type"))
    (ic_A_NoRight : PySem.W.isClsIn K A_NoRight = true)
    (aA_Waits : PySem.W.nsIn K mainGlobals "Waits" = some (some (.ref A_Waits)))
    (it_A_Waits : PySem.W.typeIn K (.ref A_Waits) = some (.type "type"))
    (ic_A_Waits : PySem.W.isClsIn K A_Waits = true)
    (aA_CallError : PySem.W.nsIn K mainGlobals "CallError" = some (some (.ref A_CallError)))
    (it_A_CallError : PySem.W.typeIn K (.ref A_CallError) = some (.type "type"))
    (cb : PySem.W.subIn K (.ref A_CallError) (.type "BaseException") = some true)
    (cd : PySem.W.hasDictIn K A_CallError = true)
    (aC3 : PySem.W.nsIn K mainGlobals "NoSpace" = some (some (.ref C3)))
    (aC4 : PySem.W.nsIn K mainGlobals "NoPage" = some (some (.ref C4)))
    (xe3 : PySem.W.excIn K C3 [.type "ValueError", .type "Exception", .type "BaseException", .type "object"] "ValueError.__new__" = true)
    (kc3 : PySem.W.keepIn K (.ref C3) = true)
    (xs3 : PySem.W.subIn K (.ref C3) (.type "BaseException") = some true)
    (xt3 : PySem.W.typeIn K (.ref C3) = some (.type "type"))
    (e1_3 : PySem.W.findIn K (.ref C3) "__getattribute__" = some (some (.builtin "BaseException.__getattribute__")))
    (e2_3 : PySem.W.findIn K (.ref C3) "__getattr__" = some none)
    (e3_3 : PySem.W.hasDictIn K C3 = true)
    (e4_3 : PySem.W.findIn K (.ref C3) "__class__" = some (some (.builtin "object.__class__")))
    (e5_3 : PySem.W.specialIn K (.builtin "object.__class__") "__get__" = some (some (.builtin "getset_descriptor.__get__")))
    (e6_3 : PySem.W.takesIn K (.builtin "object.__class__") = some true)
    (e7_3 : PySem.W.mroIn K C3 (.type "object") = some true)
    (ic_C3 : PySem.W.isClsIn K C3 = true)
    (ss3 : PySem.W.subIn K (.ref C3) (.ref C3) = some true)
    (q3_0 : PySem.W.subIn K (.ref C3) (.ref A_NoCall) = some false)
    (q3_1 : PySem.W.subIn K (.ref C3) (.ref A_Here) = some false)
    (q3_2 : PySem.W.subIn K (.ref C3) (.ref A_BadRow) = some false)
    (q3_3 : PySem.W.subIn K (.ref C3) (.ref A_Asleep) = some false)
    (q3_4 : PySem.W.subIn K (.ref C3) (.ref C4) = some false)
    (q3_5 : PySem.W.subIn K (.ref C3) (.ref A_NoLeaf) = some false)
    (q3_6 : PySem.W.subIn K (.ref C3) (.ref A_NoHand) = some false)
    (q3_7 : PySem.W.subIn K (.ref C3) (.ref A_NoDeed) = some false)
    (q3_8 : PySem.W.subIn K (.ref C3) (.ref A_Taken) = some false)
    (q3_10 : PySem.W.subIn K (.ref C3) (.ref A_NoRoom) = some false)
    (q3_11 : PySem.W.subIn K (.ref C3) (.ref A_NoRight) = some false)
    (q3_12 : PySem.W.subIn K (.ref C3) (.type "ValueError") = some true)
    (q3_13 : PySem.W.subIn K (.ref C3) (.ref A_Waits) = some false)
    (xm3 : PySem.W.subIn K (.ref C3) (.ref A_CallError) = some true)
    (xe4 : PySem.W.excIn K C4 [.type "ValueError", .type "Exception", .type "BaseException", .type "object"] "ValueError.__new__" = true)
    (kc4 : PySem.W.keepIn K (.ref C4) = true)
    (xs4 : PySem.W.subIn K (.ref C4) (.type "BaseException") = some true)
    (xt4 : PySem.W.typeIn K (.ref C4) = some (.type "type"))
    (e1_4 : PySem.W.findIn K (.ref C4) "__getattribute__" = some (some (.builtin "BaseException.__getattribute__")))
    (e2_4 : PySem.W.findIn K (.ref C4) "__getattr__" = some none)
    (e3_4 : PySem.W.hasDictIn K C4 = true)
    (e4_4 : PySem.W.findIn K (.ref C4) "__class__" = some (some (.builtin "object.__class__")))
    (e5_4 : PySem.W.specialIn K (.builtin "object.__class__") "__get__" = some (some (.builtin "getset_descriptor.__get__")))
    (e6_4 : PySem.W.takesIn K (.builtin "object.__class__") = some true)
    (e7_4 : PySem.W.mroIn K C4 (.type "object") = some true)
    (ic_C4 : PySem.W.isClsIn K C4 = true)
    (ss4 : PySem.W.subIn K (.ref C4) (.ref C4) = some true)
    (q4_0 : PySem.W.subIn K (.ref C4) (.ref A_NoCall) = some false)
    (q4_1 : PySem.W.subIn K (.ref C4) (.ref A_Here) = some false)
    (q4_2 : PySem.W.subIn K (.ref C4) (.ref A_BadRow) = some false)
    (q4_3 : PySem.W.subIn K (.ref C4) (.ref A_Asleep) = some false)
    (q4_5 : PySem.W.subIn K (.ref C4) (.ref A_NoLeaf) = some false)
    (q4_6 : PySem.W.subIn K (.ref C4) (.ref A_NoHand) = some false)
    (q4_7 : PySem.W.subIn K (.ref C4) (.ref A_NoDeed) = some false)
    (q4_8 : PySem.W.subIn K (.ref C4) (.ref A_Taken) = some false)
    (q4_9 : PySem.W.subIn K (.ref C4) (.ref C3) = some false)
    (q4_10 : PySem.W.subIn K (.ref C4) (.ref A_NoRoom) = some false)
    (q4_11 : PySem.W.subIn K (.ref C4) (.ref A_NoRight) = some false)
    (q4_12 : PySem.W.subIn K (.ref C4) (.type "ValueError") = some true)
    (q4_13 : PySem.W.subIn K (.ref C4) (.ref A_Waits) = some false)
    (xm4 : PySem.W.subIn K (.ref C4) (.ref A_CallError) = some true)
    (aK : PySem.W.nsIn K mainGlobals "_law_kinds" = some (some (.ref fK)))
    (lK : K.lookup fK = some ⟨ocK, odK, .func (PySem.W.fnOf "_law_kinds" "_law_kinds" (defArgs s_law_kinds) (defBody s_law_kinds) (defScope s_law_kinds) .none kVK dcK pmK anK cdK ctK), slK⟩)
    (cK : PySem.W.codeIn K cdK "_law_kinds" = true)
    (kK : PySem.W.keepIn K (.ref fK) = true)
    (aC0 : PySem.W.nsIn K mainGlobals "Tables" = some (some (.ref C0)))
    (pg0 : PySem.W.plainGet K C0 Str.empty = true)
    (hd0 : PySem.W.hasDictIn K C0 = true)
    (po0 : PySem.W.plainOver K C0 = true)
    (sa0 : PySem.W.findIn K (.ref C0) "__setattr__" = some (some (.builtin "object.__setattr__")))
    (mk0 : PySem.W.makesIn K C0 = true)
    (kc0 : PySem.W.keepIn K (.ref C0) = true)
    (nf0_0 : PySem.W.findIn K (.ref C0) "spaces" = some none)
    (nf0_1 : PySem.W.findIn K (.ref C0) "many" = some none)
    (nf0_2 : PySem.W.findIn K (.ref C0) "grid" = some none)
    (aC1 : PySem.W.nsIn K mainGlobals "Ring" = some (some (.ref C1)))
    (pg1 : PySem.W.plainGet K C1 Str.empty = true)
    (hd1 : PySem.W.hasDictIn K C1 = true)
    (po1 : PySem.W.plainOver K C1 = true)
    (sa1 : PySem.W.findIn K (.ref C1) "__setattr__" = some (some (.builtin "object.__setattr__")))
    (mk1 : PySem.W.makesIn K C1 = true)
    (kc1 : PySem.W.keepIn K (.ref C1) = true)
    (nf1_0 : PySem.W.findIn K (.ref C1) "bounds" = some none)
    (nf1_1 : PySem.W.findIn K (.ref C1) "order" = some none)
    (nf1_2 : PySem.W.findIn K (.ref C1) "marks" = some none)
    (nf1_3 : PySem.W.findIn K (.ref C1) "at" = some none)
    (a0 : PySem.W.findIn K (.ref C0) "__init__" = some (some (.ref f0)))
    (i0 : PySem.W.isFn K (.ref f0) = true)
    (l0 : K.lookup f0 = some ⟨oc0, od0, .func (PySem.W.fnOf "__init__" "Tables.__init__" (defArgs s_Tables___init) (defBody s_Tables___init) (defScope s_Tables___init) .none kV0 dc0 pm0 an0 cd0 ct0), sl0⟩)
    (c0 : PySem.W.codeIn K cd0 "Tables.__init__" = true)
    (k0 : PySem.W.keepIn K (.ref f0) = true)
    (a1 : PySem.W.findIn K (.ref C0) "look_at_space" = some (some (.ref f1)))
    (i1 : PySem.W.isFn K (.ref f1) = true)
    (l1 : K.lookup f1 = some ⟨oc1, od1, .func (PySem.W.fnOf "look_at_space" "Tables.look_at_space" (defArgs s_Tables_look_at_space) (defBody s_Tables_look_at_space) (defScope s_Tables_look_at_space) .none kV1 dc1 pm1 an1 cd1 ct1), sl1⟩)
    (c1 : PySem.W.codeIn K cd1 "Tables.look_at_space" = true)
    (k1 : PySem.W.keepIn K (.ref f1) = true)
    (a2 : PySem.W.findIn K (.ref C0) "look_at_page" = some (some (.ref f2)))
    (i2 : PySem.W.isFn K (.ref f2) = true)
    (l2 : K.lookup f2 = some ⟨oc2, od2, .func (PySem.W.fnOf "look_at_page" "Tables.look_at_page" (defArgs s_Tables_look_at_page) (defBody s_Tables_look_at_page) (defScope s_Tables_look_at_page) .none kV2 dc2 pm2 an2 cd2 ct2), sl2⟩)
    (c2 : PySem.W.codeIn K cd2 "Tables.look_at_page" = true)
    (k2 : PySem.W.keepIn K (.ref f2) = true)
    (a3 : PySem.W.findIn K (.ref C0) "leaf" = some (some (.ref f3)))
    (i3 : PySem.W.isFn K (.ref f3) = true)
    (l3 : K.lookup f3 = some ⟨oc3, od3, .func (PySem.W.fnOf "leaf" "Tables.leaf" (defArgs s_Tables_leaf) (defBody s_Tables_leaf) (defScope s_Tables_leaf) .none kV3 dc3 pm3 an3 cd3 ct3), sl3⟩)
    (c3 : PySem.W.codeIn K cd3 "Tables.leaf" = true)
    (k3 : PySem.W.keepIn K (.ref f3) = true)
    (a4 : PySem.W.findIn K (.ref C1) "__init__" = some (some (.ref f4)))
    (i4 : PySem.W.isFn K (.ref f4) = true)
    (l4 : K.lookup f4 = some ⟨oc4, od4, .func (PySem.W.fnOf "__init__" "Ring.__init__" (defArgs s_Ring___init) (defBody s_Ring___init) (defScope s_Ring___init) .none kV4 dc4 pm4 an4 cd4 ct4), sl4⟩)
    (c4 : PySem.W.codeIn K cd4 "Ring.__init__" = true)
    (k4 : PySem.W.keepIn K (.ref f4) = true)
    (a5 : PySem.W.findIn K (.ref C1) "mark" = some (some (.ref f5)))
    (i5 : PySem.W.isFn K (.ref f5) = true)
    (l5 : K.lookup f5 = some ⟨oc5, od5, .func (PySem.W.fnOf "mark" "Ring.mark" (defArgs s_Ring_mark) (defBody s_Ring_mark) (defScope s_Ring_mark) .none kV5 dc5 pm5 an5 cd5 ct5), sl5⟩)
    (c5 : PySem.W.codeIn K cd5 "Ring.mark" = true)
    (k5 : PySem.W.keepIn K (.ref f5) = true)
    (a6 : PySem.W.findIn K (.ref C1) "marked" = some (some (.ref f6)))
    (i6 : PySem.W.isFn K (.ref f6) = true)
    (l6 : K.lookup f6 = some ⟨oc6, od6, .func (PySem.W.fnOf "marked" "Ring.marked" (defArgs s_Ring_marked) (defBody s_Ring_marked) (defScope s_Ring_marked) .none kV6 dc6 pm6 an6 cd6 ct6), sl6⟩)
    (c6 : PySem.W.codeIn K cd6 "Ring.marked" = true)
    (k6 : PySem.W.keepIn K (.ref f6) = true)
    (a7 : PySem.W.findIn K (.ref C1) "needle" = some (some (.ref f7)))
    (i7 : PySem.W.isFn K (.ref f7) = true)
    (l7 : K.lookup f7 = some ⟨oc7, od7, .func (PySem.W.fnOf "needle" "Ring.needle" (defArgs s_Ring_needle) (defBody s_Ring_needle) (defScope s_Ring_needle) .none kV7 dc7 pm7 an7 cd7 ct7), sl7⟩)
    (c7 : PySem.W.codeIn K cd7 "Ring.needle" = true)
    (k7 : PySem.W.keepIn K (.ref f7) = true)
    (a8 : PySem.W.findIn K (.ref C1) "next_of" = some (some (.ref f8)))
    (i8 : PySem.W.isFn K (.ref f8) = true)
    (l8 : K.lookup f8 = some ⟨oc8, od8, .func (PySem.W.fnOf "next_of" "Ring.next_of" (defArgs s_Ring_next_of) (defBody s_Ring_next_of) (defScope s_Ring_next_of) .none kV8 dc8 pm8 an8 cd8 ct8), sl8⟩)
    (c8 : PySem.W.codeIn K cd8 "Ring.next_of" = true)
    (k8 : PySem.W.keepIn K (.ref f8) = true)
    (a9 : PySem.W.nsIn K mainGlobals "_law_bag" = some (some (.ref f9)))
    (l9 : K.lookup f9 = some ⟨oc9, od9, .func (PySem.W.fnOf "_law_bag" "_law_bag" (defArgs s_law_bag) (defBody s_law_bag) (defScope s_law_bag) .none kV9 dc9 pm9 an9 cd9 ct9), sl9⟩)
    (c9 : PySem.W.codeIn K cd9 "_law_bag" = true)
    (k9 : PySem.W.keepIn K (.ref f9) = true)
    (a10 : PySem.W.nsIn K mainGlobals "_law_take" = some (some (.ref f10)))
    (l10 : K.lookup f10 = some ⟨oc10, od10, .func (PySem.W.fnOf "_law_take" "_law_take" (defArgs s_law_take) (defBody s_law_take) (defScope s_law_take) .none kV10 dc10 pm10 an10 cd10 ct10), sl10⟩)
    (c10 : PySem.W.codeIn K cd10 "_law_take" = true)
    (k10 : PySem.W.keepIn K (.ref f10) = true)
    (a11 : PySem.W.nsIn K mainGlobals "_law_next" = some (some (.ref f11)))
    (l11 : K.lookup f11 = some ⟨oc11, od11, .func (PySem.W.fnOf "_law_next" "_law_next" (defArgs s_law_next) (defBody s_law_next) (defScope s_law_next) .none kV11 dc11 pm11 an11 cd11 ct11), sl11⟩)
    (c11 : PySem.W.codeIn K cd11 "_law_next" = true)
    (k11 : PySem.W.keepIn K (.ref f11) = true)
    (a12 : PySem.W.nsIn K mainGlobals "_law_some" = some (some (.ref f12)))
    (l12 : K.lookup f12 = some ⟨oc12, od12, .func (PySem.W.fnOf "_law_some" "_law_some" (defArgs s_law_some) (defBody s_law_some) (defScope s_law_some) .none kV12 dc12 pm12 an12 cd12 ct12), sl12⟩)
    (c12 : PySem.W.codeIn K cd12 "_law_some" = true)
    (k12 : PySem.W.keepIn K (.ref f12) = true)
    (a13 : PySem.W.nsIn K mainGlobals "_law_marked" = some (some (.ref f13)))
    (l13 : K.lookup f13 = some ⟨oc13, od13, .func (PySem.W.fnOf "_law_marked" "_law_marked" (defArgs s_law_marked) (defBody s_law_marked) (defScope s_law_marked) .none kV13 dc13 pm13 an13 cd13 ct13), sl13⟩)
    (c13 : PySem.W.codeIn K cd13 "_law_marked" = true)
    (k13 : PySem.W.keepIn K (.ref f13) = true)
    (a14 : PySem.W.nsIn K mainGlobals "_law_stands" = some (some (.ref f14)))
    (l14 : K.lookup f14 = some ⟨oc14, od14, .func (PySem.W.fnOf "_law_stands" "_law_stands" (defArgs s_law_stands) (defBody s_law_stands) (defScope s_law_stands) .none kV14 dc14 pm14 an14 cd14 ct14), sl14⟩)
    (c14 : PySem.W.codeIn K cd14 "_law_stands" = true)
    (k14 : PySem.W.keepIn K (.ref f14) = true)
    (a15 : PySem.W.nsIn K mainGlobals "law" = some (some (.ref f15)))
    (l15 : K.lookup f15 = some ⟨oc15, od15, .func (PySem.W.fnOf "law" "law" (defArgs s_law) (defBody s_law) (defScope s_law) .none kV15 dc15 pm15 an15 cd15 ct15), sl15⟩)
    (c15 : PySem.W.codeIn K cd15 "law" = true)
    (k15 : PySem.W.keepIn K (.ref f15) = true)
    (z0 : PySem.W.nsIn K mainGlobals "ValueError" = some none)
    (z1 : PySem.W.nsIn K mainGlobals "isinstance" = some none)
    (z2 : PySem.W.nsIn K mainGlobals "len" = some none)
    (z3 : PySem.W.nsIn K mainGlobals "list" = some none)
    (z4 : PySem.W.nsIn K mainGlobals "min" = some none)
    (z5 : PySem.W.nsIn K mainGlobals "range" = some none)
    (z6 : PySem.W.nsIn K mainGlobals "sorted" = some none) :
    ∃ fd : FuncData, (∀ (s : Shared) (v : Value), BindsTo s fd ⟨[v], []⟩ [("script", v)]) ∧ ∀ base : Heap, K.In base → base.Ns mainGlobals mg → FnOk P w K mg base (L2N.CX P w) 5 fa fd ["script"] (VT.spL 63 K) := by
  have e := hfa.symm.trans (PySem.W.mg_of X G a15)
  cases e
  have okc : ∀ c f, f ∈ ct c → Cls K (clOf C0 C1 C3 C4 c) ∧ NoAttr K (clOf C0 C1 C3 C4 c) f := fun c f hf => by
    unfold ct at hf
    split at hf
    · exact ⟨⟨pg0, hd0, po0, sa0⟩, (List.forall_mem_cons (p := fun f => NoAttr K C0 f)).2 ⟨nf0_0, (List.forall_mem_cons (p := fun f => NoAttr K C0 f)).2 ⟨nf0_1, (List.forall_mem_cons (p := fun f => NoAttr K C0 f)).2 ⟨nf0_2, fun _ z => absurd z List.not_mem_nil⟩⟩⟩ f hf⟩
    · exact ⟨⟨pg1, hd1, po1, sa1⟩, (List.forall_mem_cons (p := fun f => NoAttr K C1 f)).2 ⟨nf1_0, (List.forall_mem_cons (p := fun f => NoAttr K C1 f)).2 ⟨nf1_1, (List.forall_mem_cons (p := fun f => NoAttr K C1 f)).2 ⟨nf1_2, (List.forall_mem_cons (p := fun f => NoAttr K C1 f)).2 ⟨nf1_3, fun _ z => absurd z List.not_mem_nil⟩⟩⟩⟩ f hf⟩
    · cases hf
  have B : Bi mg := ⟨PySem.W.mg_none_of X G z0, PySem.W.mg_none_of X G z1, PySem.W.mg_none_of X G z2, PySem.W.mg_none_of X G z3, PySem.W.mg_none_of X G z4, PySem.W.mg_none_of X G z5, PySem.W.mg_none_of X G z6⟩
  have F0 := fun_mk (st := s_Tables___init) l0 c0 k0
  have F1 := fun_mk (st := s_Tables_look_at_space) l1 c1 k1
  have F2 := fun_mk (st := s_Tables_look_at_page) l2 c2 k2
  have F3 := fun_mk (st := s_Tables_leaf) l3 c3 k3
  have F4 := fun_mk (st := s_Ring___init) l4 c4 k4
  have F5 := fun_mk (st := s_Ring_mark) l5 c5 k5
  have F6 := fun_mk (st := s_Ring_marked) l6 c6 k6
  have F7 := fun_mk (st := s_Ring_needle) l7 c7 k7
  have F8 := fun_mk (st := s_Ring_next_of) l8 c8 k8
  have F9 := fun_mk (st := s_law_bag) l9 c9 k9
  have F10 := fun_mk (st := s_law_take) l10 c10 k10
  have F11 := fun_mk (st := s_law_next) l11 c11 k11
  have F12 := fun_mk (st := s_law_some) l12 c12 k12
  have F13 := fun_mk (st := s_law_marked) l13 c13 k13
  have F14 := fun_mk (st := s_law_stands) l14 c14 k14
  have F15 := fun_mk (st := s_law) l15 c15 k15
  have b0 := F0.binds (ps := ["self", "spaces", "pages"]) fun _ _ _ _ _ _ us hl => match us, hl with | [_, _, _], _ => rfl
  have b1 := F1.binds (ps := ["self", "space"]) fun _ _ _ _ _ _ us hl => match us, hl with | [_, _], _ => rfl
  have b2 := F2.binds (ps := ["self", "page"]) fun _ _ _ _ _ _ us hl => match us, hl with | [_, _], _ => rfl
  have b3 := F3.binds (ps := ["self", "space", "page"]) fun _ _ _ _ _ _ us hl => match us, hl with | [_, _, _], _ => rfl
  have b4 := F4.binds (ps := ["self", "spaces", "pages"]) fun _ _ _ _ _ _ us hl => match us, hl with | [_, _, _], _ => rfl
  have b5 := F5.binds (ps := ["self", "space", "page"]) fun _ _ _ _ _ _ us hl => match us, hl with | [_, _, _], _ => rfl
  have b6 := F6.binds (ps := ["self"]) fun _ _ _ _ _ _ us hl => match us, hl with | [_], _ => rfl
  have b7 := F7.binds (ps := ["self"]) fun _ _ _ _ _ _ us hl => match us, hl with | [_], _ => rfl
  have b8 := F8.binds (ps := ["self", "places"]) fun _ _ _ _ _ _ us hl => match us, hl with | [_, _], _ => rfl
  have b9 := F9.binds (ps := ["script", "k"]) fun _ _ _ _ _ _ us hl => match us, hl with | [_, _], _ => rfl
  have b10 := F10.binds (ps := ["bag", "many"]) fun _ _ _ _ _ _ us hl => match us, hl with | [_, _], _ => rfl
  have b11 := F11.binds (ps := ["places", "marks", "at", "some"]) fun _ _ _ _ _ _ us hl => match us, hl with | [_, _, _, _], _ => rfl
  have b12 := F12.binds (ps := ["bag", "places"]) fun _ _ _ _ _ _ us hl => match us, hl with | [_, _], _ => rfl
  have b13 := F13.binds (ps := ["bag", "ring", "spaces", "pages", "marks"]) fun _ _ _ _ _ _ us hl => match us, hl with | [_, _, _, _, _], _ => rfl
  have b14 := F14.binds (ps := ["ring", "places", "at", "marks"]) fun _ _ _ _ _ _ us hl => match us, hl with | [_, _, _, _], _ => rfl
  refine ⟨PySem.W.fnOf "law" "law" (defArgs s_law) (defBody s_law) (defScope s_law) .none kV15 dc15 pm15 an15 cd15 ct15, fun s v => .of_eq rfl, fun base _ _ => ?_⟩
  have X3 : RaiseOk K mg "NoSpace" C3 := ⟨xe3, PySem.W.mg_of X G aC3, kc3, xs3, xt3⟩
  have X4 : RaiseOk K mg "NoPage" C4 := ⟨xe4, PySem.W.mg_of X G aC4, kc4, xs4, xt4⟩
  have FK := fun_mk (st := s_law_kinds) lK cK kK
  have bK := FK.binds (ps := ["e"]) fun _ _ _ _ _ _ us hl => match us, hl with | [_], _ => rfl
  have KD : KindsOk P w (gx K (clOf C0 C1 C3 C4) okc) mg base 1 "_law_kinds" "CallError" kn := ⟨⟨fK, _, "e", PySem.W.mg_of X G aK, kK, bK, fun c kd hc => ?_⟩, A_CallError, PySem.W.mg_of X G aA_CallError, fun c kd hc => ?_⟩
  rotate_left
  · unfold kn at hc
    split at hc
    · cases hc
      exact okk (cl := clOf C0 C1 C3 C4) (okc := okc) FK B (PySem.W.mg_of X G aA_NoCall) (PySem.W.mg_of X G aA_Here) (PySem.W.mg_of X G aA_BadRow) (PySem.W.mg_of X G aA_Asleep) (PySem.W.mg_of X G aC4) (PySem.W.mg_of X G aA_NoLeaf) (PySem.W.mg_of X G aA_NoHand) (PySem.W.mg_of X G aA_NoDeed) (PySem.W.mg_of X G aA_Taken) (PySem.W.mg_of X G aC3) (PySem.W.mg_of X G aA_NoRoom) (PySem.W.mg_of X G aA_NoRight) (PySem.W.mg_of X G aA_Waits) ⟨e1_3, e2_3, xs3, e3_3, e4_3, e5_3, e6_3, e7_3⟩ (kit_no ss3 ic_A_NoCall it_A_NoCall q3_0) (kit_no ss3 ic_A_Here it_A_Here q3_1) (kit_no ss3 ic_A_BadRow it_A_BadRow q3_2) (kit_no ss3 ic_A_Asleep it_A_Asleep q3_3) (kit_no ss3 ic_C4 xt4 q3_4) (kit_no ss3 ic_A_NoLeaf it_A_NoLeaf q3_5) (kit_no ss3 ic_A_NoHand it_A_NoHand q3_6) (kit_no ss3 ic_A_NoDeed it_A_NoDeed q3_7) (kit_no ss3 ic_A_Taken it_A_Taken q3_8) kit_self (kit_no ss3 ic_A_NoRoom it_A_NoRoom q3_10) (kit_no ss3 ic_A_NoRight it_A_NoRight q3_11) (kit_ve q3_12) (kit_no ss3 ic_A_Waits it_A_Waits q3_13) (S1 := _) rfl
    · cases hc
      exact okk (cl := clOf C0 C1 C3 C4) (okc := okc) FK B (PySem.W.mg_of X G aA_NoCall) (PySem.W.mg_of X G aA_Here) (PySem.W.mg_of X G aA_BadRow) (PySem.W.mg_of X G aA_Asleep) (PySem.W.mg_of X G aC4) (PySem.W.mg_of X G aA_NoLeaf) (PySem.W.mg_of X G aA_NoHand) (PySem.W.mg_of X G aA_NoDeed) (PySem.W.mg_of X G aA_Taken) (PySem.W.mg_of X G aC3) (PySem.W.mg_of X G aA_NoRoom) (PySem.W.mg_of X G aA_NoRight) (PySem.W.mg_of X G aA_Waits) ⟨e1_4, e2_4, xs4, e3_4, e4_4, e5_4, e6_4, e7_4⟩ (kit_no ss4 ic_A_NoCall it_A_NoCall q4_0) (kit_no ss4 ic_A_Here it_A_Here q4_1) (kit_no ss4 ic_A_BadRow it_A_BadRow q4_2) (kit_no ss4 ic_A_Asleep it_A_Asleep q4_3) kit_self (kit_no ss4 ic_A_NoLeaf it_A_NoLeaf q4_5) (kit_no ss4 ic_A_NoHand it_A_NoHand q4_6) (kit_no ss4 ic_A_NoDeed it_A_NoDeed q4_7) (kit_no ss4 ic_A_Taken it_A_Taken q4_8) (kit_no ss4 ic_C3 xt3 q4_9) (kit_no ss4 ic_A_NoRoom it_A_NoRoom q4_10) (kit_no ss4 ic_A_NoRight it_A_NoRight q4_11) (kit_ve q4_12) (kit_no ss4 ic_A_Waits it_A_Waits q4_13) (S1 := _) rfl
    · cases hc
  · unfold kn at hc
    split at hc
    · exact PySem.W.exm_ref cb cd it_A_CallError xm3
    · exact PySem.W.exm_ref cb cd it_A_CallError xm4
    · cases hc
  have O0 := ok_Tables___init (P := P) (w := w) (cl := (clOf C0 C1 C3 C4)) (okc := okc) (base := base) F0 B 
  have O1 := ok_Tables_look_at_space (P := P) (w := w) (cl := (clOf C0 C1 C3 C4)) (okc := okc) (base := base) F1 B X3
  have O2 := ok_Tables_look_at_page (P := P) (w := w) (cl := (clOf C0 C1 C3 C4)) (okc := okc) (base := base) F2 B X4
  have D1m : MethOk P w (gx K (clOf C0 C1 C3 C4) okc) mg base 1 0 "look_at_space" 2 m_Tables_look_at_space := ⟨f1, _, _, O1, ⟨pg0, hd0, po0, sa0⟩, ⟨a1, i1, k1⟩, b1⟩
  have D2m : MethOk P w (gx K (clOf C0 C1 C3 C4) okc) mg base 1 0 "look_at_page" 2 m_Tables_look_at_page := ⟨f2, _, _, O2, ⟨pg0, hd0, po0, sa0⟩, ⟨a2, i2, k2⟩, b2⟩
  have O3 := ok_Tables_leaf (P := P) (w := w) (cl := (clOf C0 C1 C3 C4)) (okc := okc) (base := base) F3 B D1m D2m
  have D0k : MakeOk P w (gx K (clOf C0 C1 C3 C4) okc) mg base 1 0 "Tables" 3 m_Tables___init := ⟨f0, _, _, O0, PySem.W.mg_of X G aC0, ⟨mk0, a0, i0, kc0⟩, b0⟩
  have O4 := ok_Ring___init (P := P) (w := w) (cl := (clOf C0 C1 C3 C4)) (okc := okc) (base := base) F4 B D0k
  have D3m : MethOk P w (gx K (clOf C0 C1 C3 C4) okc) mg base 2 0 "leaf" 3 m_Tables_leaf := ⟨f3, _, _, O3, ⟨pg0, hd0, po0, sa0⟩, ⟨a3, i3, k3⟩, b3⟩
  have O5 := ok_Ring_mark (P := P) (w := w) (cl := (clOf C0 C1 C3 C4)) (okc := okc) (base := base) F5 B D3m
  have O6 := ok_Ring_marked (P := P) (w := w) (cl := (clOf C0 C1 C3 C4)) (okc := okc) (base := base) F6 B 
  have O7 := ok_Ring_needle (P := P) (w := w) (cl := (clOf C0 C1 C3 C4)) (okc := okc) (base := base) F7 B 
  have O8 := ok_Ring_next_of (P := P) (w := w) (cl := (clOf C0 C1 C3 C4)) (okc := okc) (base := base) F8 B 
  have O9 := ok_law_bag (P := P) (w := w) (cl := (clOf C0 C1 C3 C4)) (okc := okc) (base := base) F9 B 
  have O10 := ok_law_take (P := P) (w := w) (cl := (clOf C0 C1 C3 C4)) (okc := okc) (base := base) F10 B 
  have O11 := ok_law_next (P := P) (w := w) (cl := (clOf C0 C1 C3 C4)) (okc := okc) (base := base) F11 B 
  have D10d : DefOk P w (gx K (clOf C0 C1 C3 C4) okc) mg base 1 "_law_take" 2 m_law_take := ⟨f10, _, _, O10, PySem.W.mg_of X G a10, k10, b10⟩
  have O12 := ok_law_some (P := P) (w := w) (cl := (clOf C0 C1 C3 C4)) (okc := okc) (base := base) F12 B D10d
  have D5m : MethOk P w (gx K (clOf C0 C1 C3 C4) okc) mg base 3 1 "mark" 3 m_Ring_mark := ⟨f5, _, _, O5, ⟨pg1, hd1, po1, sa1⟩, ⟨a5, i5, k5⟩, b5⟩
  have O13 := ok_law_marked (P := P) (w := w) (cl := (clOf C0 C1 C3 C4)) (okc := okc) (base := base) F13 B KD D10d D5m
  have D6m : MethOk P w (gx K (clOf C0 C1 C3 C4) okc) mg base 1 1 "marked" 1 m_Ring_marked := ⟨f6, _, _, O6, ⟨pg1, hd1, po1, sa1⟩, ⟨a6, i6, k6⟩, b6⟩
  have D7m : MethOk P w (gx K (clOf C0 C1 C3 C4) okc) mg base 1 1 "needle" 1 m_Ring_needle := ⟨f7, _, _, O7, ⟨pg1, hd1, po1, sa1⟩, ⟨a7, i7, k7⟩, b7⟩
  have O14 := ok_law_stands (P := P) (w := w) (cl := (clOf C0 C1 C3 C4)) (okc := okc) (base := base) F14 B D6m D7m
  have D9d : DefOk P w (gx K (clOf C0 C1 C3 C4) okc) mg base 1 "_law_bag" 2 m_law_bag := ⟨f9, _, _, O9, PySem.W.mg_of X G a9, k9, b9⟩
  have D4k : MakeOk P w (gx K (clOf C0 C1 C3 C4) okc) mg base 3 1 "Ring" 3 m_Ring___init := ⟨f4, _, _, O4, PySem.W.mg_of X G aC1, ⟨mk1, a4, i4, kc1⟩, b4⟩
  have D13d : DefOk P w (gx K (clOf C0 C1 C3 C4) okc) mg base 4 "_law_marked" 5 m_law_marked := ⟨f13, _, _, O13, PySem.W.mg_of X G a13, k13, b13⟩
  have D12d : DefOk P w (gx K (clOf C0 C1 C3 C4) okc) mg base 2 "_law_some" 2 m_law_some := ⟨f12, _, _, O12, PySem.W.mg_of X G a12, k12, b12⟩
  have D11o : DefOkO P w (gx K (clOf C0 C1 C3 C4) okc) mg base 1 "_law_next" 4 m_law_next := ⟨f11, _, _, O11, PySem.W.mg_of X G a11, k11, b11⟩
  have D8m : MethOk P w (gx K (clOf C0 C1 C3 C4) okc) mg base 1 1 "next_of" 2 m_Ring_next_of := ⟨f8, _, _, O8, ⟨pg1, hd1, po1, sa1⟩, ⟨a8, i8, k8⟩, b8⟩
  have D14d : DefOk P w (gx K (clOf C0 C1 C3 C4) okc) mg base 2 "_law_stands" 4 m_law_stands := ⟨f14, _, _, O14, PySem.W.mg_of X G a14, k14, b14⟩
  exact FnOk.imp (ok_law (P := P) (w := w) (cl := (clOf C0 C1 C3 C4)) (okc := okc) (base := base) F15 B D9d D10d D4k D5m D13d D12d D11o D8m D14d) fun vs H Q E q => VT.spL_sp (Γ := gx K (clOf C0 C1 C3 C4) okc) law_end q
end K28

open PySem PySem.W PyProof.Rows
set_option maxHeartbeats 0 in
theorem PySem.Challenge.cw_leafcall_k28_rings_gone_round_holds : PySem.Challenge.rw_leafcall_k28_rings_gone_round.Holds := by
  w_on; o_law; k_head; (case hw => w_witness2)
  k_fill
  refine L2.walk_of (l := PySem.Challenge.rw_leafcall_k28_rings_gone_round) (n := 63) (k := 5) (x := "script") (CX := fun w => L2N.CX PySem.Challenge.rw_leafcall_k28_rings_gone_round.prog w) (sp := fun w => VT.spL 63 _) rfl (by decide) rfl ⟨rfl, by decide, by decide⟩ (fun w h Y => PySem.W.kIn_of Y) ?F (fun w H a ns hl hO hS => ⟨a, ns, rfl, hl, hO, hS, fun _ => rfl⟩) (fun w H s e s' z => by
    obtain ⟨_, _, _, _, _, _, _, _, _, _, _, _, z⟩ := z
    exact z)
  case F =>
    intro w mg fa h KX G hmg
    refine' K28.all_mk KX G hmg ?aA_NoCall ?it_A_NoCall ?ic_A_NoCall ?aA_Here ?it_A_Here ?ic_A_Here ?aA_BadRow ?it_A_BadRow ?ic_A_BadRow ?aA_Asleep ?it_A_Asleep ?ic_A_Asleep ?aA_NoLeaf ?it_A_NoLeaf ?ic_A_NoLeaf ?aA_NoHand ?it_A_NoHand ?ic_A_NoHand ?aA_NoDeed ?it_A_NoDeed ?ic_A_NoDeed ?aA_Taken ?it_A_Taken ?ic_A_Taken ?aA_NoRoom ?it_A_NoRoom ?ic_A_NoRoom ?aA_NoRight ?it_A_NoRight ?ic_A_NoRight ?aA_Waits ?it_A_Waits ?ic_A_Waits ?aA_CallError ?it_A_CallError ?cb ?cd ?aC3 ?aC4 ?xe3 ?kc3 ?xs3 ?xt3 ?e1_3 ?e2_3 ?e3_3 ?e4_3 ?e5_3 ?e6_3 ?e7_3 ?ic_C3 ?ss3 ?q3_0 ?q3_1 ?q3_2 ?q3_3 ?q3_4 ?q3_5 ?q3_6 ?q3_7 ?q3_8 ?q3_10 ?q3_11 ?q3_12 ?q3_13 ?xm3 ?xe4 ?kc4 ?xs4 ?xt4 ?e1_4 ?e2_4 ?e3_4 ?e4_4 ?e5_4 ?e6_4 ?e7_4 ?ic_C4 ?ss4 ?q4_0 ?q4_1 ?q4_2 ?q4_3 ?q4_5 ?q4_6 ?q4_7 ?q4_8 ?q4_9 ?q4_10 ?q4_11 ?q4_12 ?q4_13 ?xm4 ?aK ?lK ?cK ?kK ?aC0 ?pg0 ?hd0 ?po0 ?sa0 ?mk0 ?kc0 ?nf0_0 ?nf0_1 ?nf0_2 ?aC1 ?pg1 ?hd1 ?po1 ?sa1 ?mk1 ?kc1 ?nf1_0 ?nf1_1 ?nf1_2 ?nf1_3 ?a0 ?i0 ?l0 ?c0 ?k0 ?a1 ?i1 ?l1 ?c1 ?k1 ?a2 ?i2 ?l2 ?c2 ?k2 ?a3 ?i3 ?l3 ?c3 ?k3 ?a4 ?i4 ?l4 ?c4 ?k4 ?a5 ?i5 ?l5 ?c5 ?k5 ?a6 ?i6 ?l6 ?c6 ?k6 ?a7 ?i7 ?l7 ?c7 ?k7 ?a8 ?i8 ?l8 ?c8 ?k8 ?a9 ?l9 ?c9 ?k9 ?a10 ?l10 ?c10 ?k10 ?a11 ?l11 ?c11 ?k11 ?a12 ?l12 ?c12 ?k12 ?a13 ?l13 ?c13 ?k13 ?a14 ?l14 ?c14 ?k14 ?a15 ?l15 ?c15 ?k15 ?z0 ?z1 ?z2 ?z3 ?z4 ?z5 ?z6
    (case aA_NoCall => k_is)
    (case it_A_NoCall => k_is)
    (case ic_A_NoCall => k_is)
    (case aA_Here => k_is)
    (case it_A_Here => k_is)
    (case ic_A_Here => k_is)
    (case aA_BadRow => k_is)
    (case it_A_BadRow => k_is)
    (case ic_A_BadRow => k_is)
    (case aA_Asleep => k_is)
    (case it_A_Asleep => k_is)
    (case ic_A_Asleep => k_is)
    (case aA_NoLeaf => k_is)
    (case it_A_NoLeaf => k_is)
    (case ic_A_NoLeaf => k_is)
    (case aA_NoHand => k_is)
    (case it_A_NoHand => k_is)
    (case ic_A_NoHand => k_is)
    (case aA_NoDeed => k_is)
    (case it_A_NoDeed => k_is)
    (case ic_A_NoDeed => k_is)
    (case aA_Taken => k_is)
    (case it_A_Taken => k_is)
    (case ic_A_Taken => k_is)
    (case aA_NoRoom => k_is)
    (case it_A_NoRoom => k_is)
    (case ic_A_NoRoom => k_is)
    (case aA_NoRight => k_is)
    (case it_A_NoRight => k_is)
    (case ic_A_NoRight => k_is)
    (case aA_Waits => k_is)
    (case it_A_Waits => k_is)
    (case ic_A_Waits => k_is)
    (case aA_CallError => k_is)
    (case it_A_CallError => k_is)
    (case cb => k_is)
    (case cd => k_is)
    (case aC3 => k_is)
    (case aC4 => k_is)
    (case xe3 => k_exc)
    (case kc3 => k_is)
    (case xs3 => k_is)
    (case xt3 => k_is)
    (case e1_3 => k_is)
    (case e2_3 => k_is)
    (case e3_3 => k_is)
    (case e4_3 => k_is)
    (case e5_3 => k_is)
    (case e6_3 => k_is)
    (case e7_3 => k_is)
    (case ic_C3 => k_is)
    (case ss3 => k_is)
    (case q3_0 => k_is)
    (case q3_1 => k_is)
    (case q3_2 => k_is)
    (case q3_3 => k_is)
    (case q3_4 => k_is)
    (case q3_5 => k_is)
    (case q3_6 => k_is)
    (case q3_7 => k_is)
    (case q3_8 => k_is)
    (case q3_10 => k_is)
    (case q3_11 => k_is)
    (case q3_12 => k_is)
    (case q3_13 => k_is)
    (case xm3 => k_is)
    (case xe4 => k_exc)
    (case kc4 => k_is)
    (case xs4 => k_is)
    (case xt4 => k_is)
    (case e1_4 => k_is)
    (case e2_4 => k_is)
    (case e3_4 => k_is)
    (case e4_4 => k_is)
    (case e5_4 => k_is)
    (case e6_4 => k_is)
    (case e7_4 => k_is)
    (case ic_C4 => k_is)
    (case ss4 => k_is)
    (case q4_0 => k_is)
    (case q4_1 => k_is)
    (case q4_2 => k_is)
    (case q4_3 => k_is)
    (case q4_5 => k_is)
    (case q4_6 => k_is)
    (case q4_7 => k_is)
    (case q4_8 => k_is)
    (case q4_9 => k_is)
    (case q4_10 => k_is)
    (case q4_11 => k_is)
    (case q4_12 => k_is)
    (case q4_13 => k_is)
    (case xm4 => k_is)
    (case aK => k_is)
    (case lK => k_is)
    (case cK => k_is)
    (case kK => k_is)
    (case aC0 => k_is)
    (case pg0 => k_is)
    (case hd0 => k_is)
    (case po0 => k_is)
    (case sa0 => k_is)
    (case mk0 => k_is)
    (case kc0 => k_is)
    (case nf0_0 => k_is)
    (case nf0_1 => k_is)
    (case nf0_2 => k_is)
    (case aC1 => k_is)
    (case pg1 => k_is)
    (case hd1 => k_is)
    (case po1 => k_is)
    (case sa1 => k_is)
    (case mk1 => k_is)
    (case kc1 => k_is)
    (case nf1_0 => k_is)
    (case nf1_1 => k_is)
    (case nf1_2 => k_is)
    (case nf1_3 => k_is)
    (case a0 => k_is)
    (case i0 => k_is)
    (case l0 => k_is)
    (case c0 => k_is)
    (case k0 => k_is)
    (case a1 => k_is)
    (case i1 => k_is)
    (case l1 => k_is)
    (case c1 => k_is)
    (case k1 => k_is)
    (case a2 => k_is)
    (case i2 => k_is)
    (case l2 => k_is)
    (case c2 => k_is)
    (case k2 => k_is)
    (case a3 => k_is)
    (case i3 => k_is)
    (case l3 => k_is)
    (case c3 => k_is)
    (case k3 => k_is)
    (case a4 => k_is)
    (case i4 => k_is)
    (case l4 => k_is)
    (case c4 => k_is)
    (case k4 => k_is)
    (case a5 => k_is)
    (case i5 => k_is)
    (case l5 => k_is)
    (case c5 => k_is)
    (case k5 => k_is)
    (case a6 => k_is)
    (case i6 => k_is)
    (case l6 => k_is)
    (case c6 => k_is)
    (case k6 => k_is)
    (case a7 => k_is)
    (case i7 => k_is)
    (case l7 => k_is)
    (case c7 => k_is)
    (case k7 => k_is)
    (case a8 => k_is)
    (case i8 => k_is)
    (case l8 => k_is)
    (case c8 => k_is)
    (case k8 => k_is)
    (case a9 => k_is)
    (case l9 => k_is)
    (case c9 => k_is)
    (case k9 => k_is)
    (case a10 => k_is)
    (case l10 => k_is)
    (case c10 => k_is)
    (case k10 => k_is)
    (case a11 => k_is)
    (case l11 => k_is)
    (case c11 => k_is)
    (case k11 => k_is)
    (case a12 => k_is)
    (case l12 => k_is)
    (case c12 => k_is)
    (case k12 => k_is)
    (case a13 => k_is)
    (case l13 => k_is)
    (case c13 => k_is)
    (case k13 => k_is)
    (case a14 => k_is)
    (case l14 => k_is)
    (case c14 => k_is)
    (case k14 => k_is)
    (case a15 => k_is)
    (case l15 => k_is)
    (case c15 => k_is)
    (case k15 => k_is)
    (case z0 => k_is)
    (case z1 => k_is)
    (case z2 => k_is)
    (case z3 => k_is)
    (case z4 => k_is)
    (case z5 => k_is)
    (case z6 => k_is)
#print axioms PySem.Challenge.cw_leafcall_k28_rings_gone_round_holds

