import PyProof.Rows.All
import Wide.All
import OpenK.AllK
import Wide.FinOn
import HandS.ForMost
import HandS.Walk
import HandS.Conv
import HandS.Wide
import HandS.Flow
import HandS.Style
import HandS.TupAny
import HandS.TupMul
import HandS.TupLe
import HandS.Deep
import HandS.IsInst
import HandS.MakeKwOnly
import PyProof.ReprRoads
import KE.DatumIndex
import HandS.SortInts
import HandS.TupSets
import HandS.NoneIn
import HandS.Zip
import KE.GoesEnum
import HandS.Comp
import HandS.Ends
import KE.KSortTupG
import PySem.Challenge.RW_coupledyard_k14_reasons_of_blocked_steps
set_option Elab.async false
set_option linter.all false
set_option maxRecDepth 100000
set_option maxHeartbeats 4000000
namespace DL
open PySem L2
/-! the source of draws: the dice of the laws k13 to k17 -/
def dkv (c g : Addr) (t : Int) : List (Key × V) := [(.inr "cells", .ref c), (.inr "great", .ref g), (.inr "at", .int t)]
/-- at d a dict stands that holds the cells at l, the great ones at g, and how many were drawn -/
def Fam (K : PySem.W.Frag) (d : Addr) (S : List Addr) (H : Hp) : Prop := ∃ (l g : Addr) (xs gs : List Int) (t : Int), S = [d, l, g] ∧ l ≠ g ∧ xs.length ≤ 63 ∧ gs.length ≤ 63 ∧ H d = some (.dK (dkv l g t)) ∧ H l = some (.lst (xs.map V.int)) ∧ H g = some (.lst (gs.map V.int))
end DL
/-! DL: expressions and statements read as functions of plain data, over the hand layer. -/
namespace DL
open PySem L2

/-! ### data -/
inductive D where
  | non | bl (b : Bool) | int (i : Int) | str (x : Str)
  | lst (ds : List D) | tup (ds : List D) | frz (ds : List D)
  | dic (ks : List Key) (ds : List D)
  | dtt (ks : List (List Key)) (ds : List D)
  | ty (n : String) | ref (a : Addr)
  | src

mutual
def D.imm : D → Bool
  | .non => true
  | .bl _ => true
  | .int _ => true
  | .str _ => true
  | .lst _ => false
  | .frz _ => true
  | .tup ds => D.imms ds
  | .dic _ _ => false
  | .dtt _ _ => false
  | .src => true
  | .ty _ => true
  | .ref _ => true
def D.imms : List D → Bool
  | [] => true
  | d :: ds => d.imm && D.imms ds
end

/-- what a law's text holds beside its data: the written part, the source of draws (its root, its objects, what holds of them) -/
structure Gx (K : PySem.W.Frag) where
  rt : Option Addr
  S : List Addr
  ok : Hp → Prop
  loc : ∀ H H', ok H → (∀ b ∈ S, H' b = H b) → ok H'
  mu : ∀ H, ok H → ∀ b ∈ S, Mut (H b)
  fam : ∀ a, rt = some a → ∀ H, ok H ↔ Fam K a S H

/-- a list that is never written: the script, or an object of the module -/
def Frz (K : PySem.W.Frag) (H : Hp) (a : Addr) (xs : List V) : Prop := (∃ o, H a = some (.frz o (.lst xs))) ∨
  ∃ (o : Obj) (its : Array Value) (n : Nat), K.lookup a = some o ∧ o.cls = .type "list" ∧ o.dict = none ∧ o.data = .seq its n ∧ its.size ≤ sizeLine ∧ Vals xs its.toList
theorem Frz.sq {K : PySem.W.Frag} {H : Hp} {a : Addr} {xs : List V} (h : Frz K H a xs) : SqL K H a xs := h.elim (fun ⟨o, e⟩ => .inl (.inr ⟨o, e⟩)) .inr
theorem Frz.mono {K : PySem.W.Frag} {H H' : Hp} {a : Addr} {xs : List V} (h : Frz K H a xs) (k : ∀ b o, H b = some o → ¬ Mut (some o) → H' b = some o) : Frz K H' a xs := h.elim (fun ⟨o, e⟩ => .inl ⟨o, k _ _ e fun z => z⟩) .inr
section
variable {K : PySem.W.Frag} (G : Gx K) (H : Hp)
mutual
/-- v reads as d at H; F: the addresses of the lists and dicts within -/
inductive Rp : V → D → List Addr → Prop
  | non : Rp .non .non []
  | bl (b : Bool) : Rp (.bl b) (.bl b) []
  | int (i : Int) : Rp (.int i) (.int i) []
  | str (x : Str) : Rp (.str x) (.str x) []
  | lst {a : Addr} {xs : List V} {ds : List D} {F : List Addr} : H a = some (.lst xs) → RpA xs ds F → Rp (.ref a) (.lst ds) (a :: F)
  | frz {a : Addr} {xs : List V} {ds : List D} : Frz K H a xs → RpA xs ds [] → Rp (.ref a) (.frz ds) []
  | tup {a : Addr} {xs : List V} {ds : List D} {F : List Addr} : SqT K H a xs → RpA xs ds F → Rp (.ref a) (.tup ds) F
  | dic {a : Addr} {kvs : List (Key × V)} {ds : List D} {F : List Addr} : H a = some (.dK kvs) → RpA (kvs.map (·.2)) ds F → Rp (.ref a) (.dic (kvs.map (·.1)) ds) (a :: F)
  | dtt {a : Addr} {kvs : List (List Key × V)} {ds : List D} {F : List Addr} : H a = some (.dT kvs) → RpA (kvs.map (·.2)) ds F → Rp (.ref a) (.dtt (kvs.map (·.1)) ds) (a :: F)
  | src {a : Addr} : G.rt = some a → Rp (.ref a) .src []
  | ty (n : String) : Rp (.ty n) (.ty n) []
  | ref (a : Addr) : Rp (.ref a) (.ref a) []
inductive RpA : List V → List D → List Addr → Prop
  | nil : RpA [] [] []
  | cons {v : V} {d : D} {F : List Addr} {vs : List V} {ds : List D} {F' : List Addr} : Rp v d F → RpA vs ds F' → RpA (v :: vs) (d :: ds) (F ++ F')
end
end

section
variable {K : PySem.W.Frag} {G : Gx K} {H H' H1 H2 : Hp}
mutual
theorem Rp.imm_nil : ∀ (d : D) (v : V) (F : List Addr), Rp G H v d F → d.imm = true → F = []
  | .non, _, _, h, _ => by cases h; rfl
  | .bl _, _, _, h, _ => by cases h; rfl
  | .int _, _, _, h, _ => by cases h; rfl
  | .str _, _, _, h, _ => by cases h; rfl
  | .src, _, _, h, _ => by cases h; rfl
  | .ty _, _, _, h, _ => by cases h; rfl
  | .ref _, _, _, h, _ => by cases h; rfl
  | .lst _, _, _, _, e => by simp [D.imm] at e
  | .frz _, _, _, h, _ => by cases h; rfl
  | .dic _ _, _, _, _, e => by simp [D.imm] at e
  | .dtt _ _, _, _, _, e => by simp [D.imm] at e
  | .tup ds, _, _, h, e => by
    cases h with
    | tup _ ha => exact RpA.imm_nil ds _ _ ha (by simpa [D.imm] using e)
theorem RpA.imm_nil : ∀ (ds : List D) (vs : List V) (F : List Addr), RpA G H vs ds F → D.imms ds = true → F = []
  | [], _, _, h, _ => by cases h; rfl
  | d :: ds, _, _, h, e => by
    cases h with
    | cons h1 h2 =>
      simp only [D.imms, Bool.and_eq_true] at e
      rw [Rp.imm_nil d _ _ h1 e.1, RpA.imm_nil ds _ _ h2 e.2]
      rfl
end

/-- what stood stands, but for the source -/
structure Kp {K : PySem.W.Frag} (G : Gx K) (H H' : Hp) : Prop where
  kp : ∀ b o, H b = some o → b ∉ G.S → H' b = some o
  dm : ∀ b, H b ≠ none → H' b ≠ none
  ok0 : G.ok H
  ok : G.ok H'
theorem Kp.refl (h : G.ok H) : Kp G H H := ⟨fun _ _ e _ => e, fun _ e => e, h, h⟩
theorem Kp.trans (a : Kp G H H1) (b : Kp G H1 H2) : Kp G H H2 := ⟨fun c o e n => b.kp c o (a.kp c o e n) n, fun c e => b.dm c (a.dm c e), a.ok0, b.ok⟩
theorem Kp.free (a : Kp G H H1) {b : Addr} (e : H1 b = .none) : H b = .none := by
  cases q : H b with
  | none => rfl
  | some o => exact absurd e (a.dm b (by rw [q]; exact fun z => nomatch z))
theorem notS (h : G.ok H) {a : Addr} {o : HO} (e : H a = some o) (m : ¬ Mut (some o)) : a ∉ G.S := fun z => m (e ▸ G.mu H h a z)
theorem notS0 (h : G.ok H) {a : Addr} (e : H a = none) : a ∉ G.S := fun z => by
  have := G.mu H h a z
  rw [e] at this
  exact this
/-- a new object -/
theorem Kp.laid (h : G.ok H) {p : Addr} (hp : H p = none) (o : HO) : Kp G H (upd H p o) :=
  ⟨fun b u e _ => by rw [upd_ne (ne_of_none e hp)]; exact e, fun b e => by
    by_cases q : b = p
    · subst q; exact absurd hp e
    · rw [upd_ne q]; exact e, h, G.loc H _ h fun b hb => upd_ne fun q => notS0 h (q ▸ hp) hb⟩

/-- more general: all that is not in the source and can't be written, and all at F, stands -/
structure Hd {K : PySem.W.Frag} (G : Gx K) (F : List Addr) (H H' : Hp) : Prop where
  ok0 : G.ok H
  im : ∀ b o, H b = some o → ¬ Mut (some o) → H' b = some o
  at_ : ∀ b o, H b = some o → b ∈ F → H' b = some o
theorem Kp.hd (k : Kp G H H') {F : List Addr} (n : ∀ a ∈ F, a ∉ G.S) : Hd G F H H' := ⟨k.ok0, fun b o e m => k.kp b o e (notS k.ok0 e m), fun b o e hb => k.kp b o e (n b hb)⟩
theorem Hd.sub {F F' : List Addr} (h : Hd G F H H') (s : ∀ a ∈ F', a ∈ F) : Hd G F' H H' := ⟨h.ok0, h.im, fun b o e hb => h.at_ b o e (s b hb)⟩
theorem SqT.hd {a : Addr} {xs : List V} {F : List Addr} (k : Hd G F H H') (h : SqT K H a xs) : SqT K H' a xs := by
  rcases h with (h | ⟨o, h⟩) | h
  · exact .inl (.inl (k.im _ _ h fun z => z))
  · exact .inl (.inr ⟨o, k.im _ _ h fun z => z⟩)
  · exact .inr h
mutual
theorem Rp.hd : ∀ (d : D) (v : V) (F : List Addr), Rp G H v d F → Hd G F H H' → Rp G H' v d F
  | .non, _, _, h, _ => by cases h; exact .non
  | .bl _, _, _, h, _ => by cases h; exact .bl _
  | .int _, _, _, h, _ => by cases h; exact .int _
  | .str _, _, _, h, _ => by cases h; exact .str _
  | .src, _, _, h, _ => by cases h with | src e => exact .src e
  | .ty _, _, _, h, _ => by cases h; exact .ty _
  | .ref _, _, _, h, _ => by cases h; exact .ref _
  | .lst ds, _, _, h, k => by
    cases h with
    | lst e ha => exact .lst (k.at_ _ _ e (by simp)) (RpA.hd ds _ _ ha (k.sub fun a z => by simp [z]))
  | .frz ds, _, _, h, k => by
    cases h with
    | frz e ha => exact .frz (e.mono k.im) (RpA.hd ds _ _ ha k)
  | .tup ds, _, _, h, k => by
    cases h with
    | tup e ha => exact .tup (SqT.hd k e) (RpA.hd ds _ _ ha k)
  | .dic ks ds, _, _, h, k => by
    cases h with
    | dic e ha => exact .dic (k.at_ _ _ e (by simp)) (RpA.hd ds _ _ ha (k.sub fun a z => by simp [z]))
  | .dtt ks ds, _, _, h, k => by
    cases h with
    | dtt e ha => exact .dtt (k.at_ _ _ e (by simp)) (RpA.hd ds _ _ ha (k.sub fun a z => by simp [z]))
theorem RpA.hd : ∀ (ds : List D) (vs : List V) (F : List Addr), RpA G H vs ds F → Hd G F H H' → RpA G H' vs ds F
  | [], _, _, h, _ => by cases h; exact .nil
  | d :: ds, _, _, h, k => by
    cases h with
    | cons h1 h2 => exact .cons (Rp.hd d _ _ h1 (k.sub fun a z => by simp [z])) (RpA.hd ds _ _ h2 (k.sub fun a z => by simp [z]))
end
theorem Rp.kp {v : V} {d : D} {F : List Addr} (h : Rp G H v d F) (k : Kp G H H') (n : ∀ a ∈ F, a ∉ G.S) : Rp G H' v d F := Rp.hd d v F h (k.hd n)
theorem RpA.kp {vs : List V} {ds : List D} {F : List Addr} (h : RpA G H vs ds F) (k : Kp G H H') (n : ∀ a ∈ F, a ∉ G.S) : RpA G H' vs ds F := RpA.hd ds vs F h (k.hd n)
theorem RpA.length : ∀ {ds : List D} {vs : List V} {F : List Addr}, RpA G H vs ds F → vs.length = ds.length
  | [], _, _, h => by cases h; rfl
  | d :: ds, _, _, h => by
    cases h with
    | cons h1 h2 => simp [RpA.length h2]
theorem RpA.get : ∀ {ds : List D} {vs : List V} {F : List Addr}, RpA G H vs ds F → ∀ {i : Nat} {d : D}, ds[i]? = some d → ∃ v F', vs[i]? = some v ∧ Rp G H v d F' ∧ ∀ a ∈ F', a ∈ F
  | [], _, _, _, _, _, e => by simp at e
  | d :: ds, _, _, h, i, d', e => by
    cases h with
    | cons h1 h2 =>
      cases i with
      | zero =>
        simp at e
        subst e
        exact ⟨_, _, rfl, h1, fun a z => by simp [z]⟩
      | succ i =>
        obtain ⟨v, F', e1, r, s⟩ := RpA.get h2 (i := i) (d := d') (by simpa using e)
        exact ⟨v, F', by simpa using e1, r, fun a z => by simp [s a z]⟩
/-- every address within is tracked -/
theorem RpA.append : ∀ {ds ds' : List D} {vs vs' : List V} {F F' : List Addr}, RpA G H vs ds F → RpA G H vs' ds' F' → RpA G H (vs ++ vs') (ds ++ ds') (F ++ F')
  | [], _, _, _, _, _, h, h' => by cases h; simpa using h'
  | d :: ds, ds', _, _, _, _, h, h' => by
    cases h with
    | cons h1 h2 =>
      have := RpA.append h2 h'
      simpa [List.append_assoc] using RpA.cons h1 this
mutual
theorem Rp.dom : ∀ (d : D) (v : V) (F : List Addr), Rp G H v d F → ∀ a ∈ F, H a ≠ none
  | .non, _, _, h, _, z => by cases h; cases z
  | .bl _, _, _, h, _, z => by cases h; cases z
  | .int _, _, _, h, _, z => by cases h; cases z
  | .str _, _, _, h, _, z => by cases h; cases z
  | .src, _, _, h, _, z => by cases h; cases z
  | .ty _, _, _, h, _, z => by cases h; cases z
  | .ref _, _, _, h, _, z => by cases h; cases z
  | .lst ds, _, _, h, b, z => by
    cases h with
    | lst e ha =>
      rcases List.mem_cons.mp z with q | q
      · rw [q, e]; exact fun z => nomatch z
      · exact RpA.dom ds _ _ ha b q
  | .frz _, _, _, h, _, z => by cases h; cases z
  | .tup ds, _, _, h, b, z => by
    cases h with
    | tup e ha => exact RpA.dom ds _ _ ha b z
  | .dic ks ds, _, _, h, b, z => by
    cases h with
    | dic e ha =>
      rcases List.mem_cons.mp z with q | q
      · rw [q, e]; exact fun z => nomatch z
      · exact RpA.dom ds _ _ ha b q
  | .dtt ks ds, _, _, h, b, z => by
    cases h with
    | dtt e ha =>
      rcases List.mem_cons.mp z with q | q
      · rw [q, e]; exact fun z => nomatch z
      · exact RpA.dom ds _ _ ha b q
theorem RpA.dom : ∀ (ds : List D) (vs : List V) (F : List Addr), RpA G H vs ds F → ∀ a ∈ F, H a ≠ none
  | [], _, _, h, _, z => by cases h; cases z
  | d :: ds, _, _, h, b, z => by
    cases h with
    | cons h1 h2 =>
      rcases List.mem_append.mp z with q | q
      · exact Rp.dom d _ _ h1 b q
      · exact RpA.dom ds _ _ h2 b q
end
end

/-! ### results: what follows, and what follows an error -/
structure Ex where
  cls : String
  fs : List (String × D)
abbrev W (α : Type) := (α → Prop) → (Ex → Prop) → Prop
def pu {α : Type} (a : α) : W α := fun Q _ => Q a
def bd {α β : Type} (m : W α) (k : α → W β) : W β := fun Q X => m (fun a => k a Q X) X
def fl {α : Type} : W α := fun _ _ => False
theorem bd_pu {α β : Type} (a : α) (k : α → W β) : bd (pu a) k = k a := rfl
theorem bd_fl {α β : Type} (k : α → W β) : bd fl k = fl := rfl
theorem bd_bd {α β γ : Type} (m : W α) (k : α → W β) (l : β → W γ) : bd (bd m k) l = bd m fun a => bd (k a) l := rfl
theorem bd_id {α : Type} (m : W α) : bd m pu = m := rfl

/-! ### the slots -/
abbrev Env := List (Option D)
def gt (δ : Env) (i : Nat) : Option D := (δ[i]?).join
def gw (δ : Env) (i : Nat) : W D := match gt δ i with
  | some d => pu d
  | none => fl
structure Cd (K : PySem.W.Frag) where
  G : Gx K
  H0 : Hp
  own : List Nat
  xq : Ex → Prop
structure EnvOk {K : PySem.W.Frag} (c : Cd K) (fp : Nat → List Addr) (H : Hp) (σ : St) (δ : Env) : Prop where
  ok : c.G.ok H
  len : σ.length = δ.length
  rep : ∀ i d, gt δ i = some d → ∃ v, σ[i]? = some (some v) ∧ Rp c.G H v d (fp i)
  emp : ∀ i, gt δ i = none → fp i = []
  nos : ∀ i, ∀ a ∈ fp i, a ∉ c.G.S
  frs : ∀ i ∈ c.own, ∀ a ∈ fp i, c.H0 a = none
  ndp : ∀ i ∈ c.own, (fp i).Nodup
  sep : ∀ i ∈ c.own, ∀ j, j ≠ i → ∀ a ∈ fp i, a ∉ fp j
  frm : ∀ b o, c.H0 b = some o → b ∉ c.G.S → H b = some o
theorem EnvOk.dom {K : PySem.W.Frag} {c : Cd K} {fp : Nat → List Addr} {H : Hp} {σ : St} {δ : Env} (e : EnvOk c fp H σ δ) (i : Nat) : ∀ a ∈ fp i, H a ≠ none := fun a ha => by
  cases q : gt δ i with
  | none => rw [e.emp i q] at ha; cases ha
  | some d =>
    obtain ⟨v, _, r⟩ := e.rep i d q
    exact Rp.dom d v _ r a ha
/-- what an expression gives -/
structure Post {K : PySem.W.Frag} (c : Cd K) (vs : List Nat) (fp : Nat → List Addr) (H H' : Hp) (F : List Addr) : Prop where
  kp : Kp c.G H H'
  nos : ∀ a ∈ F, a ∉ c.G.S
  pv : ∀ a ∈ F, H a = none ∨ ∃ j ∈ vs, a ∈ fp j
section
variable {K : PySem.W.Frag} {c : Cd K} {fp : Nat → List Addr} {H H' H1 H2 : Hp} {σ : St} {δ : Env} {vs ws : List Nat} {F F' : List Addr}
theorem EnvOk.kp (e : EnvOk c fp H σ δ) (k : Kp c.G H H') : EnvOk c fp H' σ δ :=
  ⟨k.ok, e.len, fun i d q => let ⟨v, a, r⟩ := e.rep i d q; ⟨v, a, r.kp k (e.nos i)⟩, e.emp, e.nos, e.frs, e.ndp, e.sep, fun b o q n => k.kp b o (e.frm b o q n) n⟩
theorem Post.nil (h : c.G.ok H) : Post c vs fp H H [] := ⟨Kp.refl h, fun _ z => (nomatch z), fun _ z => (nomatch z)⟩
theorem Post.kpnil (h : Kp c.G H H') : Post c vs fp H H' [] := ⟨h, fun _ z => (nomatch z), fun _ z => (nomatch z)⟩
theorem Post.more (p : Post c vs fp H H1 F) (k : Kp c.G H1 H2) : Post c vs fp H H2 F := ⟨p.kp.trans k, p.nos, p.pv⟩
theorem Post.ahead (k : Kp c.G H H1) (p : Post c vs fp H1 H2 F) : Post c vs fp H H2 F := ⟨k.trans p.kp, p.nos, fun a z => (p.pv a z).elim (fun q => .inl (k.free q)) .inr⟩
theorem Post.wk (p : Post c vs fp H H1 F) (s : ∀ i ∈ vs, i ∈ ws) : Post c ws fp H H1 F := ⟨p.kp, p.nos, fun a z => (p.pv a z).elim .inl fun ⟨j, hj, q⟩ => .inr ⟨j, s j hj, q⟩⟩
theorem Post.sub (p : Post c vs fp H H1 F) (s : ∀ a ∈ F', a ∈ F) : Post c vs fp H H1 F' := ⟨p.kp, fun a z => p.nos a (s a z), fun a z => p.pv a (s a z)⟩
theorem Post.join (p : Post c vs fp H H1 F) (p' : Post c ws fp H H1 F') : Post c (vs ++ ws) fp H H1 (F ++ F') :=
  ⟨p.kp, fun a z => (List.mem_append.mp z).elim (p.nos a) (p'.nos a), fun a z => (List.mem_append.mp z).elim (fun q => (p.pv a q).elim .inl fun ⟨j, hj, r⟩ => .inr ⟨j, by simp [hj], r⟩) fun q => (p'.pv a q).elim .inl fun ⟨j, hj, r⟩ => .inr ⟨j, by simp [hj], r⟩⟩
end

/-! ### readings by data -/
def tD {K : PySem.W.Frag} (c : Cd K) (vs : List Nat) (f : Env → W D) : TE := fun σ H Q => ∃ fp δ Qd, EnvOk c fp H σ δ ∧ f δ Qd c.xq ∧ ∀ d, Qd d → ∀ v H' F, Post c vs fp H H' F → Rp c.G H' v d F → Q v H'
/-- a test -/
def tT {K : PySem.W.Frag} (c : Cd K) (f : Env → W Bool) : TT := fun σ H Q => ∃ fp δ Qd, EnvOk c fp H σ δ ∧ f δ Qd c.xq ∧ ∀ b, Qd b → ∀ H', Kp c.G H H' → Q b H'
/-- arguments -/
def tA {K : PySem.W.Frag} (c : Cd K) (vs : List Nat) (f : Env → W (List D)) : TA := fun σ H Q => ∃ fp δ Qd, EnvOk c fp H σ δ ∧ f δ Qd c.xq ∧ ∀ ds, Qd ds → ∀ us H' F, Post c vs fp H H' F → RpA c.G H' us ds F → Q us H'
/-- a new object, whole -/
def tN {K : PySem.W.Frag} (c : Cd K) (f : Env → W D) : TE := fun σ H Q => ∃ fp δ Qd, EnvOk c fp H σ δ ∧ f δ Qd c.xq ∧ ∀ d, Qd d → ∀ v H' F, Kp c.G H H' → Rp c.G H' v d F → (∀ a ∈ F, H a = none) → F.Nodup → Q v H'

section
variable {X : Cx} {c : Cd X.K} {e a b : Expr} {t t' : TE}
theorem _root_.L2.PE.wk (h : PE X e t) (w : ∀ σ H Q, t' σ H Q → t σ H Q) : PE X e t' := ⟨fun pins s σ H Q I q => h.run pins s σ H Q I (w σ H Q q)⟩
theorem _root_.L2.PT.wk {t t' : TT} (h : PT X e t) (w : ∀ σ H Q, t' σ H Q → t σ H Q) : PT X e t' := ⟨fun pins s σ H Q I q => h.run pins s σ H Q I (w σ H Q q)⟩
theorem _root_.L2.PA.wk {es : List Expr} {t t' : TA} (h : PA X es t) (w : ∀ σ H Q, t' σ H Q → t σ H Q) : PA X es t' := ⟨fun pos pins s σ H Q I q => h.run pos pins s σ H Q I (w σ H Q q)⟩
theorem _root_.L2.PS.wk {st : Stmt} {t t' : TS} (h : PS X st t) (w : ∀ Dn σ H, t' Dn σ H → t Dn σ H) : PS X st t' := ⟨fun pins s σ H Dn I q => h.run pins s σ H Dn I (w Dn σ H q)⟩
theorem _root_.L2.PSs.wk {st : List Stmt} {t t' : TS} (h : PSs X st t) (w : ∀ Dn σ H, t' Dn σ H → t Dn σ H) : PSs X st t' := ⟨fun pins s σ H Dn I q => h.run pins s σ H Dn I (w Dn σ H q)⟩
/-- a whole new object is one -/
theorem pd_new {f : Env → W D} (h : PE X e (tN c f)) : PE X e (tD c [] f) := h.wk fun σ H Q ⟨fp, δ, Qd, e, hf, k⟩ =>
  ⟨fp, δ, Qd, e, hf, fun d qd v H' F kp r fr nd => k d qd v H' F ⟨kp, fun a z => notS0 e.ok (fr a z), fun a z => .inl (fr a z)⟩ r⟩

/-! ### names, constants -/
def dV (i : Nat) : Env → W D := fun δ => gw δ i
theorem pd_v (i : Nat) (h : PE X e (tVar i)) : PE X e (tD c [i] (dV i)) := h.wk fun σ H Q ⟨fp, δ, Qd, e, hf, k⟩ => by
  unfold dV gw at hf
  cases q : gt δ i with
  | none => rw [q] at hf; exact hf.elim
  | some d =>
    rw [q] at hf
    obtain ⟨v, hv, r⟩ := e.rep i d q
    exact ⟨v, hv, k d hf v H (fp i) ⟨Kp.refl e.ok, e.nos i, fun a z => .inr ⟨i, by simp, z⟩⟩ r⟩
def dC (d : D) : Env → W D := fun _ => pu d
theorem pd_c {v : V} {d : D} (h : PE X e (tC v)) (r : ∀ H, Rp c.G H v d []) : PE X e (tD c [] (dC d)) := h.wk fun σ H Q ⟨fp, δ, Qd, e, hf, k⟩ =>
  k d hf v H [] (Post.nil e.ok) (r H)
theorem pd_int {i j pos} : PE X (.Constant (.int i) j pos) (tD c [] (dC (.int i))) := pd_c pe_int fun _ => .int i
theorem pd_bl {i j pos} : PE X (.Constant (.bool i) j pos) (tD c [] (dC (.bl i))) := pd_c pe_bl fun _ => .bl i
theorem pd_non {j pos} : PE X (.Constant .none j pos) (tD c [] (dC .non)) := pd_c pe_non fun _ => .non
theorem pd_str {x j pos} : PE X (.Constant (.str x) j pos) (tD c [] (dC (.str x))) := pd_c pe_str fun _ => .str x

/-! ### two parts and an operation by values -/
/-- opd, a function of data, does what r, a rule by values, asks -/
def OpD {K : PySem.W.Frag} (c : Cd K) (r : R2) (opd : D → D → W D) : Prop := ∀ (H : Hp) (x y : V) (dx dy : D) (Fx Fy : List Addr) (Qd : D → Prop) (Q : VK), c.G.ok H → (∀ a ∈ Fx, a ∉ c.G.S) → (∀ a ∈ Fy, a ∉ c.G.S) → Rp c.G H x dx Fx → Rp c.G H y dy Fy → opd dx dy Qd c.xq →
  (∀ d, Qd d → ∀ v H' F, Kp c.G H H' → Rp c.G H' v d F → (∀ a ∈ F, H a = none ∨ a ∈ Fx ∨ a ∈ Fy) → Q v H') → r x y H Q
def dOp (opd : D → D → W D) (fa fb : Env → W D) : Env → W D := fun δ => bd (fa δ) fun x => bd (fb δ) fun y => opd x y
theorem tOp_of {r : R2} {opd : D → D → W D} {va vb : List Nat} {fa fb : Env → W D} (ho : OpD c r opd) (σ : St) (H : Hp) (Q : VK) (h : tD c (va ++ vb) (dOp opd fa fb) σ H Q) : tOp r (tD c va fa) (tD c vb fb) σ H Q := by
  obtain ⟨fp, δ, Qd, e, hf, k⟩ := h
  refine ⟨fp, δ, fun x => bd (fb δ) (fun y => opd x y) Qd c.xq, e, hf, fun dx qx x H1 Fx p1 r1 => ?_⟩
  refine ⟨fp, δ, fun y => opd dx y Qd c.xq, e.kp p1.kp, qx, fun dy qy y H2 Fy p2 r2 => ?_⟩
  refine ho H2 x y dx dy Fx Fy Qd Q p2.kp.ok p1.nos p2.nos (r1.kp p2.kp p1.nos) r2 qy fun d qd v H' F kp rv hF => ?_
  have p1' := p1.more p2.kp
  have p2' := Post.ahead p1.kp p2
  have pj := p1'.join p2'
  refine k d qd v H' F ⟨(pj.kp).trans kp, fun a z => ?_, fun a z => ?_⟩ rv
  · rcases hF a z with q | q | q
    · exact notS0 p2.kp.ok q
    · exact p1.nos a q
    · exact p2.nos a q
  · rcases hF a z with q | q | q
    · exact .inl (pj.kp.free q)
    · exact pj.pv a (by simp [q])
    · exact pj.pv a (by simp [q])
variable {op : Operator} {r : R2} {opd : D → D → W D} {va vb : List Nat} {fa fb : Env → W D} {pos : Pos}
theorem pd_op (ho : OpR X (binaryOp op) r) (hd : OpD c r opd) (ha : PE X a (tD c va fa)) (hb : PE X b (tD c vb fb)) : PE X (.BinOp a op b pos) (tD c (va ++ vb) (dOp opd fa fb)) := (pe_op ho ha hb).wk (tOp_of hd)
theorem pd_cmp {op : CmpOp} (ho : OpR X (compareOp op) r) (hd : OpD c r opd) (ha : PE X a (tD c va fa)) (hb : PE X b (tD c vb fb)) (hm : behindInMarks op b = false) : PE X (.Compare a [op] [b] pos) (tD c (va ++ vb) (dOp opd fa fb)) := (pe_cmpR ho ha hb hm).wk (tOp_of hd)
theorem pd_ix (ho : IxR X r) (hd : OpD c r opd) (ha : PE X a (tD c va fa)) (hb : PE X b (tD c vb fb)) (hs : PlainIx b) : PE X (.Subscript a b pos) (tD c (va ++ vb) (dOp opd fa fb)) := (pe_ix ho ha hb hs).wk (tOp_of hd)
end
end DL
namespace DL
open PySem L2
section
variable {K : PySem.W.Frag} {G : Gx K} {H H' : Hp}
theorem Rp.nonI {v : V} {F : List Addr} (h : Rp G H v .non F) : v = .non ∧ F = [] := by cases h; exact ⟨rfl, rfl⟩
theorem Rp.blI {v : V} {b : Bool} {F : List Addr} (h : Rp G H v (.bl b) F) : v = .bl b ∧ F = [] := by cases h; exact ⟨rfl, rfl⟩
theorem Rp.intI {v : V} {i : Int} {F : List Addr} (h : Rp G H v (.int i) F) : v = .int i ∧ F = [] := by cases h; exact ⟨rfl, rfl⟩
theorem Rp.strI {v : V} {x : Str} {F : List Addr} (h : Rp G H v (.str x) F) : v = .str x ∧ F = [] := by cases h; exact ⟨rfl, rfl⟩
theorem Rp.tupI {v : V} {ds : List D} {F : List Addr} (h : Rp G H v (.tup ds) F) : ∃ a xs, v = .ref a ∧ SqT K H a xs ∧ RpA G H xs ds F := by cases h with | tup e ha => exact ⟨_, _, rfl, e, ha⟩
theorem Rp.lstI {v : V} {ds : List D} {F : List Addr} (h : Rp G H v (.lst ds) F) : ∃ a xs F', v = .ref a ∧ SqL K H a xs ∧ RpA G H xs ds F' ∧ ∀ b ∈ F', b ∈ F := by
  cases h with
  | lst e ha => exact ⟨_, _, _, rfl, .inl (.inl e), ha, fun b z => by simp [z]⟩
theorem Rp.frzI {v : V} {ds : List D} {F : List Addr} (h : Rp G H v (.frz ds) F) : ∃ a xs, v = .ref a ∧ SqL K H a xs ∧ RpA G H xs ds [] ∧ F = [] := by
  cases h with
  | frz e ha => exact ⟨_, _, rfl, e.sq, ha, rfl⟩
theorem RpA.ints : ∀ {ns : List Int} {xs : List V} {F : List Addr}, RpA G H xs (ns.map D.int) F → xs = ns.map V.int ∧ F = []
  | [], _, _, h => by cases h; exact ⟨rfl, rfl⟩
  | n :: ns, _, _, h => by
    rw [List.map_cons] at h
    cases h with
    | cons h1 h2 =>
      obtain ⟨rfl, rfl⟩ := h1.intI
      obtain ⟨rfl, rfl⟩ := RpA.ints h2
      exact ⟨rfl, rfl⟩
theorem RpA.of_ints : ∀ {ns : List Int}, RpA G H (ns.map V.int) (ns.map D.int) []
  | [] => .nil
  | n :: ns => by have := RpA.cons (Rp.int (G := G) (H := H) n) (RpA.of_ints (ns := ns)); simpa using this
theorem RpA.bls : ∀ {ns : List Bool} {xs : List V} {F : List Addr}, RpA G H xs (ns.map D.bl) F → xs = ns.map V.bl ∧ F = []
  | [], _, _, h => by cases h; exact ⟨rfl, rfl⟩
  | n :: ns, _, _, h => by
    rw [List.map_cons] at h
    cases h with
    | cons h1 h2 =>
      obtain ⟨rfl, rfl⟩ := h1.blI
      obtain ⟨rfl, rfl⟩ := RpA.bls h2
      exact ⟨rfl, rfl⟩
/-- the intsD of a list of intsD -/
def intsD : List D → Option (List Int)
  | [] => some []
  | .int i :: ds => (intsD ds).map (i :: ·)
  | _ :: _ => none
theorem intsD_eq : ∀ {ds : List D} {ns : List Int}, intsD ds = some ns → ds = ns.map D.int
  | [], _, h => by simp [intsD] at h; subst h; rfl
  | d :: ds, ns, h => by
    cases d <;> simp [intsD] at h
    obtain ⟨ms, e, rfl⟩ := h
    rw [intsD_eq e]; rfl
theorem intsD_map : ∀ (ns : List Int), intsD (ns.map D.int) = some ns
  | [] => rfl
  | n :: ns => by simp [intsD, intsD_map ns]
def bls : List D → Option (List Bool)
  | [] => some []
  | .bl i :: ds => (bls ds).map (i :: ·)
  | _ :: _ => none
theorem bls_eq : ∀ {ds : List D} {ns : List Bool}, bls ds = some ns → ds = ns.map D.bl
  | [], _, h => by simp [bls] at h; subst h; rfl
  | d :: ds, ns, h => by
    cases d <;> simp [bls] at h
    obtain ⟨ms, e, rfl⟩ := h
    rw [bls_eq e]; rfl
theorem bls_map : ∀ (ns : List Bool), bls (ns.map D.bl) = some ns
  | [] => rfl
  | n :: ns => by simp [bls, bls_map ns]
/-- what is laid anew keeps what is read -/
theorem Rp.laid {v : V} {d : D} {F : List Addr} (h : Rp G H v d F) (hk : G.ok H) (hn : ∀ a ∈ F, a ∉ G.S) {p : Addr} (hp : H p = none) (o : HO) : Rp G (upd H p o) v d F := h.kp (Kp.laid hk hp o) hn
theorem RpA.laid {v : List V} {d : List D} {F : List Addr} (h : RpA G H v d F) (hk : G.ok H) (hn : ∀ a ∈ F, a ∉ G.S) {p : Addr} (hp : H p = none) (o : HO) : RpA G (upd H p o) v d F := h.kp (Kp.laid hk hp o) hn

/-! ### data as the library's data -/
mutual
def D.py : D → Option PyData
  | .non => some .none
  | .bl b => some (.bool b)
  | .int i => some (.int i)
  | .str x => some (.str x)
  | .lst ds => (D.pys ds).map .list
  | .frz ds => (D.pys ds).map .list
  | .tup ds => (D.pys ds).map .tuple
  | .dic _ _ => none
  | .dtt _ _ => none
  | .src => none
  | .ty _ => none
  | .ref _ => none
def D.pys : List D → Option (List PyData)
  | [] => some []
  | d :: ds => (D.py d).bind fun p => (D.pys ds).map (p :: ·)
end
mutual
theorem Rp.dp : ∀ (d : D) (v : V) (F : List Addr) (p : PyData), Rp G H v d F → d.py = some p → Dp K H v p
  | .non, _, _, _, h, e => by cases h; simp [D.py] at e; subst e; exact .non
  | .bl _, _, _, _, h, e => by cases h; simp [D.py] at e; subst e; exact .bl _
  | .int _, _, _, _, h, e => by cases h; simp [D.py] at e; subst e; exact .int _
  | .str _, _, _, _, h, e => by cases h; simp [D.py] at e; subst e; exact .str _
  | .src, _, _, _, h, e => by simp [D.py] at e
  | .ty _, _, _, _, h, e => by simp [D.py] at e
  | .ref _, _, _, _, h, e => by simp [D.py] at e
  | .dic _ _, _, _, _, h, e => by simp [D.py] at e
  | .dtt _ _, _, _, _, h, e => by simp [D.py] at e
  | .lst ds, _, _, _, h, e => by
    simp [D.py] at e
    obtain ⟨ps, e, rfl⟩ := e
    cases h with
    | lst q ha => exact .lst (.inl (.inl q)) (RpA.dp ds _ _ _ ha e)
  | .frz ds, _, _, _, h, e => by
    simp [D.py] at e
    obtain ⟨ps, e, rfl⟩ := e
    cases h with
    | frz q ha => exact .lst q.sq (RpA.dp ds _ _ _ ha e)
  | .tup ds, _, _, _, h, e => by
    simp [D.py] at e
    obtain ⟨ps, e, rfl⟩ := e
    cases h with
    | tup q ha => exact .tup q (RpA.dp ds _ _ _ ha e)
theorem RpA.dp : ∀ (ds : List D) (vs : List V) (F : List Addr) (ps : List PyData), RpA G H vs ds F → D.pys ds = some ps → DpAll K H vs ps
  | [], _, _, _, h, e => by cases h; simp [D.pys] at e; subst e; exact .nil
  | d :: ds, _, _, _, h, e => by
    cases h with
    | cons h1 h2 =>
      simp only [D.pys, Option.bind_eq_some_iff, Option.map_eq_some_iff] at e
      obtain ⟨p, e1, ps, e2, rfl⟩ := e
      exact .cons (Rp.dp d _ _ _ h1 e1) (RpA.dp ds _ _ _ h2 e2)
end
end

def chk {α : Type} (p : Prop) (w : W α) : W α := fun Q X => p ∧ w Q X
theorem chk_pos {α : Type} {p : Prop} (h : p) (w : W α) : chk p w = w := by
  funext Q X
  exact propext ⟨fun q => q.2, fun q => ⟨h, q⟩⟩
/-- what is there, or nothing is claimed -/
def opt {α β : Type} (o : Option α) (k : α → W β) : W β := fun Q X => ∃ a, o = some a ∧ k a Q X
theorem opt_some {α β : Type} (a : α) (k : α → W β) : opt (some a) k = k a := by
  funext Q X
  exact propext ⟨fun ⟨b, e, q⟩ => by cases e; exact q, fun q => ⟨a, rfl, q⟩⟩
theorem opt_none {α β : Type} (k : α → W β) : opt none k = fl := by
  funext Q X
  exact propext ⟨fun ⟨b, e, q⟩ => (nomatch e), fun q => q.elim⟩
def asI : D → W Int
  | .int i => pu i
  | _ => fl
def asB : D → W Bool
  | .bl b => pu b
  | _ => fl

section
variable {X : Cx} {c : Cd X.K}
/-- an operation that makes nothing new -/
theorem od_flat {r : R2} {opd : D → D → W D} (h : ∀ (H : Hp) (x y : V) (dx dy : D) (Fx Fy : List Addr) (Qd : D → Prop) (Q : VK), c.G.ok H → Rp c.G H x dx Fx → Rp c.G H y dy Fy → opd dx dy Qd c.xq →
    (∀ d, Qd d → ∀ v F, Rp c.G H v d F → (∀ a ∈ F, a ∈ Fx ∨ a ∈ Fy) → Q v H) → r x y H Q) : OpD c r opd := fun H x y dx dy Fx Fy Qd Q ok _ _ rx ry q k =>
  h H x y dx dy Fx Fy Qd Q ok rx ry q fun d qd v F rv s => k d qd v H F (Kp.refl ok) rv fun a z => .inr (s a z)
theorem OpD.or1 {r r' : R2} {opd : D → D → W D} (h : OpD c r opd) : OpD c (fun x y H Q => r x y H Q ∨ r' x y H Q) opd := fun H x y dx dy Fx Fy Qd Q a b d e f q k => .inl (h H x y dx dy Fx Fy Qd Q a b d e f q k)
theorem OpD.or2 {r r' : R2} {opd : D → D → W D} (h : OpD c r' opd) : OpD c (fun x y H Q => r x y H Q ∨ r' x y H Q) opd := fun H x y dx dy Fx Fy Qd Q a b d e f q k => .inr (h H x y dx dy Fx Fy Qd Q a b d e f q k)

/-! ### + -/
def addD : D → D → W D
  | .int i, .int j => pu (.int (i + j))
  | .str a, .str b => chk (a.length + b.length ≤ sizeLine) (pu (.str (a ++ b)))
  | .tup xs, .tup ys => chk (xs.length + ys.length ≤ sizeLine) (pu (.tup (xs ++ ys)))
  | .lst xs, .lst ys => chk (xs.length + ys.length ≤ sizeLine) (pu (.lst (xs ++ ys)))
  | _, _ => fl
def rAdd (K : PySem.W.Frag) : R2 := fun x y H Q => rI0 (fun i j => .int (i + j)) x y H Q ∨ ((∃ i j, x = .str i ∧ y = .str j ∧ i.length + j.length ≤ sizeLine ∧ Q (.str (i ++ j)) H) ∨ (rCatA K x y H Q ∨ rCat x y H Q))
theorem or_add : OpR X (binaryOp .Add) (rAdd X.K) := OpR.or op_add (OpR.or op_add_str (OpR.or op_catA op_cat))
theorem od_add : OpD c (rAdd X.K) addD := by
  intro H x y dx dy Fx Fy Qd Q ok nx ny rx ry q k
  unfold addD at q
  split at q
  · obtain ⟨rfl, rfl⟩ := rx.intI
    obtain ⟨rfl, rfl⟩ := ry.intI
    exact .inl ⟨_, _, rfl, rfl, k _ q _ H [] (Kp.refl ok) (.int _) fun _ z => nomatch z⟩
  · obtain ⟨rfl, rfl⟩ := rx.strI
    obtain ⟨rfl, rfl⟩ := ry.strI
    exact .inr (.inl ⟨_, _, rfl, rfl, q.1, k _ q.2 _ H [] (Kp.refl ok) (.str _) fun _ z => nomatch z⟩)
  · obtain ⟨a, xs, rfl, sx, ax⟩ := rx.tupI
    obtain ⟨b, ys, rfl, sy, ay⟩ := ry.tupI
    refine .inr (.inr (.inl ⟨a, b, xs, ys, rfl, rfl, sx, sy, by rw [ax.length, ay.length]; exact q.1, fun e => ?_, fun _ e => ?_, fun _ _ p hp => ?_⟩))
    · subst e
      cases ax
      exact k _ q.2 _ H Fy (Kp.refl ok) (by simpa using ry) fun _ z => .inr (.inr z)
    · subst e
      cases ay
      exact k _ q.2 _ H Fx (Kp.refl ok) (by simpa using rx) fun _ z => .inr (.inl z)
    · refine k _ q.2 _ _ (Fx ++ Fy) (Kp.laid ok hp _) (.tup (SqT.of upd_same) ((ax.laid ok nx hp _).append (ay.laid ok ny hp _))) fun b z => ?_
      exact .inr (List.mem_append.mp z)
  · cases rx with
    | lst ex ax =>
      cases ry with
      | lst ey ay =>
        refine .inr (.inr (.inr ⟨_, _, _, _, rfl, rfl, ex, ey, by rw [ax.length, ay.length]; exact q.1, fun p hp => ?_⟩))
        refine k _ q.2 _ _ _ (Kp.laid ok hp _) (.lst upd_same ((ax.laid ok (fun a z => nx a (by simp [z])) hp _).append (ay.laid ok (fun a z => ny a (by simp [z])) hp _))) fun b z => ?_
        rcases List.mem_cons.mp z with z | z
        · exact .inl (by rw [z]; exact hp)
        · rcases List.mem_append.mp z with z | z
          · exact .inr (.inl (by simp [z]))
          · exact .inr (.inr (by simp [z]))
  · exact q.elim
end
end DL
namespace DL
open PySem L2
section
variable {X : Cx} {c : Cd X.K}
/-! ### ints -/
def intOp (g : Int → Int → D) : D → D → W D
  | .int i, .int j => pu (g i j)
  | _, _ => fl
def intOpC (C : Int → Int → Prop) (g : Int → Int → D) : D → D → W D
  | .int i, .int j => chk (C i j) (pu (g i j))
  | _, _ => fl
theorem od_int {gv : Int → Int → V} {g : Int → Int → D} (h : ∀ (H : Hp) i j, Rp c.G H (gv i j) (g i j) []) : OpD c (rI0 gv) (intOp g) := od_flat fun H x y dx dy Fx Fy Qd Q ok rx ry q k => by
  unfold intOp at q
  split at q
  · obtain ⟨rfl, rfl⟩ := rx.intI
    obtain ⟨rfl, rfl⟩ := ry.intI
    exact ⟨_, _, rfl, rfl, k _ q _ [] (h H _ _) fun _ z => nomatch z⟩
  · exact q.elim
theorem od_intC {C : Int → Int → Prop} {gv : Int → Int → V} {g : Int → Int → D} (h : ∀ (H : Hp) i j, Rp c.G H (gv i j) (g i j) []) : OpD c (rI C gv) (intOpC C g) := od_flat fun H x y dx dy Fx Fy Qd Q ok rx ry q k => by
  unfold intOpC at q
  split at q
  · obtain ⟨rfl, rfl⟩ := rx.intI
    obtain ⟨rfl, rfl⟩ := ry.intI
    exact ⟨_, _, rfl, rfl, q.1, k _ q.2 _ [] (h H _ _) fun _ z => nomatch z⟩
  · exact q.elim
def subD := intOp fun i j => .int (i - j)
theorem od_sub : OpD c (rI0 fun i j => .int (i - j)) subD := od_int fun _ i j => .int _
def modD := intOpC (fun _ j => 0 < j) fun i j => .int (i % j)
theorem od_mod : OpD c (rI (fun _ j => 0 < j) fun i j => .int (i % j)) modD := od_intC fun _ i j => .int _
def fdivD := intOpC CDivW fun i j => .int (i / j)
theorem od_fdiv : OpD c (rI CDivW fun i j => .int (i / j)) fdivD := od_intC fun _ i j => .int _
def powD := intOpC CPow fun i j => .int (i ^ j.toNat)
theorem od_pow : OpD c (rI CPow fun i j => .int (i ^ j.toNat)) powD := od_intC fun _ i j => .int _
def ltD := intOp fun i j => .bl (decide (i < j))
theorem od_lt : OpD c (rI0 fun i j => .bl (decide (i < j))) ltD := od_int fun _ i j => .bl _
def gtD := intOp fun i j => .bl (decide (j < i))
theorem od_gt : OpD c (rI0 fun i j => .bl (decide (j < i))) gtD := od_int fun _ i j => .bl _
def geD := intOp fun i j => .bl (decide (j ≤ i))
theorem od_ge : OpD c (rI0 fun i j => .bl (decide (j ≤ i))) geD := od_int fun _ i j => .bl _
/-- <= of ints and of tuples of ints -/
def leInts : List Int → List Int → Bool
  | [], _ => true
  | _ :: _, [] => false
  | x :: xs, y :: ys => if x = y then leInts xs ys else decide (x ≤ y)
theorem lexAt_shift (e r : Nat → Bool) (z : Bool) : ∀ k i, Ob.lexAt e r z (i + 1) k = Ob.lexAt (fun j => e (j + 1)) (fun j => r (j + 1)) z i k
  | 0, _ => rfl
  | k + 1, i => by
    rw [Ob.lexAt_succ, Ob.lexAt_succ, lexAt_shift e r z k (i + 1)]
theorem lexAt_le : ∀ (ns ms : List Int), Ob.lexAt (fun j => decide (ns.getD j 0 = ms.getD j 0)) (fun j => decide (ns.getD j 0 ≤ ms.getD j 0)) (decide (ns.length ≤ ms.length)) 0 (min ns.length ms.length) = leInts ns ms
  | [], ms => by
    simp only [List.length_nil, Nat.zero_min, Nat.zero_le, decide_true, leInts]
    rfl
  | n :: ns, [] => by
    simp only [List.length_nil, Nat.min_zero, leInts]
    show decide ((n :: ns).length ≤ 0) = false
    exact decide_eq_false (by simp)
  | n :: ns, m :: ms => by
    have e : min (n :: ns).length (m :: ms).length = min ns.length ms.length + 1 := by simp only [List.length_cons]; omega
    rw [e, Ob.lexAt_succ]
    show (if decide (n = m) = true then _ else decide (n ≤ m)) = if n = m then leInts ns ms else decide (n ≤ m)
    by_cases h : n = m
    · rw [if_pos (decide_eq_true h), if_pos h, lexAt_shift, ← lexAt_le ns ms]
      simp only [List.getD_cons_succ, List.length_cons, Nat.add_le_add_iff_right]
    · rw [if_neg (by simpa using h), if_neg h]
def leD : D → D → W D
  | .int i, .int j => pu (.bl (decide (i ≤ j)))
  | .tup xs, .tup ys => opt (intsD xs) fun ns => opt (intsD ys) fun ms => pu (.bl (leInts ns ms))
  | _, _ => fl
def rLe (K : PySem.W.Frag) : R2 := fun x y H Q => rI0 (fun i j => .bl (decide (i ≤ j))) x y H Q ∨ rLeT K x y H Q
theorem or_le (hu : X.A.units < cLine) : OpR X (compareOp .LtE) (rLe X.K) := OpR.or op_le (op_leT hu)
theorem od_le : OpD c (rLe X.K) leD := od_flat fun H x y dx dy Fx Fy Qd Q ok rx ry q k => by
  unfold leD at q
  split at q
  · obtain ⟨rfl, rfl⟩ := rx.intI
    obtain ⟨rfl, rfl⟩ := ry.intI
    exact .inl ⟨_, _, rfl, rfl, k _ q _ [] (.bl _) fun _ z => nomatch z⟩
  · obtain ⟨ns, e1, ms, e2, q⟩ := q
    have e1 := intsD_eq e1
    have e2 := intsD_eq e2
    subst e1 e2
    obtain ⟨a, xs, rfl, sx, ax⟩ := rx.tupI
    obtain ⟨b, ys, rfl, sy, ay⟩ := ry.tupI
    obtain ⟨rfl, rfl⟩ := ax.ints
    obtain ⟨rfl, rfl⟩ := ay.ints
    refine .inr ⟨a, b, _, _, rfl, rfl, sx, sy, ?_⟩
    rw [lexAt_le]
    exact k _ q _ [] (.bl _) fun _ z => nomatch z
  · exact q.elim

/-! ### * -/
def mulD : D → D → W D
  | .int i, .int j => chk (CMulW i j) (pu (.int (i * j)))
  | .lst xs, .int k => chk (k < 2 ^ 63 ∧ -(2 ^ 63) ≤ k ∧ xs.length * k.toNat ≤ sizeLine ∧ D.imms xs = true) (pu (.lst (List.replicate k.toNat xs).flatten))
  | .tup xs, .int k => chk (xs ≠ [] ∧ 2 ≤ k ∧ k ≤ 1000 ∧ xs.length ≤ 1000 ∧ D.imms xs = true) (pu (.tup (List.replicate k.toNat xs).flatten))
  | _, _ => fl
def rMul (K : PySem.W.Frag) : R2 := fun x y H Q => rI CMulW (fun i j => .int (i * j)) x y H Q ∨ (rRep x y H Q ∨ rRepT K x y H Q)
theorem or_mul : OpR X (binaryOp .Mult) (rMul X.K) := OpR.or op_mulW (OpR.or op_rep op_repT)
theorem RpA.rep {G : Gx X.K} {H : Hp} {xs : List V} {ds : List D} (h : RpA G H xs ds []) : ∀ n : Nat, RpA G H (List.replicate n xs).flatten (List.replicate n ds).flatten []
  | 0 => .nil
  | n + 1 => by
    have := h.append (RpA.rep h n)
    simpa [List.replicate_succ] using this
theorem od_mul : OpD c (rMul X.K) mulD := by
  intro H x y dx dy Fx Fy Qd Q ok nx ny rx ry q k
  unfold mulD at q
  split at q
  · obtain ⟨rfl, rfl⟩ := rx.intI
    obtain ⟨rfl, rfl⟩ := ry.intI
    exact .inl ⟨_, _, rfl, rfl, q.1, k _ q.2 _ H [] (Kp.refl ok) (.int _) fun _ z => nomatch z⟩
  · obtain ⟨rfl, rfl⟩ := ry.intI
    obtain ⟨⟨h1, h2, h3, h4⟩, q⟩ := q
    cases rx with
    | lst ex ax =>
      refine .inr (.inl ⟨_, _, _, rfl, rfl, ex, h2, h1, by rw [ax.length]; exact h3, fun p hp => ?_⟩)
      have e := RpA.imm_nil _ _ _ ax h4
      subst e
      refine k _ q _ _ [p] (Kp.laid ok hp _) ?_ fun a z => .inl (by rw [List.mem_singleton.mp z]; exact hp)
      exact .lst upd_same ((ax.laid ok (fun _ z => nomatch z) hp _).rep _)
  · obtain ⟨rfl, rfl⟩ := ry.intI
    obtain ⟨⟨h1, h2, h3, h4, h5⟩, q⟩ := q
    obtain ⟨a, vs, rfl, sx, ax⟩ := rx.tupI
    have e := RpA.imm_nil _ _ _ ax h5
    subst e
    refine .inr (.inr ⟨_, _, _, rfl, rfl, sx, ?_, h2, h3, by rw [ax.length]; exact h4, fun p hp => ?_⟩)
    · intro e
      subst e
      cases ax
      exact h1 rfl
    · refine k _ q _ _ [] (Kp.laid ok hp _) ?_ fun _ z => nomatch z
      exact .tup (SqT.of upd_same) ((ax.laid ok (fun _ z => nomatch z) hp _).rep _)
  · exact q.elim

/-! ### ==, != of data -/
def eqvD (x y : D) (g : Bool → W D) : W D := opt x.py fun a => opt y.py fun b => chk (SeqAt.shaped a = true ∧ SeqAt.shaped b = true) (g (PyData.eqv a b))
def eqD (x y : D) : W D := eqvD x y fun b => pu (.bl b)
def neD (x y : D) : W D := eqvD x y fun b => pu (.bl (!b))
theorem od_eq : OpD c (rEqD X.K) eqD := od_flat fun H x y dx dy Fx Fy Qd Q ok rx ry q k => by
  obtain ⟨a, e1, b, e2, ⟨s1, s2⟩, q⟩ := q
  exact ⟨a, b, Rp.dp _ _ _ _ rx e1, Rp.dp _ _ _ _ ry e2, s1, s2, k _ q _ [] (.bl _) fun _ z => nomatch z⟩
theorem od_ne : OpD c (rNeD X.K) neD := od_flat fun H x y dx dy Fx Fy Qd Q ok rx ry q k => by
  obtain ⟨a, e1, b, e2, ⟨s1, s2⟩, q⟩ := q
  exact ⟨a, b, Rp.dp _ _ _ _ rx e1, Rp.dp _ _ _ _ ry e2, s1, s2, k _ q _ [] (.bl _) fun _ z => nomatch z⟩
def pyL : PyData → Option (List PyData)
  | .list bs => some bs
  | _ => none
theorem pyL_eq {p : PyData} {bs : List PyData} (h : pyL p = some bs) : p = .list bs := by
  cases p <;> simp [pyL] at h
  subst h; rfl
def inD (x y : D) (g : Bool → W D) : W D := opt x.py fun a => opt (y.py.bind pyL) fun bs => chk (SeqAt.shaped a = true ∧ SeqAt.shaped (.list bs) = true) (g (bs.any fun z => PyData.eqv z a))
theorem py_bind {y : D} {bs : List PyData} (h : y.py.bind pyL = some bs) : y.py = some (.list bs) := by
  cases e : y.py with
  | none => rw [e] at h; simp at h
  | some p => rw [e] at h; rw [pyL_eq (p := p) (by simpa using h)]
def inLD (x y : D) : W D := inD x y fun b => pu (.bl b)
def ninLD (x y : D) : W D := inD x y fun b => pu (.bl (!b))
theorem od_in : OpD c (rInD X.K) inLD := od_flat fun H x y dx dy Fx Fy Qd Q ok rx ry q k => by
  obtain ⟨a, e1, b, e2, ⟨s1, s2⟩, q⟩ := q
  exact ⟨a, b, Rp.dp _ _ _ _ rx e1, Rp.dp _ _ _ _ ry (py_bind e2), s1, s2, k _ q _ [] (.bl _) fun _ z => nomatch z⟩
theorem od_nin : OpD c (rNotInD X.K) ninLD := od_flat fun H x y dx dy Fx Fy Qd Q ok rx ry q k => by
  obtain ⟨a, e1, b, e2, ⟨s1, s2⟩, q⟩ := q
  exact ⟨a, b, Rp.dp _ _ _ _ rx e1, Rp.dp _ _ _ _ ry (py_bind e2), s1, s2, k _ q _ [] (.bl _) fun _ z => nomatch z⟩

/-! ### is None -/
def D.isN : D → Bool
  | .non => true
  | _ => false
theorem Rp.isN {G : Gx X.K} {H : Hp} {v : V} {d : D} {F : List Addr} (r : Rp G H v d F) : decide (v = .non) = d.isN := by
  cases r <;> simp [D.isN]
def isND : D → D → W D
  | d, .non => pu (.bl d.isN)
  | _, _ => fl
def isnND : D → D → W D
  | d, .non => pu (.bl (!d.isN))
  | _, _ => fl
theorem od_isN : OpD c (fun x y H Q => y = .non ∧ Q (.bl (decide (x = .non))) H) isND := od_flat fun H x y dx dy Fx Fy Qd Q ok rx ry q k => by
  unfold isND at q
  split at q
  · obtain ⟨rfl, rfl⟩ := ry.nonI
    refine ⟨rfl, ?_⟩
    rw [rx.isN]
    exact k _ q _ [] (.bl _) fun _ z => nomatch z
  · exact q.elim
theorem od_isnN : OpD c (fun x y H Q => y = .non ∧ Q (.bl (!decide (x = .non))) H) isnND := od_flat fun H x y dx dy Fx Fy Qd Q ok rx ry q k => by
  unfold isnND at q
  split at q
  · obtain ⟨rfl, rfl⟩ := ry.nonI
    refine ⟨rfl, ?_⟩
    rw [rx.isN]
    exact k _ q _ [] (.bl _) fun _ z => nomatch z
  · exact q.elim

/-! ### subscripts -/
def idxL (ds : List D) (i : Int) : W D := opt (atI ds i) pu
def idxD : D → D → W D
  | .lst ds, .int i => idxL ds i
  | .frz ds, .int i => idxL ds i
  | .tup ds, .int i => idxL ds i
  | _, _ => fl
theorem RpA.atI {G : Gx X.K} {H : Hp} {xs : List V} {ds : List D} {F : List Addr} (h : RpA G H xs ds F) {i : Int} {d : D} (e : L2.atI ds i = some d) : ∃ v F', L2.atI xs i = some v ∧ Rp G H v d F' ∧ ∀ a ∈ F', a ∈ F := by
  unfold L2.atI at e ⊢
  rw [h.length]
  cases q : ixN ds.length i with
  | none => rw [q] at e; simp at e
  | some j =>
    rw [q] at e
    obtain ⟨v, F', e1, r, s⟩ := h.get (i := j) (d := d) (by simpa using e)
    exact ⟨v, F', by simpa using e1, r, s⟩
def rIx2 (K : PySem.W.Frag) : R2 := fun x y H Q => rIxL K x y H Q ∨ rIxT K x y H Q
theorem xr_ix : IxR X (rIx2 X.K) := ix_list.or ix_tup
theorem od_ix : OpD c (rIx2 X.K) idxD := od_flat fun H x y dx dy Fx Fy Qd Q ok rx ry q k => by
  unfold idxD at q
  split at q
  · obtain ⟨rfl, rfl⟩ := ry.intI
    obtain ⟨d, e, q⟩ := q
    obtain ⟨a, xs, F', rfl, sx, ax, sb⟩ := rx.lstI
    obtain ⟨v, F2, e2, r, s⟩ := ax.atI e
    exact .inl ⟨a, xs, _, v, rfl, rfl, sx, e2, k _ q v F2 r fun a z => .inl (sb a (s a z))⟩
  · obtain ⟨rfl, rfl⟩ := ry.intI
    obtain ⟨d, e, q⟩ := q
    obtain ⟨a, xs, rfl, sx, ax, rfl⟩ := rx.frzI
    obtain ⟨v, F2, e2, r, s⟩ := ax.atI e
    exact .inl ⟨a, xs, _, v, rfl, rfl, sx, e2, k _ q v F2 r fun a z => .inl (s a z)⟩
  · obtain ⟨rfl, rfl⟩ := ry.intI
    obtain ⟨d, e, q⟩ := q
    obtain ⟨a, xs, rfl, sx, ax⟩ := rx.tupI
    obtain ⟨v, F2, e2, r, s⟩ := ax.atI e
    exact .inr ⟨a, xs, _, v, rfl, rfl, sx, e2, k _ q v F2 r fun a z => .inl (s a z)⟩
  · exact q.elim
end
end DL
namespace DL
open PySem L2
section
variable {X : Cx} {c : Cd X.K} {e a b : Expr} {pos : Pos} {va vb vc : List Nat} {fa fb fc : Env → W D}
/-! ### tests -/
def dB (f : Env → W D) : Env → W Bool := fun δ => bd (f δ) asB
theorem tB_of (σ : St) (H : Hp) (Q : Bool → Hp → Prop) (h : tT c (dB fa) σ H Q) : tB (tD c va fa) σ H Q := by
  obtain ⟨fp, δ, Qd, e, hf, k⟩ := h
  refine ⟨fp, δ, fun d => asB d Qd c.xq, e, hf, fun d qd v H' F p r => ?_⟩
  cases r with
  | bl b => exact ⟨b, rfl, k b qd H' p.kp⟩
  | _ => exact qd.elim
theorem pt_v (h : PE X e (tD c va fa)) (he : ∀ whole, isTrue e X.env whole = (do let v ← whole; standAt e.pos; holding [v] (truthy v)) := by intro _; rfl) : PT X e (tT c (dB fa)) := (pt_val h he).wk tB_of
theorem pt_c {op : CmpOp} {r : R2} {opd : D → D → W D} (ho : OpR X (compareOp op) r) (hd : OpD c r opd) (ha : PE X a (tD c va fa)) (hb : PE X b (tD c vb fb)) (hm : behindInMarks op b = false) : PT X (.Compare a [op] [b] pos) (tT c (dB (dOp opd fa fb))) :=
  (pt_cmpR ho ha hb hm).wk fun σ H Q h => by
    obtain ⟨fp, δ, Qd, e, hf, k⟩ := h
    refine tOp_of (va := va) (vb := vb) hd σ H _ ⟨fp, δ, fun d => asB d Qd c.xq, e, hf, fun d qd v H' F p r => ?_⟩
    cases r with
    | bl b => exact ⟨b, rfl, k b qd H' p.kp⟩
    | _ => exact qd.elim
variable {ga gb : Env → W Bool} {rest : List Expr}
def dNotT (g : Env → W Bool) : Env → W Bool := fun δ => bd (g δ) fun b => pu (!b)
theorem pt_n (h : PT X a (tT c ga)) : PT X (.UnaryOp .Not a pos) (tT c (dNotT ga)) := (pt_not h).wk fun σ H Q ⟨fp, δ, Qd, e, hf, k⟩ =>
  ⟨fp, δ, fun b => Qd (!b), e, hf, fun b qb H' kp => k _ qb H' kp⟩
def dAndT (g g' : Env → W Bool) : Env → W Bool := fun δ => bd (g δ) fun b => if b = true then g' δ else pu false
def dOrT (g g' : Env → W Bool) : Env → W Bool := fun δ => bd (g δ) fun b => if b = true then pu true else g' δ
theorem pw_a1 (h : PT X a (tT c ga)) : PW X (.BoolOp .And [a] pos) (tT c ga) := pw_and1 h
theorem pw_o1 (h : PT X a (tT c ga)) : PW X (.BoolOp .Or [a] pos) (tT c ga) := pw_or1 h
theorem _root_.L2.PW.wk {t t' : TT} {e : Expr} (h : PW X e t) (w : ∀ σ H Q, t' σ H Q → t σ H Q) : PW X e t' := ⟨fun wh pins s σ H Q I q => h.run wh pins s σ H Q I (w σ H Q q)⟩
theorem pw_a (h : PT X a (tT c ga)) (h' : PW X (.BoolOp .And (b :: rest) pos) (tT c gb)) : PW X (.BoolOp .And (a :: b :: rest) pos) (tT c (dAndT ga gb)) := (pw_and h h').wk fun σ H Q ⟨fp, δ, Qd, e, hf, k⟩ => by
  refine ⟨fp, δ, fun b => (if b = true then gb δ else pu false) Qd c.xq, e, hf, fun b qb H' kp => ?_⟩
  cases b with
  | true => exact ⟨fp, δ, Qd, e.kp kp, qb, fun b q H2 kp2 => k b q H2 (kp.trans kp2)⟩
  | false => exact k _ qb H' kp
theorem pw_o (h : PT X a (tT c ga)) (h' : PW X (.BoolOp .Or (b :: rest) pos) (tT c gb)) : PW X (.BoolOp .Or (a :: b :: rest) pos) (tT c (dOrT ga gb)) := (pw_or h h').wk fun σ H Q ⟨fp, δ, Qd, e, hf, k⟩ => by
  refine ⟨fp, δ, fun b => (if b = true then pu true else gb δ) Qd c.xq, e, hf, fun b qb H' kp => ?_⟩
  cases b with
  | false => exact ⟨fp, δ, Qd, e.kp kp, qb, fun b q H2 kp2 => k b q H2 (kp.trans kp2)⟩
  | true => exact k _ qb H' kp
/-! ### and, or, not as values -/
def dAnd (f f' : Env → W D) : Env → W D := fun δ => bd (f δ) fun d => bd (asB d) fun b => if b = true then f' δ else pu (.bl false)
def dOr (f f' : Env → W D) : Env → W D := fun δ => bd (f δ) fun d => bd (asB d) fun b => if b = true then pu (.bl true) else f' δ
def dNot (f : Env → W D) : Env → W D := fun δ => bd (f δ) fun d => bd (asB d) fun b => pu (.bl (!b))
theorem pd_one {op} (h : PE X a (tD c va fa)) : PE X (.BoolOp op [a] pos) (tD c va fa) := pe_one h
theorem pd_and (h : PE X a (tD c va fa)) (h' : PE X (.BoolOp .And (b :: rest) pos) (tD c vb fb)) : PE X (.BoolOp .And (a :: b :: rest) pos) (tD c vb (dAnd fa fb)) := (pe_and h h').wk fun σ H Q ⟨fp, δ, Qd, e, hf, k⟩ => by
  refine ⟨fp, δ, fun d => bd (asB d) (fun b => if b = true then fb δ else pu (D.bl false)) Qd c.xq, e, hf, fun d qd v H' F p r => ?_⟩
  cases r with
  | bl b =>
    refine ⟨b, rfl, ?_⟩
    cases b with
    | true => exact ⟨fp, δ, Qd, e.kp p.kp, qd, fun d qd v H2 F p2 r2 => k d qd v H2 F (p2.ahead p.kp) r2⟩
    | false => exact k _ qd _ H' [] (.kpnil p.kp) (.bl _)
  | _ => exact qd.elim
theorem pd_or (h : PE X a (tD c va fa)) (h' : PE X (.BoolOp .Or (b :: rest) pos) (tD c vb fb)) : PE X (.BoolOp .Or (a :: b :: rest) pos) (tD c vb (dOr fa fb)) := (pe_or h h').wk fun σ H Q ⟨fp, δ, Qd, e, hf, k⟩ => by
  refine ⟨fp, δ, fun d => bd (asB d) (fun b => if b = true then pu (D.bl true) else fb δ) Qd c.xq, e, hf, fun d qd v H' F p r => ?_⟩
  cases r with
  | bl b =>
    refine ⟨b, rfl, ?_⟩
    cases b with
    | false => exact ⟨fp, δ, Qd, e.kp p.kp, qd, fun d qd v H2 F p2 r2 => k d qd v H2 F (p2.ahead p.kp) r2⟩
    | true => exact k _ qd _ H' [] (.kpnil p.kp) (.bl _)
  | _ => exact qd.elim
theorem pd_not (h : PE X a (tD c va fa)) : PE X (.UnaryOp .Not a pos) (tD c [] (dNot fa)) := (pe_not h).wk fun σ H Q ⟨fp, δ, Qd, e, hf, k⟩ => by
  refine ⟨fp, δ, fun d => bd (asB d) (fun b => pu (D.bl (!b))) Qd c.xq, e, hf, fun d qd v H' F p r => ?_⟩
  cases r with
  | bl b => exact ⟨b, rfl, k _ qd _ H' [] (.kpnil p.kp) (.bl _)⟩
  | _ => exact qd.elim
/-- -i -/
def negD : D → W D
  | .int i => pu (.int (-i))
  | _ => fl
def dUn (g : D → W D) (f : Env → W D) : Env → W D := fun δ => bd (f δ) g
theorem pd_neg (h : PE X a (tD c va fa)) : PE X (.UnaryOp .USub a pos) (tD c [] (dUn negD fa)) := (pe_un un_neg h).wk fun σ H Q ⟨fp, δ, Qd, e, hf, k⟩ => by
  refine ⟨fp, δ, fun d => negD d Qd c.xq, e, hf, fun d qd v H' F p r => ?_⟩
  cases r with
  | int i => exact ⟨i, rfl, k _ qd _ H' [] (.kpnil p.kp) (.int _)⟩
  | _ => exact qd.elim
/-- a if t else b -/
def dIf (g : Env → W Bool) (f f' : Env → W D) : Env → W D := fun δ => bd (g δ) fun b => if b = true then f δ else f' δ
theorem pd_if {t : Expr} (ht : PT X t (tT c ga)) (ha : PE X a (tD c va fa)) (hb : PE X b (tD c vb fb)) : PE X (.IfExp t a b pos) (tD c (va ++ vb) (dIf ga fa fb)) := (pe_ifExp ht ha hb).wk fun σ H Q ⟨fp, δ, Qd, e, hf, k⟩ => by
  refine ⟨fp, δ, fun b => (if b = true then fa δ else fb δ) Qd c.xq, e, hf, fun b qb H' kp => ?_⟩
  cases b with
  | true => exact ⟨fp, δ, Qd, e.kp kp, qb, fun d qd v H2 F p r => k d qd v H2 F ((p.ahead kp).wk fun i z => by simp [z]) r⟩
  | false => exact ⟨fp, δ, Qd, e.kp kp, qb, fun d qd v H2 F p r => k d qd v H2 F ((p.ahead kp).wk fun i z => by simp [z]) r⟩
/-- a < b < c -/
def dChain (o o' : D → D → W D) (fa fb fc : Env → W D) : Env → W D := fun δ => bd (fa δ) fun x => bd (fb δ) fun y => bd (o x y) fun z => bd (asB z) fun k => if k = true then bd (fc δ) fun w => o' y w else pu (.bl false)
theorem tChain_of {r r' : R2} {o o' : D → D → W D} (hd : OpD c r o) (hd' : OpD c r' o') (σ : St) (H : Hp) (Q : VK) (h : tD c (va ++ (vb ++ vc)) (dChain o o' fa fb fc) σ H Q) : tChain r r' (tD c va fa) (tD c vb fb) (tD c vc fc) σ H Q := by
  obtain ⟨fp, δ, Qd, e, hf, k⟩ := h
  refine ⟨fp, δ, fun x => bd (fb δ) (fun y => bd (o x y) fun z => bd (asB z) fun k => if k = true then bd (fc δ) fun w => o' y w else pu (D.bl false)) Qd c.xq, e, hf, fun dx qx x H1 Fx p1 r1 => ?_⟩
  refine ⟨fp, δ, fun y => bd (o dx y) (fun z => bd (asB z) fun k => if k = true then bd (fc δ) fun w => o' y w else pu (D.bl false)) Qd c.xq, e.kp p1.kp, qx, fun dy qy y H2 Fy p2 r2 => ?_⟩
  refine hd H2 x y dx dy Fx Fy (fun z => bd (asB z) (fun k => if k = true then bd (fc δ) fun w => o' dy w else pu (.bl false)) Qd c.xq) _ p2.kp.ok p1.nos p2.nos (r1.kp p2.kp p1.nos) r2 qy fun z qz v H3 F kp3 rz _ => ?_
  cases rz with
  | bl t =>
    refine ⟨t, rfl, ?_⟩
    have k13 := p1.kp.trans (p2.kp.trans kp3)
    cases t with
    | false => exact k _ qz _ H3 [] (.kpnil k13) (.bl _)
    | true =>
      refine ⟨fp, δ, fun w => o' dy w Qd c.xq, e.kp k13, qz, fun dw qw w H4 Fw p4 r4 => ?_⟩
      refine hd' H4 y w dy dw Fy Fw Qd Q p4.kp.ok p2.nos p4.nos (r2.kp (kp3.trans p4.kp) p2.nos) r4 qw fun d qd v H5 F5 kp5 rv s5 => ?_
      have p2' : Post c (va ++ (vb ++ vc)) fp H H4 Fy := ((p2.ahead p1.kp).more (kp3.trans p4.kp)).wk fun i z => by simp [z]
      have p4' : Post c (va ++ (vb ++ vc)) fp H H4 Fw := (p4.ahead k13).wk fun i z => by simp [z]
      refine k d qd v H5 F5 ⟨p4'.kp.trans kp5, fun a z => ?_, fun a z => ?_⟩ rv
      · rcases s5 a z with q | q | q
        · exact notS0 p4.kp.ok q
        · exact p2.nos a q
        · exact p4.nos a q
      · rcases s5 a z with q | q | q
        · exact .inl (p4'.kp.free q)
        · exact p2'.pv a q
        · exact p4'.pv a q
  | _ => exact qz.elim

theorem pd_chain {op op' : CmpOp} {r r' : R2} {o o' : D → D → W D} {ec : Expr} (ho : OpR X (compareOp op) r) (ho' : OpR X (compareOp op') r') (hd : OpD c r o) (hd' : OpD c r' o') (ha : PE X a (tD c va fa)) (hb : PE X b (tD c vb fb)) (hc : PE X ec (tD c vc fc))
    (hm : lastMarks [op, op'] [b, ec] = false := by with_unfolding_all rfl) : PE X (.Compare a [op, op'] [b, ec] pos) (tD c (va ++ (vb ++ vc)) (dChain o o' fa fb fc)) := (pe_chain ho ho' ha hb hc hm).wk (tChain_of hd hd')
/-! ### arguments, displays -/
def dNil : Env → W (List D) := fun _ => pu []
def dCons (f : Env → W D) (fs : Env → W (List D)) : Env → W (List D) := fun δ => bd (f δ) fun d => bd (fs δ) fun ds => pu (d :: ds)
theorem pda_nil : PA X [] (tA c [] dNil) := pa_nil.wk fun σ H Q ⟨fp, δ, Qd, e, hf, k⟩ => k [] hf [] H [] (.nil e.ok) .nil
theorem pda_cons {es : List Expr} {fs : Env → W (List D)} (h : PE X e (tD c va fa)) (h' : PA X es (tA c vb fs)) (hs : starEach (e :: es) X.env = (false, eval e X.env) :: starEach es X.env := by rfl) : PA X (e :: es) (tA c (va ++ vb) (dCons fa fs)) :=
  (pa_cons h h' hs).wk fun σ H Q ⟨fp, δ, Qd, e, hf, k⟩ => by
    refine ⟨fp, δ, fun d => bd (fs δ) (fun ds => pu (d :: ds)) Qd c.xq, e, hf, fun d qd v H1 F1 p1 r1 => ?_⟩
    refine ⟨fp, δ, fun ds => Qd (d :: ds), e.kp p1.kp, qd, fun ds qds vs H2 F2 p2 r2 => ?_⟩
    exact k _ qds _ H2 _ ((p1.more p2.kp).join (p2.ahead p1.kp)) (.cons (r1.kp p2.kp p1.nos) r2)
variable {es : List Expr} {fs : Env → W (List D)} {vs : List Nat}
def dTup (fs : Env → W (List D)) : Env → W D := fun δ => bd (fs δ) fun ds => chk (ds.length ≤ 1000) (pu (.tup ds))
theorem small1 {n : Nat} (h : n ≤ 1000) : n ≤ sizeLine := Nat.le_of_lt (small1000 h)
theorem pd_tup {x1} (h : PA X es (tA c vs fs)) : PE X (.Tuple es x1 pos) (tD c vs (dTup fs)) := (pe_tup h).wk fun σ H Q ⟨fp, δ, Qd, e, hf, k⟩ => by
  refine ⟨fp, δ, fun ds => chk (ds.length ≤ 1000) (pu (D.tup ds)) Qd c.xq, e, hf, fun ds qds us H1 F p r => ⟨by rw [r.length]; exact small1 qds.1, fun q hq => ?_⟩⟩
  exact k _ qds.2 _ _ F (p.more (Kp.laid p.kp.ok hq _)) (.tup (SqT.of upd_same) (r.laid p.kp.ok p.nos hq _))
/-- a list of things that never change -/
def dLst (fs : Env → W (List D)) : Env → W D := fun δ => bd (fs δ) fun ds => chk (ds.length ≤ 1000 ∧ D.imms ds = true) (pu (.lst ds))
theorem pn_lst (h : PA X es (tA c vs fs)) : PE X (.List es pos) (tN c (dLst fs)) := (pe_lst h).wk fun σ H Q ⟨fp, δ, Qd, e, hf, k⟩ => by
  refine ⟨fp, δ, fun ds => chk (ds.length ≤ 1000 ∧ D.imms ds = true) (pu (D.lst ds)) Qd c.xq, e, hf, fun ds qds us H1 F p r => ⟨by rw [r.length]; exact small1 qds.1.1, fun q hq => ?_⟩⟩
  have e2 := RpA.imm_nil _ _ _ r qds.1.2
  subst e2
  exact k _ qds.2 _ _ [q] (p.kp.trans (Kp.laid p.kp.ok hq _)) (.lst upd_same (r.laid p.kp.ok p.nos hq _)) (fun a z => by rw [List.mem_singleton.mp z]; exact p.kp.free hq) (by simp)
/-- a list of anything, not kept -/
def dLstB (fs : Env → W (List D)) : Env → W D := fun δ => bd (fs δ) fun ds => chk (ds.length ≤ 1000) (pu (.lst ds))
theorem pd_lst (h : PA X es (tA c vs fs)) : PE X (.List es pos) (tD c vs (dLstB fs)) := (pe_lst h).wk fun σ H Q ⟨fp, δ, Qd, e, hf, k⟩ => by
  refine ⟨fp, δ, fun ds => chk (ds.length ≤ 1000) (pu (D.lst ds)) Qd c.xq, e, hf, fun ds qds us H1 F p r => ⟨by rw [r.length]; exact small1 qds.1, fun q hq => ?_⟩⟩
  refine k _ qds.2 _ _ (q :: F) ⟨p.kp.trans (Kp.laid p.kp.ok hq _), fun a z => ?_, fun a z => ?_⟩ (.lst upd_same (r.laid p.kp.ok p.nos hq _))
  · rcases List.mem_cons.mp z with z | z
    · rw [z]; exact notS0 p.kp.ok hq
    · exact p.nos a z
  · rcases List.mem_cons.mp z with z | z
    · rw [z]; exact .inl (p.kp.free hq)
    · exact p.pv a z

/-! ### calls of what is built in -/
def CallD (c : Cd X.K) (r : List V → Hp → VK → Prop) (op : List D → W D) : Prop := ∀ (H : Hp) (us : List V) (ds : List D) (F : List Addr) (Qd : D → Prop) (Q : VK), c.G.ok H → (∀ a ∈ F, a ∉ c.G.S) → RpA c.G H us ds F → op ds Qd c.xq →
  (∀ d, Qd d → ∀ v H' F', Kp c.G H H' → Rp c.G H' v d F' → (∀ a ∈ F', H a = none ∨ a ∈ F) → Q v H') → r us H Q
def CallN (c : Cd X.K) (r : List V → Hp → VK → Prop) (op : List D → W D) : Prop := ∀ (H : Hp) (us : List V) (ds : List D) (F : List Addr) (Qd : D → Prop) (Q : VK), c.G.ok H → (∀ a ∈ F, a ∉ c.G.S) → RpA c.G H us ds F → op ds Qd c.xq →
  (∀ d, Qd d → ∀ v H' F', Kp c.G H H' → Rp c.G H' v d F' → (∀ a ∈ F', H a = none) → F'.Nodup → Q v H') → r us H Q
def dCB (op : List D → W D) (fs : Env → W (List D)) : Env → W D := fun δ => bd (fs δ) op
theorem tCB_of {r : List V → Hp → VK → Prop} {op : List D → W D} (hd : CallD c r op) (σ : St) (H : Hp) (Q : VK) (h : tD c vs (dCB op fs) σ H Q) : tCB r (tA c vs fs) σ H Q := by
  obtain ⟨fp, δ, Qd, e, hf, k⟩ := h
  refine ⟨fp, δ, fun ds => op ds Qd c.xq, e, hf, fun ds qds us H1 F p r => ?_⟩
  refine hd H1 us ds F Qd Q p.kp.ok p.nos r qds fun d qd v H' F' kp rv s => k d qd v H' F' ⟨p.kp.trans kp, fun a z => ?_, fun a z => ?_⟩ rv
  · rcases s a z with q | q
    · exact notS0 p.kp.ok q
    · exact p.nos a q
  · rcases s a z with q | q
    · exact .inl (p.kp.free q)
    · exact p.pv a q
theorem tCB_ofN {r : List V → Hp → VK → Prop} {op : List D → W D} (hd : CallN c r op) (σ : St) (H : Hp) (Q : VK) (h : tN c (dCB op fs) σ H Q) : tCB r (tA c vs fs) σ H Q := by
  obtain ⟨fp, δ, Qd, e, hf, k⟩ := h
  refine ⟨fp, δ, fun ds => op ds Qd c.xq, e, hf, fun ds qds us H1 F p r => ?_⟩
  exact hd H1 us ds F Qd Q p.kp.ok p.nos r qds fun d qd v H' F' kp rv fr nd => k d qd v H' F' (p.kp.trans kp) rv (fun a z => p.kp.free (fr a z)) nd
variable {r : List V → Hp → VK → Prop} {op : List D → W D} {x : Str} {p : Pos} {id T : String}
theorem pd_callB (hc : CallR X (.builtin id) r) (hd : CallD c r op) (hg : Gl X x) (hm : X.mg x = none) (hv : bootBuiltins x = some (.builtin id)) (ha : PA X (e :: es) (tA c vs fs)) (hn : x ≠ "__name__" := by decide) (hdb : (x == ("__debug__" : Str)) = false := by decide)
    (he : starEach (e :: es) X.env = (false, eval e X.env) :: starEach es X.env := by rfl) (hpl : (backTo pos (starEach es X.env)).any (·.1) = false := by rfl) : PE X (.Call (.Name x p) (e :: es) [] pos) (tD c vs (dCB op fs)) :=
  (pe_callB hc hg hm hv ha hn hdb he hpl).wk (tCB_of hd)
theorem pn_callB (hc : CallR X (.builtin id) r) (hd : CallN c r op) (hg : Gl X x) (hm : X.mg x = none) (hv : bootBuiltins x = some (.builtin id)) (ha : PA X (e :: es) (tA c vs fs)) (hn : x ≠ "__name__" := by decide) (hdb : (x == ("__debug__" : Str)) = false := by decide)
    (he : starEach (e :: es) X.env = (false, eval e X.env) :: starEach es X.env := by rfl) (hpl : (backTo pos (starEach es X.env)).any (·.1) = false := by rfl) : PE X (.Call (.Name x p) (e :: es) [] pos) (tN c (dCB op fs)) :=
  (pe_callB hc hg hm hv ha hn hdb he hpl).wk (tCB_ofN hd)
end
end DL
namespace DL
open PySem PySem.Spec PyProof.Rows L2

/-! ### defs, where no repr is under way around the call -/
structure FnG (P : Program) (w : World) (K : PySem.W.Frag) (mg : Str → Option Value) (base : Heap) (CX : CXT) (k : Nat) (f : Addr) (fd : FuncData) (ps : List Str) (sp : Sp) : Prop where
  len : ∀ vs H Q E, sp vs H Q E → vs.length = ps.length
  run : ∀ (A : Around) (outer : List PySem.Env) (s : Shared) (H : Hp) (args : Args) (us : List Value) (vs : List V) (Q : VK) (E : XK), Room k A → A.guards = some [] → Env0 P w K mg base A outer s H → BindsTo s fd args (ps.zip us) → Vals vs us → sp vs H Q E →
    codeAny (model P w) A (.call (.ref f) args) (CR CX outer P w H s Q E) s
theorem deep_guards {A : Around} {env : PySem.Env} (h : A.guards = some []) : (A.deeper env).guards = some [] := by
  first
    | exact h
    | (simpa [Around.deeper, Around.under, Code.guards, Code.isGuard, pushGuards] using h)
/-- a def by its body -/
theorem fnG_of {CX : CXT} {P : Program} {w : World} {K : PySem.W.Frag} {mg : Str → Option Value} {base : Heap} {k : Nat} {f : Addr} {name qual : Str} {params : Arguments} {body : List Stmt} {scope : Scope} {dV kV doc pm cdv ct oc : Value} {an od : Option Addr} {osl : Array (Option Value)}
    {N ps : List Str} {sp : Sp} (lk : K.lookup f = some ⟨oc, od, .func (PySem.W.fnOf name qual params body scope dV kV doc pm an cdv ct), osl⟩) (hcd : PySem.W.codeIn K cdv qual = true) (S : FnScope N ps scope) (len : ∀ vs H Q E, sp vs H Q E → vs.length = ps.length)
    (hbody : ∀ (A : Around) (outer : List PySem.Env) (s : Shared) (H : Hp) (vs : List V) (Q : VK) (E : XK), Room k (A.deeper (envOfC qual scope s.heap.objs.size f cdv)) → A.guards = some [] → sp vs H Q E →
      ∃ t, PSs (cxOf CX P w K mg base N qual scope f cdv A outer s H E) body t ∧ t { nx := fun _ H' => Q .non H', rt := Q } (start N vs) H) :
    FnG P w K mg base CX (k + 1) f (PySem.W.fnOf name qual params body scope dV kV doc pm an cdv ct) ps sp := by
  refine ⟨len, fun A outer s H args us vs Q E room gd e0 hb rv hsp => ?_⟩
  have hin : ∀ b o, base.get? b = some o → s.heap.get? b = some o := fun b o e => (e0.bs b o e).1
  have hK : K.In s.heap := e0.mod.kin.keeps hin
  have hL : s.heap.NoLimit := e0.mod.nolimit.keeps hin
  have kinds : ∀ y ∈ ps.zip us, scope.names.lookup y.1 = some .local ∨ (scope.names.lookup y.1 = some .cell ∧ ((cellsFrom (s.heap.objs.size + 1) scope.names []).lookup y.1).isSome = true) := by
    rintro ⟨n, v⟩ hy
    rcases S.par n (List.of_mem_zip hy).1 with q | q
    · exact .inl q
    · exact .inr ⟨q, PySem.W.cellsFrom_some _ _ _ (.inl q)⟩
  refine codeAny_call_function room.depth (hK _ _ lk) rfl S.co S.gen rfl (PySem.W.codeRec_of hK hcd) (hb _ _ _ _ ?_)
  refine wpAny_newFunctionEnv_cells S.kind kinds fun env henv s1 x => ?_
  subst henv
  refine ⟨hL.keeps x.toInCall.keep, codeAny_func ?_⟩
  obtain ⟨t, ht, hq⟩ := hbody A outer s H vs Q E (room.deeper _) gd hsp
  have I := inv_start (CX := CX) (E := E) S room.hd e0 (len _ _ _ _ hsp) rv x
  refine wpAny_mono (ht.run [] s1 (start N vs) H _ I hq) (fun fl s' hs => ?_) fun _ _ hs => hs
  cases fl with
  | ret u => obtain ⟨v, _, H', J, r, q⟩ := hs; exact ⟨v, H', J.os, J.bare, J.base, J.hok, r, q⟩
  | next => obtain ⟨_, H', J, q⟩ := hs; exact ⟨.non, H', J.os, J.bare, J.base, J.hok, rfl, q⟩
  | brk => obtain ⟨_, _, _, q⟩ := hs; exact q.elim
  | cont => obtain ⟨_, _, _, q⟩ := hs; exact q.elim

/-- how positional values us and keywords' values ws (named ks) come to the parameters: by the list π of places in us ++ ws -/
def pick {α : Type} (π : List Nat) (l : List α) : List α := π.filterMap (l[·]?)
theorem pick_vals {π : List Nat} {vs : List V} {us : List Value} (r : Vals vs us) : Vals (pick π vs) (pick π us) := by
  unfold pick
  induction π with
  | nil => exact .nil
  | cons i π ih =>
    rw [List.filterMap_cons, List.filterMap_cons]
    cases e : vs[i]? with
    | none => rw [r.none_of e]; exact ih
    | some v =>
      obtain ⟨u, hu, ru⟩ := r.get e
      rw [hu]
      exact .cons ru ih
structure KB (K : PySem.W.Frag) (fd : FuncData) (ps : List Str) (n : Nat) (ks : List Str) (π : List Nat) : Prop where
  to : ∀ (s : Shared) (us ws : List Value), K.In s.heap → us.length = n → ws.length = ks.length → BindsTo s fd ⟨us, ks.zip ws⟩ (ps.zip (pick π (us ++ ws)))
section
variable {X : Cx} {CX : CXT} {k n : Nat} {f : Addr} {fd : FuncData} {ps ks : List Str} {sp : Sp} {E : XK} {x : Str} {p pos : Pos} {e : Expr} {es : List Expr} {kws : List Keyword} {t tk : TA} {π : List Nat}
theorem run_g {pins : List (Addr × Obj)} {σ : L2.St} {H : Hp} {s : Shared} {Q : VK} {us ws : List Value} {vs zs : List V} (F : FnG X.prog X.w X.K X.mg X.base CX k f fd ps sp) (hr : Room k X.A) (gd : X.A.guards = some []) (hb : KB X.K fd ps n ks π) (hx : Passes CX X E)
    (I : Inv X pins σ H s) (r : Vals vs us) (rz : Vals zs ws) (l1 : vs.length = n) (l2 : zs.length = ks.length) (h : sp (pick π (vs ++ zs)) H Q E) : wpAny (model X.prog X.w) X.A (call (.ref f) us (ks.zip ws)) (EP X pins σ Q) X.xe s := by
  have r2 := pick_vals (π := π) (r.append rz)
  refine wpAny_call (codeAny_mono (F.run X.A X.stack s H ⟨us, ks.zip ws⟩ _ _ Q E hr gd I.env0 (hb.to s us ws I.kIn (r.length.symm.trans l1) (rz.length.symm.trans l2)) r2 h) fun res s' hq => ?_)
  match res, hq with
  | .error e, hq => exact hx pins σ H s e s' I hq
  | .ok (.ret u), hq => exact I.after hq
  | .ok .next, hq => exact False.elim hq
  | .ok .brk, hq => exact False.elim hq
  | .ok .cont, hq => exact False.elim hq
def tCallG (n m : Nat) (π : List Nat) (sp : Sp) (E : XK) (t tk : TA) : TE := fun σ H Q => t σ H fun vs H1 => tk σ H1 fun zs H2 => vs.length = n ∧ zs.length = m ∧ sp (pick π (vs ++ zs)) H2 Q E
/-- f(e, ..) -/
theorem pe_g (F : FnG X.prog X.w X.K X.mg X.base CX k f fd ps sp) (hr : Room k X.A) (gd : X.A.guards = some []) (hg : Gl X x) (hm : X.mg x = some (.ref f)) (hk : PySem.W.keepIn X.K (.ref f) = true) (hb : KB X.K fd ps n [] π) (hx : Passes CX X E) (ha : PA X (e :: es) t)
    (hdb : (x == ("__debug__" : Str)) = false := by decide) (he : starEach (e :: es) X.env = (false, eval e X.env) :: starEach es X.env := by rfl) (hpl : (backTo pos (starEach es X.env)).any (·.1) = false := by rfl) :
    PE X (.Call (.Name x p) (e :: es) [] pos) (tCallG n 0 π sp E t tNil) := ⟨fun pins s σ H Q I h => wpAny_Call_Name_kw (ld_glob I hg hm (PySem.W.callWith_K (h₀ := X.base) I.ok.mod.kin hk (thn (ha.run pos pins s σ H _ I h) fun us s1 ⟨vs, H1, I1, r, l1, l2, q⟩ => ⟨I1.kIn, run_g (ws := []) (zs := []) F hr gd hb hx I1 r .nil l1 rfl q⟩) he hpl) hdb)⟩
/-- f(e, .., k = v, ..) -/
theorem pe_gk (F : FnG X.prog X.w X.K X.mg X.base CX k f fd ps sp) (hr : Room k X.A) (gd : X.A.guards = some []) (hg : Gl X x) (hm : X.mg x = some (.ref f)) (hk : PySem.W.keepIn X.K (.ref f) = true) (hb : KB X.K fd ps n ks π) (hx : Passes CX X E) (ha : PA X (e :: es) t) (hkw : PK X kws tk)
    (hall : (backToKw pos (keywordEach kws X.env)).all (·.1.isSome) = true := by rfl) (hks : (backToKw pos (keywordEach kws X.env)).filterMap (·.1) = ks := by rfl) (hdb : (x == ("__debug__" : Str)) = false := by decide)
    (he : starEach (e :: es) X.env = (false, eval e X.env) :: starEach es X.env := by rfl) (hpl : ((backTo pos (starEach (e :: es) X.env)).any (·.1) || (backToKw pos (keywordEach kws X.env)).any (·.1.isNone)) = false := by rfl) :
    PE X (.Call (.Name x p) (e :: es) kws pos) (tCallG n ks.length π sp E t tk) := ⟨fun pins s σ H Q I h => wpAny_Call_Name_kw (ld_glob I hg hm (PySem.W.callWith_KW (h₀ := X.base) I.ok.mod.kin hk hall (thn (ha.run pos pins s σ H _ I h) fun us s1 ⟨vs, H1, I1, r, q⟩ =>
    thn (hkw.run pos pins s1 σ H1 _ I1 q) fun ws s2 ⟨zs, H2, I2, rz, l1, l2, q2⟩ => ⟨I2.kIn, by rw [hks]; exact run_g F hr gd hb hx I2 r rz l1 l2 q2⟩) hpl he) hdb)⟩
/-- f(k = v, ..) -/
theorem pe_gk0 (F : FnG X.prog X.w X.K X.mg X.base CX k f fd ps sp) (hr : Room k X.A) (gd : X.A.guards = some []) (hg : Gl X x) (hm : X.mg x = some (.ref f)) (hk : PySem.W.keepIn X.K (.ref f) = true) (hb : KB X.K fd ps 0 ks π) (hx : Passes CX X E) (hkw : PK X kws tk)
    (hall : (backToKw pos (keywordEach kws X.env)).all (·.1.isSome) = true := by rfl) (hks : (backToKw pos (keywordEach kws X.env)).filterMap (·.1) = ks := by rfl) (hdb : (x == ("__debug__" : Str)) = false := by decide)
    (hpl : ((backTo pos (starEach [] X.env)).any (·.1) || (backToKw pos (keywordEach kws X.env)).any (·.1.isNone)) = false := by rfl) :
    PE X (.Call (.Name x p) [] kws pos) (tCallG 0 ks.length π sp E tNil tk) := ⟨fun pins s σ H Q I h => wpAny_Call_Name_kw (ld_glob I hg hm (PySem.W.callWith_KW0 (h₀ := X.base) I.ok.mod.kin hk hall (thn (hkw.run pos pins s σ H _ I h) fun ws s2 ⟨zs, H2, I2, rz, l1, l2, q2⟩ =>
    ⟨I2.kIn, by rw [hks]; exact run_g (us := []) (vs := []) F hr gd hb hx I2 .nil rz rfl l2 q2⟩) hpl) hdb)⟩
end

/-! ### promises by data -/
/-- f asks for n arguments -/
def Ln (n : Nat) (f : List D → W D) : Prop := ∀ ds Q X, f ds Q X → ds.length = n
/-- called with things that read as ds, it hands back, whole and new, what f gives -/
def spD {K : PySem.W.Frag} (f : List D → W D) : Sp := fun vs H Q E => ∃ (G : Gx K) (ds : List D) (F : List Addr) (Qd : D → Prop) (Xq : Ex → Prop), G.ok H ∧ (∀ a ∈ F, a ∉ G.S) ∧ RpA G H vs ds F ∧ f ds Qd Xq ∧
  (∀ d, Qd d → ∀ v H' F', Kp G H H' → Rp G H' v d F' → (∀ a ∈ F', H a = none) → F'.Nodup → Q v H')
theorem spD_len {K : PySem.W.Frag} {n : Nat} {f : List D → W D} {ps : List Str} (hl : Ln n f) (hn : ps.length = n) : ∀ vs H Q E, spD (K := K) f vs H Q E → vs.length = ps.length := fun vs H Q E ⟨_, ds, _, _, _, _, _, r, q, _⟩ => by
  rw [r.length, hl _ _ _ q, hn]
theorem RpA.pick {K : PySem.W.Frag} {G : Gx K} {H : Hp} {vs : List V} {ds : List D} {F : List Addr} (h : RpA G H vs ds F) : ∀ (π : List Nat), ∃ F', RpA G H (DL.pick π vs) (DL.pick π ds) F' ∧ ∀ a ∈ F', a ∈ F
  | [] => ⟨[], .nil, fun _ z => nomatch z⟩
  | i :: π => by
    obtain ⟨F', r, s⟩ := RpA.pick h π
    unfold DL.pick at r ⊢
    rw [List.filterMap_cons, List.filterMap_cons]
    cases e : ds[i]? with
    | none =>
      have e2 : vs[i]? = none := by rw [List.getElem?_eq_none_iff] at e ⊢; rw [h.length]; exact e
      rw [e2]
      exact ⟨F', r, s⟩
    | some d =>
      obtain ⟨v, F2, e2, r2, s2⟩ := h.get e
      rw [e2]
      exact ⟨F2 ++ F', .cons r2 r, fun a z => (List.mem_append.mp z).elim (s2 a) (s a)⟩
theorem pickRange {α : Type} (l : List α) : pick (List.range l.length) l = l := by
  unfold pick
  induction l with
  | nil => rfl
  | cons a l ih =>
    rw [List.length_cons, List.range_succ_eq_map, List.filterMap_cons, List.filterMap_map]
    show a :: _ = a :: l
    congr 1
section
variable {X : Cx} {c : Cd X.K} {k n : Nat} {f : Addr} {fd : FuncData} {ps ks : List Str} {x : Str} {p pos : Pos} {e : Expr} {es : List Expr} {kws : List Keyword} {π : List Nat} {va vk : List Nat} {fs gs : Env → W (List D)} {Fd : List D → W D}
def dCall (Fd : List D → W D) (fs : Env → W (List D)) : Env → W D := fun δ => bd (fs δ) Fd
/-- by place and by keyword: m places, l keywords -/
def dCallK (Fd : List D → W D) (m l : Nat) (π : List Nat) (fs gs : Env → W (List D)) : Env → W D := fun δ => bd (fs δ) fun ds => bd (gs δ) fun es => chk (ds.length = m ∧ es.length = l) (Fd (pick π (ds ++ es)))
/-- f(e, ..) of a def whose promise is by data -/
theorem pn_call (F : FnG X.prog X.w X.K X.mg X.base CX0 k f fd ps (spD (K := X.K) Fd)) (hl : Ln n Fd) (hr : Room k X.A) (gd : X.A.guards = some []) (hg : Gl X x) (hm : X.mg x = some (.ref f)) (hk : PySem.W.keepIn X.K (.ref f) = true) (hb : KB X.K fd ps n [] (List.range n)) (ha : PA X (e :: es) (tA c va fs))
    (hdb : (x == ("__debug__" : Str)) = false := by decide) (he : starEach (e :: es) X.env = (false, eval e X.env) :: starEach es X.env := by rfl) (hpl : (backTo pos (starEach es X.env)).any (·.1) = false := by rfl) :
    PE X (.Call (.Name x p) (e :: es) [] pos) (tN c (dCall Fd fs)) := (pe_g (E := L2.E0) F hr gd hg hm hk hb L2.pass0 ha hdb he hpl).wk fun σ H Q ⟨fp, δ, Qd, e, hf, kq⟩ => by
  refine ⟨fp, δ, fun ds => Fd ds Qd c.xq, e, hf, fun ds qds us H1 F1 p1 r1 => ?_⟩
  have ln := hl _ _ _ qds
  have e1 : DL.pick (List.range n) (us ++ []) = us := by
    rw [List.append_nil, ← ln, ← r1.length]
    exact pickRange us
  refine ⟨r1.length.trans ln, rfl, ?_⟩
  rw [e1]
  exact ⟨c.G, ds, F1, Qd, c.xq, p1.kp.ok, p1.nos, r1, qds, fun d qd v H' F' kp rv fr nd => kq d qd v H' F' (p1.kp.trans kp) rv (fun a z => p1.kp.free (fr a z)) nd⟩
theorem pk_wk {t t' : TA} (h : PK X kws t) (w : ∀ σ H Q, t' σ H Q → t σ H Q) : PK X kws t' := ⟨fun pos pins s σ H Q I q => h.run pos pins s σ H Q I (w σ H Q q)⟩
theorem pdk_nil : PK X [] (tA c [] dNil) := pk_wk pk_nil fun σ H Q ⟨fp, δ, Qd, e, hf, k⟩ => k [] hf [] H [] (.nil e.ok) .nil
theorem pdk_cons {nm : Option Str} {kpos : Pos} {fa : Env → W D} (h : PE X e (tD c va fa)) (h' : PK X kws (tA c vk gs)) : PK X (⟨nm, e, kpos⟩ :: kws) (tA c (va ++ vk) (dCons fa gs)) :=
  pk_wk (pk_cons h h') fun σ H Q ⟨fp, δ, Qd, e, hf, k⟩ => by
    refine ⟨fp, δ, fun d => bd (gs δ) (fun ds => pu (d :: ds)) Qd c.xq, e, hf, fun d qd v H1 F1 p1 r1 => ?_⟩
    refine ⟨fp, δ, fun ds => Qd (d :: ds), e.kp p1.kp, qd, fun ds qds vs H2 F2 p2 r2 => ?_⟩
    exact k _ qds _ H2 _ ((p1.more p2.kp).join (p2.ahead p1.kp)) (.cons (r1.kp p2.kp p1.nos) r2)
theorem tCallG_of {m : Nat} {E : XK} (σ : L2.St) (H : Hp) (Q : VK) (h : tN c (dCallK Fd n m π fs gs) σ H Q) : tCallG n m π (spD (K := X.K) Fd) E (tA c va fs) (tA c vk gs) σ H Q := by
  obtain ⟨fp, δ, Qd, e, hf, kq⟩ := h
  refine ⟨fp, δ, fun ds => bd (gs δ) (fun es => chk (ds.length = n ∧ es.length = m) (Fd (DL.pick π (ds ++ es)))) Qd c.xq, e, hf, fun ds qds us H1 F1 p1 r1 => ?_⟩
  refine ⟨fp, δ, fun es => chk (ds.length = n ∧ es.length = m) (Fd (DL.pick π (ds ++ es))) Qd c.xq, e.kp p1.kp, qds, fun es ⟨⟨l1, l2⟩, qes⟩ zs H2 F2 p2 r2 => ?_⟩
  refine ⟨r1.length.trans l1, r2.length.trans l2, ?_⟩
  obtain ⟨F', r3, s3⟩ := ((r1.kp p2.kp p1.nos).append r2).pick π
  have k2 := p1.kp.trans p2.kp
  exact ⟨c.G, _, F', Qd, c.xq, k2.ok, fun a z => (List.mem_append.mp (s3 a z)).elim (p1.nos a) (p2.nos a), r3, qes, fun d qd v H' F' kp rv fr nd => kq d qd v H' F' (k2.trans kp) rv (fun a z => k2.free (fr a z)) nd⟩
theorem pn_callK (F : FnG X.prog X.w X.K X.mg X.base CX0 k f fd ps (spD (K := X.K) Fd)) (hr : Room k X.A) (gd : X.A.guards = some []) (hg : Gl X x) (hm : X.mg x = some (.ref f)) (hk : PySem.W.keepIn X.K (.ref f) = true) (hb : KB X.K fd ps n ks π) (ha : PA X (e :: es) (tA c va fs)) (hkw : PK X kws (tA c vk gs))
    (hall : (backToKw pos (keywordEach kws X.env)).all (·.1.isSome) = true := by rfl) (hks : (backToKw pos (keywordEach kws X.env)).filterMap (·.1) = ks := by rfl) (hdb : (x == ("__debug__" : Str)) = false := by decide)
    (he : starEach (e :: es) X.env = (false, eval e X.env) :: starEach es X.env := by rfl) (hpl : ((backTo pos (starEach (e :: es) X.env)).any (·.1) || (backToKw pos (keywordEach kws X.env)).any (·.1.isNone)) = false := by rfl) :
    PE X (.Call (.Name x p) (e :: es) kws pos) (tN c (dCallK Fd n ks.length π fs gs)) := (pe_gk (E := L2.E0) F hr gd hg hm hk hb L2.pass0 ha hkw hall hks hdb he hpl).wk tCallG_of
theorem pn_callK0 (F : FnG X.prog X.w X.K X.mg X.base CX0 k f fd ps (spD (K := X.K) Fd)) (hr : Room k X.A) (gd : X.A.guards = some []) (hg : Gl X x) (hm : X.mg x = some (.ref f)) (hk : PySem.W.keepIn X.K (.ref f) = true) (hb : KB X.K fd ps 0 ks π) (hkw : PK X kws (tA c vk gs))
    (hall : (backToKw pos (keywordEach kws X.env)).all (·.1.isSome) = true := by rfl) (hks : (backToKw pos (keywordEach kws X.env)).filterMap (·.1) = ks := by rfl) (hdb : (x == ("__debug__" : Str)) = false := by decide)
    (hpl : ((backTo pos (starEach [] X.env)).any (·.1) || (backToKw pos (keywordEach kws X.env)).any (·.1.isNone)) = false := by rfl) :
    PE X (.Call (.Name x p) [] kws pos) (tN c (dCallK Fd 0 ks.length π dNil gs)) := (pe_gk0 (E := L2.E0) F hr gd hg hm hk hb L2.pass0 hkw hall hks hdb hpl).wk fun σ H Q h => by
  have := tCallG_of (va := []) (vk := vk) (E := L2.E0) σ H Q h
  obtain ⟨fp, δ, Qd, e, hf, kq⟩ := this
  exact kq [] hf [] H [] (.nil e.ok) .nil
end
end DL
namespace DL
open PySem L2
section
variable {K : PySem.W.Frag} {G : Gx K} {H H' : Hp}
theorem RpA.drop : ∀ (n : Nat) {ds : List D} {vs : List V} {F : List Addr}, RpA G H vs ds F → ∃ F', RpA G H (vs.drop n) (ds.drop n) F' ∧ ∀ a ∈ F', a ∈ F
  | 0, _, _, F, h => ⟨F, by simpa using h, fun _ z => z⟩
  | n + 1, [], _, _, h => by cases h; exact ⟨[], by simpa using RpA.nil, fun _ z => z⟩
  | n + 1, d :: ds, _, _, h => by
    cases h with
    | cons h1 h2 =>
      obtain ⟨F', r, s⟩ := RpA.drop n h2
      exact ⟨F', by simpa using r, fun a z => by simp [s a z]⟩
theorem RpA.take : ∀ (n : Nat) {ds : List D} {vs : List V} {F : List Addr}, RpA G H vs ds F → ∃ F', RpA G H (vs.take n) (ds.take n) F' ∧ ∀ a ∈ F', a ∈ F
  | 0, _, _, F, h => ⟨[], by simpa using RpA.nil, fun _ z => nomatch z⟩
  | n + 1, [], _, _, h => by cases h; exact ⟨[], by simpa using RpA.nil, fun _ z => z⟩
  | n + 1, d :: ds, _, _, h => by
    cases h with
    | cons h1 h2 =>
      obtain ⟨F', r, s⟩ := RpA.take n h2
      refine ⟨_, by simpa using RpA.cons h1 r, fun a z => ?_⟩
      rcases List.mem_append.mp z with z | z
      · simp [z]
      · simp [s a z]
/-- xs[lo:hi] -/
def cut {α : Type} (xs : List α) (lo hi : Option Int) : List α := (xs.drop (HT.sIx xs.length 0 lo)).take (HT.sIx xs.length xs.length hi - HT.sIx xs.length 0 lo)
theorem RpA.cut {ds : List D} {vs : List V} {F : List Addr} (h : RpA G H vs ds F) (lo hi : Option Int) : ∃ F', RpA G H (cutV vs lo hi) (DL.cut ds lo hi) F' ∧ ∀ a ∈ F', a ∈ F := by
  unfold cutV DL.cut
  rw [h.length]
  obtain ⟨F1, r1, s1⟩ := h.drop (HT.sIx ds.length 0 lo)
  obtain ⟨F2, r2, s2⟩ := r1.take (HT.sIx ds.length ds.length hi - HT.sIx ds.length 0 lo)
  exact ⟨F2, r2, fun a z => s1 a (s2 a z)⟩
mutual
theorem py_noDict : ∀ (d : D) (p : PyData), d.py = some p → p.hasDict = false
  | .non, _, e => by simp [D.py] at e; subst e; rfl
  | .bl _, _, e => by simp [D.py] at e; subst e; rfl
  | .int _, _, e => by simp [D.py] at e; subst e; rfl
  | .str _, _, e => by simp [D.py] at e; subst e; rfl
  | .src, _, e => by simp [D.py] at e
  | .ty _, _, e => by simp [D.py] at e
  | .ref _, _, e => by simp [D.py] at e
  | .dic _ _, _, e => by simp [D.py] at e
  | .dtt _ _, _, e => by simp [D.py] at e
  | .lst ds, _, e => by simp [D.py] at e; obtain ⟨ps, e, rfl⟩ := e; simp only [PyData.hasDict]; exact pys_noDict ds ps e
  | .frz ds, _, e => by simp [D.py] at e; obtain ⟨ps, e, rfl⟩ := e; simp only [PyData.hasDict]; exact pys_noDict ds ps e
  | .tup ds, _, e => by simp [D.py] at e; obtain ⟨ps, e, rfl⟩ := e; simp only [PyData.hasDict]; exact pys_noDict ds ps e
theorem pys_noDict : ∀ (ds : List D) (ps : List PyData), D.pys ds = some ps → PyData.hasDictAll ps = false
  | [], _, e => by simp [D.pys] at e; subst e; rfl
  | d :: ds, _, e => by
    simp only [D.pys, Option.bind_eq_some_iff, Option.map_eq_some_iff] at e
    obtain ⟨p, e1, ps, e2, rfl⟩ := e
    simp only [PyData.hasDictAll, py_noDict d p e1, pys_noDict ds ps e2, Bool.or_self]
end
end
section
variable {X : Cx} {c : Cd X.K} {e a b : Expr} {pos : Pos} {va vb vc : List Nat} {fa fb fc : Env → W D}
/-! ### slices -/
def tPt (c : Cd X.K) (f : Env → W (Option Int)) : TO := fun σ H Q => ∃ fp δ Qd, EnvOk c fp H σ δ ∧ f δ Qd c.xq ∧ ∀ o, Qd o → ∀ H', Kp c.G H H' → Q o H'
def dNo : Env → W (Option Int) := fun _ => pu none
def dSo (f : Env → W D) : Env → W (Option Int) := fun δ => bd (f δ) fun d => bd (asI d) fun i => pu (some i)
theorem po_wk {eo : Option Expr} {t t' : TO} (h : PO X eo t) (w : ∀ σ H Q, t' σ H Q → t σ H Q) : PO X eo t' := ⟨fun pins s σ H Q I q => h.run pins s σ H Q I (w σ H Q q)⟩
theorem pt_no : PO X none (tPt c dNo) := po_wk po_none fun σ H Q ⟨fp, δ, Qd, e, hf, k⟩ => k none hf H (Kp.refl e.ok)
theorem pt_so (h : PE X a (tD c va fa)) : PO X (some a) (tPt c (dSo fa)) := po_wk (po_some h) fun σ H Q ⟨fp, δ, Qd, e, hf, k⟩ => by
  refine ⟨fp, δ, fun d => bd (asI d) (fun i => pu (some i)) Qd c.xq, e, hf, fun d qd v H' F p r => ?_⟩
  cases r with
  | int i => exact ⟨i, rfl, k _ qd H' p.kp⟩
  | _ => exact qd.elim
def slD : D → Option Int → Option Int → W D
  | .tup ds, lo, hi => pu (.tup (cut ds lo hi))
  | .lst ds, lo, hi => chk (D.imms ds = true) (pu (.lst (cut ds lo hi)))
  | .frz ds, lo, hi => pu (.lst (cut ds lo hi))
  | _, _, _ => fl
def rSl (K : PySem.W.Frag) : V → Option Int → Option Int → Hp → VK → Prop := fun x lo hi H Q => rSlA K x lo hi H Q ∨ rSlL K x lo hi H Q
theorem xr_sl : SlR X (rSl X.K) := sl_tupA.or sl_list
def dSl (f : Env → W D) (g h : Env → W (Option Int)) : Env → W D := fun δ => bd (f δ) fun d => bd (g δ) fun lo => bd (h δ) fun hi => slD d lo hi
theorem cut_all {α : Type} {xs : List α} {lo hi : Option Int} (h : HT.sIx xs.length 0 lo = 0 ∧ HT.sIx xs.length xs.length hi = xs.length) : cut xs lo hi = xs := by
  unfold cut
  rw [h.1, h.2]
  simp
theorem pn_sl {el eh : Option Expr} {p2 : Pos} {g h : Env → W (Option Int)} (ha : PE X a (tD c va fa)) (hl : PO X el (tPt c g)) (hh : PO X eh (tPt c h)) : PE X (.Subscript a (.Slice el eh none p2) pos) (tD c va (dSl fa g h)) := (pe_slice xr_sl ha hl hh).wk fun σ H Q ⟨fp, δ, Qd, e, hf, k⟩ => by
  refine ⟨fp, δ, fun d => bd (g δ) (fun lo => bd (h δ) fun hi => slD d lo hi) Qd c.xq, e, hf, fun d qd v H1 F1 p1 r1 => ?_⟩
  refine ⟨fp, δ, fun lo => bd (h δ) (fun hi => slD d lo hi) Qd c.xq, e.kp p1.kp, qd, fun lo qlo H2 kp2 => ?_⟩
  refine ⟨fp, δ, fun hi => slD d lo hi Qd c.xq, e.kp (p1.kp.trans kp2), qlo, fun hi qhi H3 kp3 => ?_⟩
  have k13 := kp2.trans kp3
  have r := r1.kp k13 p1.nos
  have pp := p1.more k13
  cases r with
  | @tup a xs ds F sx ax =>
    refine .inl ⟨a, xs, rfl, sx, fun w => ?_, fun w p hp => ?_⟩
    · have e2 : cut ds lo hi = ds := cut_all (by rw [← ax.length]; exact w)
      have q2 : Qd (.tup (cut ds lo hi)) := qhi
      rw [e2] at q2
      exact k _ q2 _ H3 F1 pp (.tup sx ax)
    · obtain ⟨F', rc, s⟩ := ax.cut lo hi
      exact k _ qhi _ _ F' ((pp.sub s).more (Kp.laid k13.ok hp _)) (.tup (SqT.of upd_same) (rc.laid k13.ok (fun a z => pp.nos a (s a z)) hp _))
  | @lst a xs ds F sx ax =>
    refine .inr ⟨a, xs, rfl, .inl (.inl sx), fun p hp => ?_⟩
    obtain ⟨hi1, qhi⟩ := qhi
    have e2 := RpA.imm_nil _ _ _ ax hi1
    subst e2
    obtain ⟨F', rc, s⟩ := ax.cut lo hi
    have e3 : F' = [] := List.eq_nil_iff_forall_not_mem.mpr fun a z => nomatch s a z
    subst e3
    exact k _ qhi _ _ [p] ⟨pp.kp.trans (Kp.laid k13.ok hp _), fun a z => by rw [List.mem_singleton.mp z]; exact notS0 k13.ok hp, fun a z => by rw [List.mem_singleton.mp z]; exact .inl (pp.kp.free hp)⟩ (.lst upd_same (rc.laid k13.ok (fun _ z => nomatch z) hp _))
  | @frz a xs ds sx ax =>
    refine .inr ⟨a, xs, rfl, sx.sq, fun p hp => ?_⟩
    obtain ⟨F', rc, s⟩ := ax.cut lo hi
    have e3 : F' = [] := List.eq_nil_iff_forall_not_mem.mpr fun a z => nomatch s a z
    subst e3
    exact k _ qhi _ _ [p] ⟨pp.kp.trans (Kp.laid k13.ok hp _), fun a z => by rw [List.mem_singleton.mp z]; exact notS0 k13.ok hp, fun a z => by rw [List.mem_singleton.mp z]; exact .inl (pp.kp.free hp)⟩ (.lst upd_same (rc.laid k13.ok (fun _ z => nomatch z) hp _))
  | _ => exact qhi.elim

/-! ### built-in calls -/
theorem RpA.one {G : Gx X.K} {H : Hp} {us : List V} {d : D} {F : List Addr} (h : RpA G H us [d] F) : ∃ v, us = [v] ∧ Rp G H v d F := by
  cases h with
  | cons h1 h2 => cases h2; exact ⟨_, rfl, by simpa using h1⟩
theorem RpA.two {G : Gx X.K} {H : Hp} {us : List V} {d d' : D} {F : List Addr} (h : RpA G H us [d, d'] F) : ∃ v v' F1 F2, us = [v, v'] ∧ Rp G H v d F1 ∧ Rp G H v' d' F2 ∧ F = F1 ++ F2 := by
  cases h with
  | cons h1 h2 =>
    obtain ⟨v', rfl, r⟩ := h2.one
    exact ⟨_, _, _, _, rfl, h1, r, rfl⟩
def a1 (g : D → W D) : List D → W D
  | [d] => g d
  | _ => fl
def a2 (g : D → D → W D) : List D → W D
  | [d, d'] => g d d'
  | _ => fl
/-- len -/
def lenD : D → W D
  | .lst ds => pu (.int ds.length)
  | .frz ds => pu (.int ds.length)
  | .tup ds => pu (.int ds.length)
  | _ => fl
theorem cd_len : CallD c (fun xs H Q => ∃ p ys, xs = [.ref p] ∧ (SqL X.K H p ys ∨ SqT X.K H p ys) ∧ Q (.int ys.length) H) (a1 lenD) := by
  intro H us ds F Qd Q ok ns r q k
  unfold a1 at q
  split at q
  · obtain ⟨v, rfl, r0⟩ := r.one
    unfold lenD at q
    split at q
    · obtain ⟨a, xs, F', rfl, sx, ax, _⟩ := r0.lstI
      exact ⟨a, xs, rfl, .inl sx, by rw [ax.length]; exact k _ q _ H [] (Kp.refl ok) (.int _) fun _ z => nomatch z⟩
    · obtain ⟨a, xs, rfl, sx, ax, _⟩ := r0.frzI
      exact ⟨a, xs, rfl, .inl sx, by rw [ax.length]; exact k _ q _ H [] (Kp.refl ok) (.int _) fun _ z => nomatch z⟩
    · obtain ⟨a, xs, rfl, sx, ax⟩ := r0.tupI
      exact ⟨a, xs, rfl, .inr sx, by rw [ax.length]; exact k _ q _ H [] (Kp.refl ok) (.int _) fun _ z => nomatch z⟩
    · exact q.elim
  · exact q.elim
/-- list(xs), a new one -/
def listD : D → W D
  | .lst ds => chk (D.imms ds = true) (pu (.lst ds))
  | .frz ds => chk (D.imms ds = true) (pu (.lst ds))
  | .tup ds => chk (D.imms ds = true) (pu (.lst ds))
  | _ => fl
theorem cn_list : CallN c (fun xs H Q => ∃ p ys, xs = [.ref p] ∧ (SqL X.K H p ys ∨ SqT X.K H p ys) ∧ ∀ l, H l = none → Q (.ref l) (upd H l (.lst ys))) (a1 listD) := by
  intro H us ds F Qd Q ok ns r q k
  have fin : ∀ {xs : List V} {ds : List D} {F' : List Addr}, RpA c.G H xs ds F' → D.imms ds = true → Qd (.lst ds) → ∀ l, H l = none → Q (.ref l) (upd H l (.lst xs)) := fun {xs ds F'} ax im qd l hl => by
    have e := RpA.imm_nil _ _ _ ax im
    subst e
    exact k _ qd _ _ [l] (Kp.laid ok hl _) (.lst upd_same (ax.laid ok (fun _ z => nomatch z) hl _)) (fun a z => by rw [List.mem_singleton.mp z]; exact hl) (by simp)
  unfold a1 at q
  split at q
  · obtain ⟨v, rfl, r0⟩ := r.one
    unfold listD at q
    split at q
    · obtain ⟨a, xs, F', rfl, sx, ax, _⟩ := r0.lstI
      exact ⟨a, xs, rfl, .inl sx, fin ax q.1 q.2⟩
    · obtain ⟨a, xs, rfl, sx, ax, _⟩ := r0.frzI
      exact ⟨a, xs, rfl, .inl sx, fin ax q.1 q.2⟩
    · obtain ⟨a, xs, rfl, sx, ax⟩ := r0.tupI
      exact ⟨a, xs, rfl, .inr sx, fin ax q.1 q.2⟩
    · exact q.elim
  · exact q.elim
/-- tuple(xs) -/
def tupleD : D → W D
  | .lst ds => pu (.tup ds)
  | .frz ds => pu (.tup ds)
  | .tup ds => pu (.tup ds)
  | _ => fl
theorem cd_tuple : CallD c (fun xs H Q => ∃ p ys, xs = [.ref p] ∧ ((SqL X.K H p ys ∧ ∀ l, H l = none → Q (.ref l) (upd H l (.tup ys))) ∨ (SqT X.K H p ys ∧ Q (.ref p) H))) (a1 tupleD) := by
  intro H us ds F Qd Q ok ns r q k
  unfold a1 at q
  split at q
  · obtain ⟨v, rfl, r0⟩ := r.one
    unfold tupleD at q
    split at q
    · obtain ⟨a, xs, F', rfl, sx, ax, sb⟩ := r0.lstI
      exact ⟨a, xs, rfl, .inl ⟨sx, fun l hl => k _ q _ _ F' (Kp.laid ok hl _) (.tup (SqT.of upd_same) (ax.laid ok (fun a z => ns a (sb a z)) hl _)) fun a z => .inr (sb a z)⟩⟩
    · obtain ⟨a, xs, rfl, sx, ax, _⟩ := r0.frzI
      exact ⟨a, xs, rfl, .inl ⟨sx, fun l hl => k _ q _ _ [] (Kp.laid ok hl _) (.tup (SqT.of upd_same) (ax.laid ok (fun _ z => nomatch z) hl _)) fun _ z => nomatch z⟩⟩
    · obtain ⟨a, xs, rfl, sx, ax⟩ := r0.tupI
      exact ⟨a, xs, rfl, .inr ⟨sx, k _ q _ H F (Kp.refl ok) r0 fun a z => .inr z⟩⟩
    · exact q.elim
  · exact q.elim
/-- abs, int -/
def absI (i : Int) : Int := if i < 0 then -i else i
def absD : D → W D
  | .int i => pu (.int (absI i))
  | _ => fl
theorem cd_abs : CallD c (fun xs H Q => ∃ i, xs = [.int i] ∧ Q (.int (if i < 0 then -i else i)) H) (a1 absD) := by
  intro H us ds F Qd Q ok ns r q k
  unfold a1 at q
  split at q
  · obtain ⟨v, rfl, r0⟩ := r.one
    unfold absD at q
    split at q
    · obtain ⟨rfl, _⟩ := r0.intI
      exact ⟨_, rfl, k _ q _ H [] (Kp.refl ok) (.int _) fun _ z => nomatch z⟩
    · exact q.elim
  · exact q.elim
def int1D : D → W D
  | .int i => pu (.int i)
  | .bl b => pu (.int (if b then 1 else 0))
  | _ => fl
theorem cd_int : CallD c (fun xs H Q => (∃ i, xs = [.int i] ∧ Q (.int i) H) ∨ ∃ k, xs = [.bl k] ∧ Q (.int (if k then 1 else 0)) H) (a1 int1D) := by
  intro H us ds F Qd Q ok ns r q k
  unfold a1 at q
  split at q
  · obtain ⟨v, rfl, r0⟩ := r.one
    unfold int1D at q
    split at q
    · obtain ⟨rfl, _⟩ := r0.intI
      exact .inl ⟨_, rfl, k _ q _ H [] (Kp.refl ok) (.int _) fun _ z => nomatch z⟩
    · obtain ⟨rfl, _⟩ := r0.blI
      exact .inr ⟨_, rfl, k _ q _ H [] (Kp.refl ok) (.int _) fun _ z => nomatch z⟩
    · exact q.elim
  · exact q.elim
/-- max, min of two -/
def max2D : D → D → W D
  | .int i, .int j => pu (.int (if j > i then j else i))
  | _, _ => fl
def min2D : D → D → W D
  | .int i, .int j => pu (.int (if j < i then j else i))
  | _, _ => fl
theorem cd_max2 : CallD c (fun xs H Q => ∃ i j, xs = [.int i, .int j] ∧ Q (.int (if j > i then j else i)) H) (a2 max2D) := by
  intro H us ds F Qd Q ok ns r q k
  unfold a2 at q
  split at q
  · obtain ⟨v, v', F1, F2, rfl, r1, r2, _⟩ := r.two
    unfold max2D at q
    split at q
    · obtain ⟨rfl, _⟩ := r1.intI
      obtain ⟨rfl, _⟩ := r2.intI
      exact ⟨_, _, rfl, k _ q _ H [] (Kp.refl ok) (.int _) fun _ z => nomatch z⟩
    · exact q.elim
  · exact q.elim
theorem cd_min2 : CallD c (fun xs H Q => ∃ i j, xs = [.int i, .int j] ∧ Q (.int (if j < i then j else i)) H) (a2 min2D) := by
  intro H us ds F Qd Q ok ns r q k
  unfold a2 at q
  split at q
  · obtain ⟨v, v', F1, F2, rfl, r1, r2, _⟩ := r.two
    unfold min2D at q
    split at q
    · obtain ⟨rfl, _⟩ := r1.intI
      obtain ⟨rfl, _⟩ := r2.intI
      exact ⟨_, _, rfl, k _ q _ H [] (Kp.refl ok) (.int _) fun _ z => nomatch z⟩
    · exact q.elim
  · exact q.elim
/-- the ints of a list -/
def lInts : D → Option (List Int)
  | .lst ds => intsD ds
  | .frz ds => intsD ds
  | _ => none
theorem Rp.ofI {G : Gx X.K} {H : Hp} {v : V} {d : D} {F : List Addr} {ns : List Int} (r : Rp G H v d F) (h : lInts d = some ns) : ∃ a, v = .ref a ∧ SqL X.K H a (ns.map V.int) := by
  unfold lInts at h
  split at h
  · obtain ⟨a, xs, F', rfl, sx, ax, _⟩ := r.lstI
    have e := intsD_eq h
    subst e
    obtain ⟨rfl, _⟩ := ax.ints
    exact ⟨a, rfl, sx⟩
  · obtain ⟨a, xs, rfl, sx, ax, _⟩ := r.frzI
    have e := intsD_eq h
    subst e
    obtain ⟨rfl, _⟩ := ax.ints
    exact ⟨a, rfl, sx⟩
  · cases h
def sumD (d : D) : W D := opt (lInts d) fun ns => pu (.int ns.sum)
theorem cd_sum : CallD c (rSum X.K) (a1 sumD) := by
  intro H us ds F Qd Q ok ns r q k
  unfold a1 at q
  split at q
  · obtain ⟨v, rfl, r0⟩ := r.one
    obtain ⟨ms, e, q⟩ := q
    obtain ⟨a, rfl, sx⟩ := r0.ofI e
    exact ⟨a, ms, rfl, sx, k _ q _ H [] (Kp.refl ok) (.int _) fun _ z => nomatch z⟩
  · exact q.elim
/-- the greatest, the least of a list that is not empty: any number that is so -/
def maxLD (d : D) : W D := opt (lInts d) fun ns => chk (0 < ns.length) fun Q _ => ∀ m, m ∈ ns → (∀ y ∈ ns, y ≤ m) → Q (.int m)
def minLD (d : D) : W D := opt (lInts d) fun ns => chk (0 < ns.length) fun Q _ => ∀ m, m ∈ ns → (∀ y ∈ ns, m ≤ y) → Q (.int m)
theorem cd_maxL : CallD c (rMax X.K) (a1 maxLD) := by
  intro H us ds F Qd Q ok ns r q k
  unfold a1 at q
  split at q
  · obtain ⟨v, rfl, r0⟩ := r.one
    obtain ⟨ms, e, hl, q⟩ := q
    obtain ⟨a, rfl, sx⟩ := r0.ofI e
    exact ⟨a, ms, rfl, sx, hl, fun m h1 h2 => k _ (q m h1 h2) _ H [] (Kp.refl ok) (.int _) fun _ z => nomatch z⟩
  · exact q.elim
theorem cd_minL : CallD c (rMin X.K) (a1 minLD) := by
  intro H us ds F Qd Q ok ns r q k
  unfold a1 at q
  split at q
  · obtain ⟨v, rfl, r0⟩ := r.one
    obtain ⟨ms, e, hl, q⟩ := q
    obtain ⟨a, rfl, sx⟩ := r0.ofI e
    exact ⟨a, ms, rfl, sx, hl, fun m h1 h2 => k _ (q m h1 h2) _ H [] (Kp.refl ok) (.int _) fun _ z => nomatch z⟩
  · exact q.elim
/-- all of a list of bools -/
def allD : D → W D
  | .lst ds => opt (bls ds) fun bs => pu (.bl (bs.all id))
  | _ => fl
theorem cd_all : CallD c (rAll X.K) (a1 allD) := by
  intro H us ds F Qd Q ok ns r q k
  unfold a1 at q
  split at q
  · obtain ⟨v, rfl, r0⟩ := r.one
    unfold allD at q
    split at q
    · obtain ⟨bs, e, q⟩ := q
      have e := bls_eq e
      subst e
      obtain ⟨a, xs, F', rfl, sx, ax, _⟩ := r0.lstI
      obtain ⟨rfl, _⟩ := ax.bls
      exact ⟨a, bs, rfl, sx, k _ q _ H [] (Kp.refl ok) (.bl _) fun _ z => nomatch z⟩
    · exact q.elim
  · exact q.elim
end
end DL
namespace DL
open PySem L2
/-! ### isinstance of built-in types -/
def tyN : D → Option String
  | .non => some "NoneType"
  | .bl _ => some "bool"
  | .int _ => some "int"
  | .str _ => some "str"
  | .lst _ => some "list"
  | .frz _ => some "list"
  | .tup _ => some "tuple"
  | .dic _ _ => some "dict"
  | .dtt _ _ => some "dict"
  | _ => none
def tyAll : List String := ["NoneType", "bool", "int", "str", "list", "tuple", "dict"]
def isiT (t n : String) : Option Bool := if t ∈ tyAll ∧ n ∈ tyAll.tail then some (t == n || (t == "bool" && n == "int")) else none
theorem kitB_all : ∀ t ∈ tyAll, ∀ n ∈ tyAll.tail, kitB t n = some (t == n || (t == "bool" && n == "int")) := by decide +kernel
theorem isiT_kit {t n : String} {b : Bool} (h : isiT t n = some b) : kitB t n = some b := by
  unfold isiT at h
  split at h
  · rename_i q
    rw [kitB_all t q.1 n q.2]
    exact h
  · cases h
section
variable {X : Cx} {c : Cd X.K}
theorem Rp.tyx {G : Gx X.K} {H : Hp} {v : V} {d : D} {F : List Addr} {t : String} (r : Rp G H v d F) (h : tyN d = some t) : TyX X.K H v (.type t) := by
  cases r with
  | non => cases h; exact .base .non
  | bl b => cases h; exact .base (.bl _)
  | int i => cases h; exact .base (.int _)
  | str x => cases h; exact .base (.str _)
  | lst e _ => cases h; exact .base (.lst e)
  | frz e _ =>
    cases h
    rcases e with ⟨o, e⟩ | ⟨o, its, n, e, hc, _⟩
    · exact .base (.frz e)
    · exact .kList e hc
  | tup e _ =>
    cases h
    rcases e with (e | ⟨o, e⟩) | ⟨o, its, n, e, hc, _⟩
    · exact .base (.tup e)
    · exact .fTuple e
    · exact .kTuple e hc
  | dic e _ => cases h; exact .base (.dK e)
  | dtt e _ => cases h; exact .base (.dT e)
  | _ => cases h
def isiD : D → D → W D
  | d, .ty n => opt (tyN d) fun t => opt (isiT t n) fun b => pu (.bl b)
  | _, _ => fl
theorem cd_isi : CallD c (rIsi X.K) (a2 isiD) := by
  intro H us ds F Qd Q ok ns r q k
  unfold a2 at q
  split at q
  · obtain ⟨v, v', F1, F2, rfl, r1, r2, _⟩ := r.two
    unfold isiD at q
    split at q
    · obtain ⟨t, e1, b, e2, q⟩ := q
      cases r2
      exact ⟨v, _, _, _, b, rfl, .ty _, r1.tyx e1, kit_ty (isiT_kit e2), k _ q _ H [] (Kp.refl ok) (.bl _) fun _ z => nomatch z⟩
    · exact q.elim
  · exact q.elim

/-! ### repr -/
def rRepr (K : PySem.W.Frag) : List V → Hp → VK → Prop := fun xs H Q => ∃ x p, xs = [x] ∧ Dp K H x p ∧ p.showable = true ∧ p.hasDict = false ∧ p.depth ≤ 60 ∧ p.shown.length ≤ sizeLine ∧ Q (.str p.shown) H
theorem cr_repr (hg : X.A.guards = some []) (hu : X.A.units + 64 < cLine) : CallR X (.builtin "repr") (rRepr X.K) := by
  intro pins s σ H xs us Q I r h
  obtain ⟨x, p, rfl, dp, sh, nd, dd, sz, q⟩ := h
  cases r with
  | cons rx rr =>
    cases rr
    obtain ⟨as, rd⟩ := Dp.reads I p x _ dp rx
    cases dp with
    | non => cases rx; exact PySem.P.repr_of_none ⟨.str _, H, I.tok _, ⟨_, rfl⟩, q⟩
    | bl b => cases rx; exact PySem.P.repr_of_bool ⟨.str _, H, I.tok _, ⟨_, rfl⟩, q⟩
    | int i =>
      obtain ⟨t, rfl⟩ := rx
      exact PySem.P.repr_of_int (by simpa [PyData.showable] using sh) ⟨.str _, H, I.tok _, ⟨_, rfl⟩, q⟩
    | str z =>
      obtain ⟨t, rfl⟩ := rx
      exact PySem.P.repr_of_str ⟨.str _, H, I.tok _, ⟨_, rfl⟩, q⟩ (by simpa [PyData.shown] using sz)
    | lst _ _ =>
      cases rx
      exact repr_of_reads' rd sh (fun e => by rw [nd] at e; cases e) hg (by omega) (fun _ _ e => e) (fun h' u tk hk => ⟨.str _, H, I.kept hk, ⟨_, rfl⟩, q⟩) sz
    | tup _ _ =>
      cases rx
      exact repr_of_reads' rd sh (fun e => by rw [nd] at e; cases e) hg (by omega) (fun _ _ e => e) (fun h' u tk hk => ⟨.str _, H, I.kept hk, ⟨_, rfl⟩, q⟩) sz
/-- what is shown: the text is a function of the data -/
def reprD (d : D) : W D := opt d.py fun p => chk (p.showable = true ∧ p.depth ≤ 60 ∧ p.shown.length ≤ sizeLine) (pu (.str p.shown))
theorem cd_repr : CallD c (rRepr X.K) (a1 reprD) := by
  intro H us ds F Qd Q ok ns r q k
  unfold a1 at q
  split at q
  · obtain ⟨v, rfl, r0⟩ := r.one
    obtain ⟨p, e, ⟨h1, h2, h3⟩, q⟩ := q
    exact ⟨v, p, rfl, Rp.dp _ _ _ _ r0 e, h1, py_noDict _ _ e, h2, h3, k _ q _ H [] (Kp.refl ok) (.str _) fun _ z => nomatch z⟩
  · exact q.elim

/-! ### sorted, ints -/
def sortID (d : D) : W D := opt (lInts d) fun ns Q _ => ∀ ms : List Int, ms.Perm ns → ms.Pairwise (· ≤ ·) → Q (.lst (ms.map D.int))
theorem cn_sortI : CallN c (rSortedI X.K) (a1 sortID) := by
  intro H us ds F Qd Q ok ns r q k
  unfold a1 at q
  split at q
  · obtain ⟨v, rfl, r0⟩ := r.one
    obtain ⟨ms, e, q⟩ := q
    obtain ⟨a, rfl, sx⟩ := r0.ofI e
    exact ⟨a, ms, rfl, sx, fun ms' p hp hs hn => k _ (q ms' hp hs) _ _ [p] (Kp.laid ok hn _) (.lst upd_same .of_ints) (fun a z => by rw [List.mem_singleton.mp z]; exact hn) (by simp)⟩
  · exact q.elim
end
end DL
namespace DL
open PySem L2
/-! ### statements: how the flow goes on -/
inductive Fl where
  | nx | bk | ct
  | rt (d : D)
/-- w: the slots that may have been stored to, or whose lists may have been written -/
structure Step {K : PySem.W.Frag} (c : Cd K) (w : List Nat) (fp : Nat → List Addr) (H : Hp) (σ : St) (fp' : Nat → List Addr) (H' : Hp) (σ' : St) : Prop where
  sl : ∀ j, j ∉ w → σ'[j]? = σ[j]? ∧ fp' j = fp j
  kp : ∀ b o, H b = some o → b ∉ c.G.S → (∀ i ∈ w, i ∈ c.own → b ∉ fp i) → H' b = some o
  nw : ∀ i ∈ w, i ∈ c.own → ∀ a ∈ fp' i, H a = none ∨ ∃ k ∈ w, k ∈ c.own ∧ a ∈ fp k
  dm : ∀ b, H b ≠ none → H' b ≠ none
  ln : σ'.length = σ.length
section
variable {K : PySem.W.Frag} {c : Cd K} {w w' : List Nat} {fp fp1 fp2 : Nat → List Addr} {H H1 H2 : Hp} {σ σ1 σ2 : St}
theorem Step.of_kp (k : Kp c.G H H1) : Step c w fp H σ fp H1 σ :=
  ⟨fun _ _ => ⟨rfl, rfl⟩, fun b o e n _ => k.kp b o e n, fun i hi ho a ha => .inr ⟨i, hi, ho, ha⟩, k.dm, rfl⟩
theorem Step.wk (s : Step c w fp H σ fp1 H1 σ1) (h : ∀ i ∈ w, i ∈ w') : Step c w' fp H σ fp1 H1 σ1 := by
  refine ⟨fun j hj => s.sl j fun z => hj (h j z), fun b o e n q => s.kp b o e n fun i hi ho => q i (h i hi) ho, fun i hi ho a ha => ?_, s.dm, s.ln⟩
  by_cases hw : i ∈ w
  · exact (s.nw i hw ho a ha).elim .inl fun ⟨k, hk, q⟩ => .inr ⟨k, h k hk, q⟩
  · rw [(s.sl i hw).2] at ha
    exact .inr ⟨i, hi, ho, ha⟩
theorem Step.trans (s : Step c w fp H σ fp1 H1 σ1) (t : Step c w fp1 H1 σ1 fp2 H2 σ2) : Step c w fp H σ fp2 H2 σ2 := by
  refine ⟨fun j hj => ⟨(t.sl j hj).1.trans (s.sl j hj).1, (t.sl j hj).2.trans (s.sl j hj).2⟩, fun b o e n q => t.kp b o (s.kp b o e n q) n fun i hi ho hb => ?_, fun i hi ho a ha => ?_, fun b e => t.dm b (s.dm b e), t.ln.trans s.ln⟩
  · rcases s.nw i hi ho b hb with z | ⟨k, hk, hk2, z⟩
    · rw [e] at z; cases z
    · exact q k hk hk2 z
  · rcases t.nw i hi ho a ha with z | ⟨k, hk, hk2, z⟩
    · left
      cases q : H a with
      | none => rfl
      | some o => exact absurd z (s.dm a (by rw [q]; exact fun z => nomatch z))
    · exact s.nw k hk hk2 a z
end
/-- what stands behind a statement: σ', δ' and how it went -/
def Fin {K : PySem.W.Frag} (c : Cd K) (w : List Nat) (fp : Nat → List Addr) (H : Hp) (σ : St) (Dn : Ends) : Fl → Env → Prop
  | .nx, δ' => ∀ fp' H' σ', EnvOk c fp' H' σ' δ' → Step c w fp H σ fp' H' σ' → Dn.nx σ' H'
  | .bk, δ' => ∀ fp' H' σ', EnvOk c fp' H' σ' δ' → Step c w fp H σ fp' H' σ' → Dn.bk σ' H'
  | .ct, δ' => ∀ fp' H' σ', EnvOk c fp' H' σ' δ' → Step c w fp H σ fp' H' σ' → Dn.ct σ' H'
  | .rt d, _ => ∀ v F H', c.G.ok H' → Rp c.G H' v d F → (∀ a ∈ F, c.H0 a = none ∧ a ∉ c.G.S) → F.Nodup → (∀ b o, c.H0 b = some o → b ∉ c.G.S → H' b = some o) → Dn.rt v H'
def tS {K : PySem.W.Frag} (c : Cd K) (w : List Nat) (g : Env → W (Fl × Env)) : TS := fun Dn σ H => ∃ fp δ Qd, EnvOk c fp H σ δ ∧ g δ Qd c.xq ∧ ∀ f δ', Qd (f, δ') → Fin c w fp H σ Dn f δ'

section
variable {X : Cx} {c : Cd X.K} {st : Stmt} {sts : List Stmt} {w w' : List Nat} {g g' : Env → W (Fl × Env)} {e a b : Expr} {pos : Pos} {va vb : List Nat} {fa fb : Env → W D}
/-- what follows a statement, seen from ahead of it -/
theorem Fin.ahead {fp fp1 : Nat → List Addr} {H H1 : Hp} {σ σ1 : St} {Dn : Ends} {f : Fl} {δ : Env} (s : Step c w fp H σ fp1 H1 σ1) (h : Fin c w fp H σ Dn f δ) : Fin c w fp1 H1 σ1 Dn f δ := by
  cases f with
  | nx => exact fun fp' H' σ' e t => h fp' H' σ' e (s.trans t)
  | bk => exact fun fp' H' σ' e t => h fp' H' σ' e (s.trans t)
  | ct => exact fun fp' H' σ' e t => h fp' H' σ' e (s.trans t)
  | rt d => exact h
theorem Fin.wk {fp : Nat → List Addr} {H : Hp} {σ : St} {Dn : Ends} {f : Fl} {δ : Env} (s : ∀ i ∈ w', i ∈ w) (h : Fin c w fp H σ Dn f δ) : Fin c w' fp H σ Dn f δ := by
  cases f with
  | nx => exact fun fp' H' σ' e t => h fp' H' σ' e (t.wk s)
  | bk => exact fun fp' H' σ' e t => h fp' H' σ' e (t.wk s)
  | ct => exact fun fp' H' σ' e t => h fp' H' σ' e (t.wk s)
  | rt d => exact h
def sNil : Env → W (Fl × Env) := fun δ => pu (.nx, δ)
def thenF (g' : Env → W (Fl × Env)) : Fl × Env → W (Fl × Env)
  | (.nx, δ) => g' δ
  | (.bk, δ) => pu (.bk, δ)
  | (.ct, δ) => pu (.ct, δ)
  | (.rt d, δ) => pu (.rt d, δ)
def sSeq (g g' : Env → W (Fl × Env)) : Env → W (Fl × Env) := fun δ => bd (g δ) (thenF g')
/-- an address that is free is not of the entry -/
theorem EnvOk.free0 {fp : Nat → List Addr} {H : Hp} {σ : St} {δ : Env} (e : EnvOk c fp H σ δ) {a : Addr} (n : H a = none) : c.H0 a = none ∧ a ∉ c.G.S := by
  refine ⟨?_, notS0 e.ok n⟩
  cases q : c.H0 a with
  | none => rfl
  | some o =>
    rw [e.frm a o q (notS0 e.ok n)] at n
    cases n
theorem sd_nil : PSs X [] (tS c [] sNil) := pss_nil.wk fun Dn σ H ⟨fp, δ, Qd, e, hf, k⟩ => k _ _ hf fp H σ e (.of_kp (Kp.refl e.ok))
theorem sd_wk {t : TS} (h : PSs X sts (tS c w g)) (s : ∀ i ∈ w, i ∈ w') : PSs X sts (tS c w' g) := h.wk fun Dn σ H ⟨fp, δ, Qd, e, hf, k⟩ => ⟨fp, δ, Qd, e, hf, fun f δ' q => (k f δ' q).wk s⟩
theorem sd_cons (h : PS X st (tS c w g)) (h' : PSs X sts (tS c w' g')) : PSs X (st :: sts) (tS c (w ++ w') (sSeq g g')) := (pss_cons h h').wk fun Dn σ H ⟨fp, δ, Qd, e, hf, k⟩ => by
  refine ⟨fp, δ, fun r => thenF g' r Qd c.xq, e, hf, fun f δ' q => ?_⟩
  cases f with
  | nx =>
    intro fp1 H1 σ1 e1 s1
    refine ⟨fp1, δ', Qd, e1, q, fun f2 δ2 q2 => ?_⟩
    exact ((k f2 δ2 q2).ahead (s1.wk fun i z => by simp [z])).wk fun i z => by simp [z]
  | bk => exact (k _ _ q).wk fun i z => by simp [z]
  | ct => exact (k _ _ q).wk fun i z => by simp [z]
  | rt d => exact k _ _ q
theorem sd_one (h : PS X st (tS c w g)) : PSs X [st] (tS c w g) := pss_one h
/-- pass; break; continue -/
theorem sd_pass : PS X (.Pass pos) (tS c [] sNil) := ps_pass.wk fun Dn σ H ⟨fp, δ, Qd, e, hf, k⟩ => k _ _ hf fp H σ e (.of_kp (Kp.refl e.ok))
def sBrk : Env → W (Fl × Env) := fun δ => pu (.bk, δ)
def sCnt : Env → W (Fl × Env) := fun δ => pu (.ct, δ)
theorem sd_break : PS X (.Break pos) (tS c [] sBrk) := ps_break.wk fun Dn σ H ⟨fp, δ, Qd, e, hf, k⟩ => k _ _ hf fp H σ e (.of_kp (Kp.refl e.ok))
theorem sd_cont : PS X (.Continue pos) (tS c [] sCnt) := ps_continue.wk fun Dn σ H ⟨fp, δ, Qd, e, hf, k⟩ => k _ _ hf fp H σ e (.of_kp (Kp.refl e.ok))
/-- an expression alone -/
def sExpr (f : Env → W D) : Env → W (Fl × Env) := fun δ => bd (f δ) fun _ => pu (.nx, δ)
theorem sd_expr (h : PE X e (tD c va fa)) (hs : swapsWith e none pos.line X.env = pure false := by rfl) : PS X (.Expr e pos) (tS c [] (sExpr fa)) := (ps_expr h hs).wk fun Dn σ H ⟨fp, δ, Qd, e, hf, k⟩ =>
  ⟨fp, δ, fun _ => Qd (.nx, δ), e, hf, fun d qd v H' F p r => k _ _ qd fp H' σ (e.kp p.kp) (.of_kp p.kp)⟩
/-- return e: what never changes; what is new -/
def sRet (f : Env → W D) : Env → W (Fl × Env) := fun δ => bd (f δ) fun d => chk (d.imm = true) (pu (.rt d, δ))
def sRetN (f : Env → W D) : Env → W (Fl × Env) := fun δ => bd (f δ) fun d => pu (.rt d, δ)
theorem EnvOk.frm2 {fp : Nat → List Addr} {H H' : Hp} {σ : St} {δ : Env} (e : EnvOk c fp H σ δ) (k : Kp c.G H H') : ∀ b o, c.H0 b = some o → b ∉ c.G.S → H' b = some o := fun b o q n => k.kp b o (e.frm b o q n) n
theorem sd_ret (h : PE X e (tD c va fa)) : PS X (.Return (some e) pos) (tS c [] (sRet fa)) := (ps_ret h).wk fun Dn σ H ⟨fp, δ, Qd, e, hf, k⟩ =>
  ⟨fp, δ, fun d => chk (d.imm = true) (pu (Fl.rt d, δ)) Qd c.xq, e, hf, fun d qd v H' F p r => by
    have e0 := Rp.imm_nil _ _ _ r qd.1
    subst e0
    exact k _ _ qd.2 v [] H' p.kp.ok r (fun _ z => nomatch z) (by simp) (e.frm2 p.kp)⟩
theorem sd_retN (h : PE X e (tN c fa)) : PS X (.Return (some e) pos) (tS c [] (sRetN fa)) := (ps_ret h).wk fun Dn σ H ⟨fp, δ, Qd, e, hf, k⟩ =>
  ⟨fp, δ, fun d => Qd (.rt d, δ), e, hf, fun d qd v H' F kp r fr nd => k _ _ qd v F H' kp.ok r (fun a z => e.free0 (fr a z)) nd (e.frm2 kp)⟩
/-- return x, x a list of its own -/
def sRetV (i : Nat) : Env → W (Fl × Env) := fun δ => bd (gw δ i) fun d => pu (.rt d, δ)
theorem sd_retV (i : Nat) (ho : i ∈ c.own) (h : PE X e (tVar i)) : PS X (.Return (some e) pos) (tS c [] (sRetV i)) := (ps_ret h).wk fun Dn σ H ⟨fp, δ, Qd, e, hf, k⟩ => by
  unfold sRetV gw at hf
  cases q : gt δ i with
  | none => rw [q] at hf; exact hf.elim
  | some d =>
    rw [q] at hf
    obtain ⟨v, hv, r⟩ := e.rep i d q
    exact ⟨v, hv, k _ _ hf v (fp i) H e.ok r (fun a z => ⟨e.frs i ho a z, e.nos i a z⟩) (e.ndp i ho) e.frm⟩
theorem sd_ret0 : PS X (.Return none pos) (tS c [] fun δ => pu (.rt .non, δ)) := ps_retN.wk fun Dn σ H ⟨fp, δ, Qd, e, hf, k⟩ => k _ _ hf .non [] H e.ok .non (fun _ z => nomatch z) (by simp) e.frm
/-- if -/
def sIf (t : Env → W Bool) (g g' : Env → W (Fl × Env)) : Env → W (Fl × Env) := fun δ => bd (t δ) fun b => if b = true then g δ else g' δ
theorem sd_if {t : Env → W Bool} {as bs : List Stmt} {ec : Expr} (hc : PT X ec (tT c t)) (ha : PSs X as (tS c w g)) (hb : PSs X bs (tS c w' g')) : PS X (.If ec as bs pos) (tS c (w ++ w') (sIf t g g')) := (ps_if hc ha hb).wk fun Dn σ H ⟨fp, δ, Qd, e, hf, k⟩ => by
  refine ⟨fp, δ, fun b => (if b = true then g δ else g' δ) Qd c.xq, e, hf, fun b qb H' kp => ?_⟩
  have s : Step c (w ++ w') fp H σ fp H' σ := .of_kp kp
  cases b with
  | true => exact ⟨fp, δ, Qd, e.kp kp, qb, fun f δ' q => ((k f δ' q).ahead s).wk fun i z => by simp [z]⟩
  | false => exact ⟨fp, δ, Qd, e.kp kp, qb, fun f δ' q => ((k f δ' q).ahead s).wk fun i z => by simp [z]⟩
/-- what is never come to -/
theorem sd_never : PS X st (tS c [] fun _ => fl) := ps_never.wk fun Dn σ H ⟨fp, δ, Qd, e, hf, k⟩ => hf
theorem sds_never : PSs X sts (tS c [] fun _ => fl) := pss_never.wk fun Dn σ H ⟨fp, δ, Qd, e, hf, k⟩ => hf

/-! ### stores to names -/
theorem gt_set {δ : Env} {i j : Nat} {o : Option D} (hi : i < δ.length) : gt (δ.set i o) j = if j = i then o else gt δ j := by
  unfold gt
  by_cases h : j = i
  · subst h
    rw [if_pos rfl, List.getElem?_set_self hi]
    rfl
  · rw [if_neg h, List.getElem?_set_ne (fun q => h q.symm)]
/-- what never changes is stored -/
theorem EnvOk.setI {fp : Nat → List Addr} {H : Hp} {σ : St} {δ : Env} {i : Nat} {v : V} {d : D} (e : EnvOk c fp H σ δ) (hi : i < δ.length) (r : Rp c.G H v d []) :
    EnvOk c (fun j => if j = i then [] else fp j) H (σ.set i (some v)) (δ.set i (some d)) where
  ok := e.ok
  len := by rw [List.length_set, List.length_set]; exact e.len
  rep := fun j d' q => by
    rw [gt_set hi] at q
    by_cases h : j = i
    · subst h
      rw [if_pos rfl] at q
      cases q
      refine ⟨v, ?_, by rw [if_pos rfl]; exact r⟩
      rw [List.getElem?_set_self (by rw [e.len]; exact hi)]
    · rw [if_neg h] at q
      obtain ⟨u, hu, ru⟩ := e.rep j d' q
      exact ⟨u, by rw [List.getElem?_set_ne (fun z => h z.symm)]; exact hu, by rw [if_neg h]; exact ru⟩
  emp := fun j q => by
    rw [gt_set hi] at q
    by_cases h : j = i
    · rw [if_pos h]
    · rw [if_neg h] at q ⊢; exact e.emp j q
  nos := fun j a ha => by
    by_cases h : j = i
    · rw [if_pos h] at ha; cases ha
    · rw [if_neg h] at ha; exact e.nos j a ha
  frs := fun j ho a ha => by
    by_cases h : j = i
    · rw [if_pos h] at ha; cases ha
    · rw [if_neg h] at ha; exact e.frs j ho a ha
  ndp := fun j ho => by
    by_cases h : j = i
    · rw [if_pos h]; exact List.nodup_nil
    · rw [if_neg h]; exact e.ndp j ho
  sep := fun j ho l hl a ha => by
    by_cases h : j = i
    · rw [if_pos h] at ha; cases ha
    · rw [if_neg h] at ha
      by_cases h2 : l = i
      · rw [if_pos h2]; exact fun z => nomatch z
      · rw [if_neg h2]; exact e.sep j ho l hl a ha
  frm := e.frm
theorem Step.setI {fp : Nat → List Addr} {H : Hp} {σ : St} {i : Nat} {v : V} (ok : c.G.ok H) : Step c [i] fp H σ (fun j => if j = i then [] else fp j) H (σ.set i (some v)) :=
  ⟨fun j hj => ⟨by rw [List.getElem?_set_ne (fun z => hj (by simp [z]))], by rw [if_neg fun z => hj (by simp [z])]⟩, fun b o e _ _ => e, fun j hj ho a ha => by
    rw [if_pos (List.mem_singleton.mp hj)] at ha
    exact absurd ha List.not_mem_nil, fun _ e => e, List.length_set⟩
/-- what is new, whole, is stored in a slot of its own -/
theorem EnvOk.setN {fp : Nat → List Addr} {H H' : Hp} {σ : St} {δ : Env} {i : Nat} {v : V} {d : D} {F : List Addr} (e : EnvOk c fp H σ δ) (kp : Kp c.G H H') (hi : i < δ.length) (r : Rp c.G H' v d F) (fr : ∀ a ∈ F, H a = none) (nd : F.Nodup) :
    EnvOk c (fun j => if j = i then F else fp j) H' (σ.set i (some v)) (δ.set i (some d)) where
  ok := kp.ok
  len := by rw [List.length_set, List.length_set]; exact e.len
  rep := fun j d' q => by
    rw [gt_set hi] at q
    by_cases h : j = i
    · subst h
      rw [if_pos rfl] at q
      cases q
      refine ⟨v, ?_, by rw [if_pos rfl]; exact r⟩
      rw [List.getElem?_set_self (by rw [e.len]; exact hi)]
    · rw [if_neg h] at q
      obtain ⟨u, hu, ru⟩ := (e.kp kp).rep j d' q
      exact ⟨u, by rw [List.getElem?_set_ne (fun z => h z.symm)]; exact hu, by rw [if_neg h]; exact ru⟩
  emp := fun j q => by
    rw [gt_set hi] at q
    by_cases h : j = i
    · rw [if_pos h] at q; cases q
    · rw [if_neg h] at q ⊢; exact e.emp j q
  nos := fun j a ha => by
    by_cases h : j = i
    · rw [if_pos h] at ha; exact notS0 e.ok (fr a ha)
    · rw [if_neg h] at ha; exact e.nos j a ha
  frs := fun j ho a ha => by
    by_cases h : j = i
    · rw [if_pos h] at ha
      exact (e.free0 (fr a ha)).1
    · rw [if_neg h] at ha; exact e.frs j ho a ha
  ndp := fun j ho => by
    by_cases h : j = i
    · rw [if_pos h]; exact nd
    · rw [if_neg h]; exact e.ndp j ho
  sep := fun j ho l hl a ha => by
    by_cases h : j = i
    · rw [if_pos h] at ha
      rw [if_neg fun z => hl (z.trans h.symm)]
      exact fun z => e.dom l a z (fr a ha)
    · rw [if_neg h] at ha
      by_cases h2 : l = i
      · rw [if_pos h2]; exact fun z => e.dom j a ha (fr a z)
      · rw [if_neg h2]; exact e.sep j ho l hl a ha
  frm := (e.kp kp).frm
theorem Step.setN {fp : Nat → List Addr} {H H' : Hp} {σ : St} {i : Nat} {v : V} {F : List Addr} (kp : Kp c.G H H') (fr : ∀ a ∈ F, H a = none) : Step c [i] fp H σ (fun j => if j = i then F else fp j) H' (σ.set i (some v)) :=
  ⟨fun j hj => ⟨by rw [List.getElem?_set_ne (fun z => hj (by simp [z]))], by rw [if_neg fun z => hj (by simp [z])]⟩, fun b o e n _ => kp.kp b o e n, fun j hj ho a ha => by
    rw [if_pos (List.mem_singleton.mp hj)] at ha
    exact .inl (fr a ha), kp.dm, List.length_set⟩
/-- x = e -/
def sSet (i : Nat) (f : Env → W D) : Env → W (Fl × Env) := fun δ => bd (f δ) fun d => chk (i < δ.length ∧ d.imm = true) (pu (.nx, δ.set i (some d)))
def sSetN (i : Nat) (f : Env → W D) : Env → W (Fl × Env) := fun δ => bd (f δ) fun d => chk (i < δ.length) (pu (.nx, δ.set i (some d)))
theorem tAsg_setI {i : Nat} (Dn : Ends) (σ : St) (H : Hp) (h : tS c [i] (sSet i fa) Dn σ H) : tAsg (tD c va fa) (gName i) Dn σ H := by
  obtain ⟨fp, δ, Qd, e, hf, k⟩ := h
  refine ⟨fp, δ, fun d => chk (i < δ.length ∧ d.imm = true) (pu (Fl.nx, δ.set i (some d))) Qd c.xq, e, hf, fun d qd v H' F p r => ?_⟩
  obtain ⟨⟨hi, im⟩, q⟩ := qd
  have e0 := Rp.imm_nil _ _ _ r im
  subst e0
  exact k _ _ q _ H' _ ((e.kp p.kp).setI hi r) ((Step.of_kp (w := [i]) p.kp).trans (.setI p.kp.ok))
theorem tAsg_setN {i : Nat} (Dn : Ends) (σ : St) (H : Hp) (h : tS c [i] (sSetN i fa) Dn σ H) : tAsg (tN c fa) (gName i) Dn σ H := by
  obtain ⟨fp, δ, Qd, e, hf, k⟩ := h
  refine ⟨fp, δ, fun d => chk (i < δ.length) (pu (Fl.nx, δ.set i (some d))) Qd c.xq, e, hf, fun d qd v H' F kp r fr nd => ?_⟩
  exact k _ _ qd.2 _ H' _ (e.setN kp qd.1 r fr nd) (.setN kp fr)
variable {i : Nat} {x : Str} {pos' : Pos}
theorem sd_set (hN : X.N.Nodup) (hi : X.N[i]? = some x) (hx : Loc X.env.scope x) (h : PE X e (tD c va fa)) (hs : swapsWith e (some (.Name x pos')) pos.line X.env = pure false := by rfl) (hf : X.fn x = true ∨ X.env.scope.names.lookup x = some .local := by first | exact .inl rfl | exact .inr rfl | assumption) :
    PS X (.Assign [.Name x pos'] e pos) (tS c [i] (sSet i fa)) := (ps_set hN hi hx h hs hf).wk tAsg_setI
theorem sd_setN (hN : X.N.Nodup) (hi : X.N[i]? = some x) (hx : Loc X.env.scope x) (h : PE X e (tN c fa)) (hs : swapsWith e (some (.Name x pos')) pos.line X.env = pure false := by rfl) (hf : X.fn x = true ∨ X.env.scope.names.lookup x = some .local := by first | exact .inl rfl | exact .inr rfl | assumption) :
    PS X (.Assign [.Name x pos'] e pos) (tS c [i] (sSetN i fa)) := (ps_set hN hi hx h hs hf).wk tAsg_setN
end
end DL
namespace DL
open PySem L2
section
variable {X : Cx} {c : Cd X.K} {st : Stmt} {sts : List Stmt} {w w' : List Nat} {g g' : Env → W (Fl × Env)} {e a b : Expr} {pos : Pos} {va vb : List Nat} {fa fb : Env → W D} {i : Nat} {x : Str}
/-! ### targets -/
def tG (c : Cd X.K) (w : List Nat) (h : D → Env → W Env) : TG := fun v σ H Q => ∃ fp δ d F Qe, EnvOk c fp H σ δ ∧ Rp c.G H v d F ∧ h d δ Qe c.xq ∧ ∀ δ', Qe δ' → ∀ fp' σ', EnvOk c fp' H σ' δ' → Step c w fp H σ fp' H σ' → Q σ' H
def tGs (c : Cd X.K) (w : List Nat) (h : List D → Env → W Env) : TGs := fun vs σ H Q => ∃ fp δ ds F Qe, EnvOk c fp H σ δ ∧ RpA c.G H vs ds F ∧ h ds δ Qe c.xq ∧ ∀ δ', Qe δ' → ∀ fp' σ', EnvOk c fp' H σ' δ' → Step c w fp H σ fp' H σ' → Q σ' H
theorem pg_wk {tg : Expr} {t t' : TG} (h : PG X tg t) (k : ∀ v σ H Q, t' v σ H Q → t v σ H Q) : PG X tg t' := ⟨fun pins s σ H v u Q I r q => h.run pins s σ H v u Q I r (k v σ H Q q)⟩
theorem pgs_wk {tg : List Expr} {t t' : TGs} (h : PGs X tg t) (k : ∀ v σ H Q, t' v σ H Q → t v σ H Q) : PGs X tg t' := ⟨fun pins s σ H v u Q I r q => h.run pins s σ H v u Q I r (k v σ H Q q)⟩
def bName (i : Nat) (d : D) (δ : Env) : W Env := chk (i < δ.length ∧ d.imm = true) (pu (δ.set i (some d)))
theorem gd_name (hN : X.N.Nodup) (hi : X.N[i]? = some x) (hx : Loc X.env.scope x) (hf : X.fn x = true ∨ X.env.scope.names.lookup x = some .local := by first | exact .inl rfl | exact .inr rfl | assumption) : PG X (.Name x pos) (tG c [i] (bName i)) :=
  pg_wk (pg_name hN hi hx hf) fun v σ H Q ⟨fp, δ, d, F, Qe, e, r, ⟨⟨hl, im⟩, q⟩, k⟩ => by
    have e0 := Rp.imm_nil _ _ _ r im
    subst e0
    exact k _ q _ _ (e.setI hl r) (.setI e.ok)
def bNil (ds : List D) (δ : Env) : W Env := chk (ds = []) (pu δ)
def bCons (h : D → Env → W Env) (hs : List D → Env → W Env) (ds : List D) (δ : Env) : W Env := match ds with
  | d :: r => bd (h d δ) (hs r)
  | [] => fl
theorem gds_nil : PGs X [] (tGs c [] bNil) := pgs_wk pgs_nil fun vs σ H Q ⟨fp, δ, ds, F, Qe, e, r, ⟨hd, q⟩, k⟩ => by
  subst hd
  cases r
  exact ⟨rfl, k _ q fp σ e (.of_kp (Kp.refl e.ok))⟩
theorem gds_cons {t : Expr} {ts : List Expr} {h : D → Env → W Env} {hs : List D → Env → W Env} (h1 : PG X t (tG c w h)) (h2 : PGs X ts (tGs c w' hs))
    (hse : (assignEach (t :: ts) X.env).map (·.2) = assign t X.env :: (assignEach ts X.env).map (·.2) := by rfl) : PGs X (t :: ts) (tGs c (w ++ w') (bCons h hs)) := pgs_wk (pgs_cons h1 h2 hse) fun vs σ H Q ⟨fp, δ, ds, F, Qe, e, r, q, k⟩ => by
  cases r with
  | nil => exact q.elim
  | @cons v d F1 vs ds F2 r1 r2 =>
    refine ⟨v, vs, rfl, fp, δ, d, F1, fun δ' => hs ds δ' Qe c.xq, e, r1, q, fun δ1 q1 fp1 σ1 e1 s1 => ?_⟩
    exact ⟨fp1, δ1, ds, F2, Qe, e1, r2, q1, fun δ2 q2 fp2 σ2 e2 s2 => k δ2 q2 fp2 σ2 e2 ((s1.wk fun i z => by simp [z]).trans (s2.wk fun i z => by simp [z]))⟩
def bTup (n : Nat) (hs : List D → Env → W Env) : D → Env → W Env
  | .tup ds, δ => chk (ds.length = n) (hs ds δ)
  | _, _ => fl
def bLst (n : Nat) (hs : List D → Env → W Env) : D → Env → W Env
  | .lst ds, δ => chk (ds.length = n) (hs ds δ)
  | _, _ => fl
theorem gd_tup {es : List Expr} {k n : Nat} {hs : List D → Env → W Env} (hc : X.calm = true) (h : PGs X es (tGs c w hs)) (hn : (assignEach es X.env).length = n := by rfl) (hst : (assignEach es X.env).findIdx? (·.1) = none := by rfl) : PG X (.Tuple es k pos) (tG c w (bTup n hs)) :=
  pg_wk (pg_tup hc h hn hst) fun v σ H Q ⟨fp, δ, d, F, Qe, e, r, q, kk⟩ => by
    unfold bTup at q
    split at q
    · obtain ⟨a, xs, rfl, sx, ax⟩ := r.tupI
      exact ⟨a, xs, rfl, sx, by rw [ax.length]; exact q.1, fp, δ, _, _, Qe, e, ax, q.2, kk⟩
    · exact q.elim
theorem gd_lst {es : List Expr} {k n : Nat} {hs : List D → Env → W Env} (hc : X.calm = true) (h : PGs X es (tGs c w hs)) (hn : (assignEach es X.env).length = n := by rfl) (hst : (assignEach es X.env).findIdx? (·.1) = none := by rfl) : PG X (.Tuple es k pos) (tG c w (bLst n hs)) :=
  pg_wk (pg_unl hc h hn hst) fun v σ H Q ⟨fp, δ, d, F, Qe, e, r, q, kk⟩ => by
    unfold bLst at q
    split at q
    · obtain ⟨a, xs, F', rfl, sx, ax, _⟩ := r.lstI
      exact ⟨a, xs, rfl, sx, by rw [ax.length]; exact q.1, fp, δ, _, _, Qe, e, ax, q.2, kk⟩
    · exact q.elim
/-- targets = e -/
def sAsg (f : Env → W D) (h : D → Env → W Env) : Env → W (Fl × Env) := fun δ => bd (f δ) fun d => bd (h d δ) fun δ' => pu (.nx, δ')
theorem sd_asg {tg : Expr} {h : D → Env → W Env} (he : PE X e (tD c va fa)) (hg : PG X tg (tG c w h)) (hs : swapsWithSole [tg] e pos.line X.env = pure false := by rfl) (hw : swappedStores [tg] e X.env = pure none := by rfl)
    (h1 : (assignEach [tg] X.env).map (·.2) = [assign tg X.env] := by rfl) : PS X (.Assign [tg] e pos) (tS c w (sAsg fa h)) := (ps_asg he hg hs hw h1).wk fun Dn σ H ⟨fp, δ, Qd, e, hf, k⟩ => by
  refine ⟨fp, δ, fun d => bd (h d δ) (fun δ' => pu (Fl.nx, δ')) Qd c.xq, e, hf, fun d qd v H' F p r => ?_⟩
  refine ⟨fp, δ, d, F, fun δ' => Qd (.nx, δ'), e.kp p.kp, r, qd, fun δ' q fp' σ' e' s' => ?_⟩
  exact k _ _ q fp' H' σ' e' ((Step.of_kp p.kp).trans s')
/-- what never changes is as good as new -/
def dImm (f : Env → W D) : Env → W D := fun δ => bd (f δ) fun d => chk (d.imm = true) (pu d)
theorem pn_imm (h : PE X e (tD c va fa)) : PE X e (tN c (dImm fa)) := h.wk fun σ H Q ⟨fp, δ, Qd, e, hf, k⟩ => ⟨fp, δ, fun d => chk (d.imm = true) (pu d) Qd c.xq, e, hf, fun d qd v H' F p r => by
  have e0 := Rp.imm_nil _ _ _ r qd.1
  subst e0
  exact k d qd.2 v H' [] p.kp r (fun _ z => nomatch z) List.nodup_nil⟩
/-- x, y = a, b -/
def sPar (i j : Nat) (f f' : Env → W D) : Env → W (Fl × Env) := fun δ => bd (f δ) fun d => bd (f' δ) fun d' => chk (i < δ.length ∧ j < δ.length) (pu (.nx, (δ.set i (some d)).set j (some d')))
/-- the reading of two new things, stored one after the other -/
theorem par_core {j : Nat} {Dn : Ends} {σ : St} {H : Hp} (h : tS c [i, j] (sPar i j fa fb) Dn σ H) : tN c fa σ H fun v H1 => tN c fb σ H1 fun v' H2 => ∀ H3, Kp c.G H2 H3 → Dn.nx ((σ.set i (some v)).set j (some v')) H3 := by
  obtain ⟨fp, δ, Qd, e, hf, k⟩ := h
  refine ⟨fp, δ, fun d => bd (fb δ) (fun d' => chk (i < δ.length ∧ j < δ.length) (pu (Fl.nx, (δ.set i (some d)).set j (some d')))) Qd c.xq, e, hf, fun d qd v H1 F1 kp1 r1 fr1 nd1 => ?_⟩
  refine ⟨fp, δ, fun d' => chk (i < δ.length ∧ j < δ.length) (pu (Fl.nx, (δ.set i (some d)).set j (some d'))) Qd c.xq, e.kp kp1, qd, fun d' ⟨⟨hi, hj⟩, q⟩ v' H2 F2 kp2 r2 fr2 nd2 H3 kp3 => ?_⟩
  have e1 := e.setN kp1 hi r1 fr1 nd1
  have hj' : j < (δ.set i (some d)).length := by rw [List.length_set]; exact hj
  have n2 : ∀ a ∈ F2, a ∉ c.G.S := fun a z => notS0 kp1.ok (fr2 a z)
  have e2 := e1.setN (kp2.trans kp3) hj' (r2.kp kp3 n2) fr2 nd2
  refine k _ _ q _ H3 _ e2 ?_
  exact ((Step.setN kp1 fr1).wk fun l z => by simp [List.mem_singleton.mp z]).trans ((Step.setN (kp2.trans kp3) fr2).wk fun l z => by simp [List.mem_singleton.mp z])
theorem sd_par {j : Nat} {y : Str} {px py pt : Pos} {kt k2 pt2} (hc : X.calm = true) (hN : X.N.Nodup) (hi : X.N[i]? = some x) (hj : X.N[j]? = some y) (hij : i ≠ j) (hx : X.env.scope.names.lookup x = some .local) (hy : X.env.scope.names.lookup y = some .local)
    (ha : PE X a (tN c fa)) (hb : PE X b (tN c fb)) (hw : swappedStores [.Tuple [.Name x px, .Name y py] kt pt] (.Tuple [a, b] k2 pt2) X.env = pure (some [x, y])) (hs : swapsWithSole [.Tuple [.Name x px, .Name y py] kt pt] (.Tuple [a, b] k2 pt2) pos.line X.env = pure false := by rfl)
    (hs1 : starEach (a :: [b]) X.env = (false, eval a X.env) :: starEach [b] X.env := by rfl) (hs2 : starEach (b :: []) X.env = (false, eval b X.env) :: starEach [] X.env := by rfl) :
    PS X (.Assign [.Tuple [.Name x px, .Name y py] kt pt] (.Tuple [a, b] k2 pt2) pos) (tS c [i, j] (sPar i j fa fb)) := (ps_par hc hN hi hj hij hx hy (pa_cons ha (pa_cons hb pa_nil hs2) hs1) hw hs).wk fun Dn σ H h => by
  have q := par_core h
  obtain ⟨fp, δ, Qd, e, hf, k⟩ := q
  refine ⟨fp, δ, Qd, e, hf, fun d qd v H1 F kp r fr nd => ?_⟩
  obtain ⟨fp, δ, Qd, e, hf, k⟩ := k d qd v H1 F kp r fr nd
  exact ⟨fp, δ, Qd, e, hf, fun d qd v' H2 F kp r fr nd => ⟨v, v', rfl, k d qd v' H2 F kp r fr nd H2 (Kp.refl kp.ok)⟩⟩
theorem sd_parT {j : Nat} {y : Str} {px py pt : Pos} {kt k2 pt2} (hc : X.calm = true) (hN : X.N.Nodup) (hi : X.N[i]? = some x) (hj : X.N[j]? = some y) (hx : Loc X.env.scope x) (hy : Loc X.env.scope y)
    (ha : PE X a (tN c fa)) (hb : PE X b (tN c fb)) (hw : swappedStores [.Tuple [.Name x px, .Name y py] kt pt] (.Tuple [a, b] k2 pt2) X.env = pure none) (hs : swapsWithSole [.Tuple [.Name x px, .Name y py] kt pt] (.Tuple [a, b] k2 pt2) pos.line X.env = pure false := by rfl)
    (hs1 : starEach (a :: [b]) X.env = (false, eval a X.env) :: starEach [b] X.env := by rfl) (hs2 : starEach (b :: []) X.env = (false, eval b X.env) :: starEach [] X.env := by rfl)
    (hfx : X.fn x = true ∨ X.env.scope.names.lookup x = some .local := by first | exact .inl rfl | exact .inr rfl | assumption) (hfy : X.fn y = true ∨ X.env.scope.names.lookup y = some .local := by first | exact .inl rfl | exact .inr rfl | assumption) :
    PS X (.Assign [.Tuple [.Name x px, .Name y py] kt pt] (.Tuple [a, b] k2 pt2) pos) (tS c [i, j] (sPar i j fa fb)) :=
  (ps_asg (pe_tup (pa_cons ha (pa_cons hb pa_nil hs2) hs1)) (pg_tup (n := 2) hc (pgs_cons (pg_name hN hi hx hfx) (pgs_cons (pg_name hN hj hy hfy) pgs_nil))) hs hw).wk fun Dn σ H h => by
  have q := par_core h
  obtain ⟨fp, δ, Qd, e, hf, k⟩ := q
  refine ⟨fp, δ, Qd, e, hf, fun d qd v H1 F kp r fr nd => ?_⟩
  obtain ⟨fp, δ, Qd, e, hf, k⟩ := k d qd v H1 F kp r fr nd
  refine ⟨fp, δ, Qd, e, hf, fun d qd v' H2 F kp r fr nd => ⟨by show 2 ≤ sizeLine; decide, fun p hp => ?_⟩⟩
  exact ⟨p, [v, v'], rfl, SqT.of upd_same, rfl, v, [v'], rfl, v', [], rfl, rfl, k d qd v' H2 F kp r fr nd _ (Kp.laid kp.ok hp _)⟩

/-! ### lists of one's own, written -/
/-- the list that a slot holds -/
def lsA (δ : Env) (i : Nat) : Option (List D) := match gt δ i with
  | some (.lst ds) => some ds
  | _ => none
theorem lsA_eq {δ : Env} {ds : List D} (h : lsA δ i = some ds) : gt δ i = some (.lst ds) := by
  unfold lsA at h
  split at h
  · rename_i q
    cases h
    exact q
  · cases h
theorem EnvOk.lst {fp : Nat → List Addr} {H : Hp} {σ : St} {δ : Env} {ds : List D} (e : EnvOk c fp H σ δ) (h : lsA δ i = some ds) (im : D.imms ds = true) : ∃ l xs, σ[i]? = some (some (.ref l)) ∧ H l = some (.lst xs) ∧ RpA c.G H xs ds [] ∧ fp i = [l] := by
  obtain ⟨v, hv, r⟩ := e.rep i _ (lsA_eq h)
  generalize hF : fp i = F at r
  cases r with
  | lst ex ax =>
    have e0 := RpA.imm_nil _ _ _ ax im
    subst e0
    exact ⟨_, _, hv, ex, ax, rfl⟩
/-- a store into such a list -/
theorem EnvOk.wr {fp : Nat → List Addr} {H : Hp} {σ : St} {δ : Env} {l : Addr} {xs xs' : List V} {ds ds' : List D} (e : EnvOk c fp H σ δ) (ho : i ∈ c.own) (hg : lsA δ i = some ds) (hσ : σ[i]? = some (some (.ref l))) (hl : H l = some (.lst xs)) (hf : fp i = [l]) (r : RpA c.G H xs' ds' []) :
    EnvOk c fp (upd H l (.lst xs')) σ (δ.set i (some (.lst ds'))) ∧ Step c [i] fp H σ fp (upd H l (.lst xs')) σ := by
  have li : l ∈ fp i := by rw [hf]; simp
  have lS := e.nos i l li
  have hi : i < δ.length := by
    rw [← e.len]
    exact (List.getElem?_eq_some_iff.mp hσ).1
  have hd : ∀ {F : List Addr}, l ∉ F → Hd c.G F H (upd H l (.lst xs')) := fun {F} n => ⟨e.ok, fun b o q m => by
    rw [upd_ne (fun z => m (by rw [z, hl] at q; cases q; trivial))]; exact q, fun b o q hb => by rw [upd_ne (fun z : b = l => n (by rw [← z]; exact hb))]; exact q⟩
  have okl : c.G.ok (upd H l (.lst xs')) := c.G.loc H _ e.ok fun b hb => upd_ne fun z => lS (z ▸ hb)
  refine ⟨⟨okl, by rw [List.length_set]; exact e.len, fun j d q => ?_, fun j q => ?_, e.nos, e.frs, e.ndp, e.sep, fun b o q n => ?_⟩, ⟨fun _ _ => ⟨rfl, rfl⟩, fun b o q n hb => ?_, fun j hj ho a ha => .inr ⟨j, hj, ho, ha⟩, fun b q => ?_, rfl⟩⟩
  · rw [gt_set hi] at q
    by_cases h : j = i
    · subst h
      rw [if_pos rfl] at q
      cases q
      refine ⟨_, hσ, ?_⟩
      rw [hf]
      exact .lst upd_same (RpA.hd _ _ _ r (hd (fun z => nomatch z)))
    · rw [if_neg h] at q
      obtain ⟨v, hv, rv⟩ := e.rep j d q
      exact ⟨v, hv, Rp.hd _ _ _ rv (hd (e.sep i ho j h l li))⟩
  · rw [gt_set hi] at q
    by_cases h : j = i
    · rw [if_pos h] at q; cases q
    · rw [if_neg h] at q; exact e.emp j q
  · rw [upd_ne fun z => by
      have := e.frs i ho l li
      rw [z, this] at q
      cases q]
    exact e.frm b o q n
  · rw [upd_ne (fun z : b = l => hb i (by simp) ho (by rw [z]; exact li))]
    exact q
  · by_cases h : b = l
    · rw [h, upd_same]; exact fun z => nomatch z
    · rw [upd_ne h]; exact q
variable {o : Expr} {cpos apos : Pos}
/-- xs.append(e) -/
def sApp (i : Nat) (f : Env → W D) : Env → W (Fl × Env) := fun δ => opt (lsA δ i) fun ds => bd (f δ) fun d => chk (D.imms ds = true ∧ d.imm = true ∧ ds.length < sizeLine) (pu (.nx, δ.set i (some (.lst (ds ++ [d])))))
theorem imms_app : ∀ {ds ds' : List D}, D.imms ds = true → D.imms ds' = true → D.imms (ds ++ ds') = true
  | [], _, _, h => h
  | d :: ds, _, h, h' => by
    simp only [D.imms, Bool.and_eq_true] at h
    simp only [List.cons_append, D.imms, Bool.and_eq_true]
    exact ⟨h.1, imms_app h.2 h'⟩
theorem app_core {Dn : Ends} {σ : St} {H : Hp} (ho : i ∈ c.own) (h : tS c [i] (sApp i fa) Dn σ H) : tDrop (tBM X.K "list" rAppend (tVar i) (tCons (tD c va fa) tNil)) Dn σ H := by
  obtain ⟨fp, δ, Qd, e, ⟨ds, hds, hf⟩, k⟩ := h
  obtain ⟨v, hv, r⟩ := e.rep i _ (lsA_eq hds)
  obtain ⟨l, xs0, _, rfl, sx, _, _⟩ := r.lstI
  refine ⟨_, hv, .inl ⟨rfl, _, sx⟩, fp, δ, fun d => chk (D.imms ds = true ∧ d.imm = true ∧ ds.length < sizeLine) (pu (Fl.nx, δ.set i (some (.lst (ds ++ [d]))))) Qd c.xq, e, hf, fun d ⟨⟨im, imd, sz⟩, q⟩ u H' F p ru => ?_⟩
  have e0 := Rp.imm_nil _ _ _ ru imd
  subst e0
  have e1 := e.kp p.kp
  obtain ⟨l', xs, hσ, hl, ax, hfp⟩ := e1.lst hds im
  have el : l' = l := by rw [hσ] at hv; cases hv; rfl
  subst el
  refine ⟨l', xs, u, rfl, rfl, hl, by rw [ax.length]; exact sz, ?_⟩
  have ax2 : RpA c.G H' (xs ++ [u]) (ds ++ [d]) [] := by simpa using ax.append (.cons ru .nil)
  obtain ⟨e2, s2⟩ := e1.wr ho hds hσ hl hfp ax2
  exact k _ _ q _ _ _ e2 ((Step.of_kp p.kp).trans s2)
end
end DL
namespace DL
open PySem L2
section
variable {X : Cx} {c : Cd X.K} {st : Stmt} {sts : List Stmt} {w w' : List Nat} {g g' : Env → W (Fl × Env)} {e a b o : Expr} {pos cpos apos : Pos} {va vb : List Nat} {fa fb : Env → W D} {i j : Nat} {x : Str}
/-- xs.append(e) -/
theorem sd_app (i : Nat) (ho : i ∈ c.own) (hv : PE X o (tVar i)) (ha : PE X a (tD c va fa)) (hbase : attributeBase o "append" X.env (eval o X.env) = eval o X.env := by rfl)
    (hfew : ((backTo cpos (starEach (a :: []) X.env)).all (fun x => !x.1) && (backToKw cpos (keywordEach [] X.env)).all (fun x => x.1.isSome) && decide ((a :: ([] : List Expr)).length + ([] : List Keyword).length + (if ([] : List Keyword).isEmpty then 0 else 1) < 30)) = true := by rfl)
    (hline : (apos.endLine == cpos.line) = true := by rfl) (hs1 : starEach (a :: []) X.env = (false, eval a X.env) :: starEach [] X.env := by rfl) (hpl : (backTo cpos (starEach ([] : List Expr) X.env)).any (·.1) = false := by rfl)
    (hs : swapsWith (.Call (.Attribute o "append" apos) [a] [] cpos) none pos.line X.env = pure false := by rfl) : PS X (.Expr (.Call (.Attribute o "append" apos) [a] [] cpos) pos) (tS c [i] (sApp i fa)) :=
  (ps_expr (pe_bm PySem.F.plainAttrs_list PySem.F.slot_list_append PySem.F.type_list_append mt_append hv (pa_cons ha pa_nil hs1) hbase hfew hline hs1 hpl) hs).wk fun Dn σ H h => app_core ho h
/-- xs.extend(e), e a new list -/
def lsD : D → Option (List D)
  | .lst ds => some ds
  | _ => none
def sExt (i : Nat) (f : Env → W D) : Env → W (Fl × Env) := fun δ => opt (lsA δ i) fun ds => bd (f δ) fun d => opt (lsD d) fun ds' => chk (D.imms ds = true ∧ D.imms ds' = true ∧ ds.length + ds'.length ≤ sizeLine) (pu (.nx, δ.set i (some (.lst (ds ++ ds')))))
theorem sd_ext (i : Nat) (ho : i ∈ c.own) (hv : PE X o (tVar i)) (ha : PE X a (tN c fa)) (hbase : attributeBase o "extend" X.env (eval o X.env) = eval o X.env := by rfl)
    (hfew : ((backTo cpos (starEach (a :: []) X.env)).all (fun x => !x.1) && (backToKw cpos (keywordEach [] X.env)).all (fun x => x.1.isSome) && decide ((a :: ([] : List Expr)).length + ([] : List Keyword).length + (if ([] : List Keyword).isEmpty then 0 else 1) < 30)) = true := by rfl)
    (hline : (apos.endLine == cpos.line) = true := by rfl) (hs1 : starEach (a :: []) X.env = (false, eval a X.env) :: starEach [] X.env := by rfl) (hpl : (backTo cpos (starEach ([] : List Expr) X.env)).any (·.1) = false := by rfl)
    (hs : swapsWith (.Call (.Attribute o "extend" apos) [a] [] cpos) none pos.line X.env = pure false := by rfl) : PS X (.Expr (.Call (.Attribute o "extend" apos) [a] [] cpos) pos) (tS c [i] (sExt i fa)) :=
  (ps_expr (pe_bm PySem.F.plainAttrs_list PySem.F.slot_list_extend PySem.F.type_list_extend mt_extend hv (pa_cons ha pa_nil hs1) hbase hfew hline hs1 hpl) hs).wk fun Dn σ H ⟨fp, δ, Qd, e, ⟨ds, hds, hf⟩, k⟩ => by
    obtain ⟨v, hv, r⟩ := e.rep i _ (lsA_eq hds)
    obtain ⟨l, xs0, _, rfl, sx, _, _⟩ := r.lstI
    refine ⟨_, hv, .inl ⟨rfl, _, sx⟩, fp, δ, fun d => opt (lsD d) (fun ds' => chk (D.imms ds = true ∧ D.imms ds' = true ∧ ds.length + ds'.length ≤ sizeLine) (pu (Fl.nx, δ.set i (some (.lst (ds ++ ds')))))) Qd c.xq, e, hf, fun d ⟨ds', hd', ⟨im, imd, sz⟩, q⟩ u H' F kp ru fr nd => ?_⟩
    have ed : d = .lst ds' := by
      unfold lsD at hd'
      split at hd'
      · cases hd'; rfl
      · cases hd'
    subst ed
    cases ru with
    | @lst b zs _ F' eb ab =>
      have e0 := RpA.imm_nil _ _ _ ab imd
      subst e0
      have e1 := e.kp kp
      obtain ⟨l', xs, hσ, hl, ax, hfp⟩ := e1.lst hds im
      have el : l' = l := by rw [hσ] at hv; cases hv; rfl
      subst el
      refine ⟨l', b, xs, zs, rfl, rfl, hl, eb, by rw [ax.length, ab.length]; exact sz, ?_⟩
      have ax2 : RpA c.G H' (xs ++ zs) (ds ++ ds') [] := by simpa using ax.append ab
      obtain ⟨e2, s2⟩ := e1.wr ho hds hσ hl hfp ax2
      exact k _ _ q _ _ _ e2 ((Step.of_kp kp).trans s2)
/-- xs[k] = e -/
def sPut (i : Nat) (fk f : Env → W D) : Env → W (Fl × Env) := fun δ => bd (f δ) fun d => opt (lsA δ i) fun ds => bd (fk δ) fun kd => bd (asI kd) fun k => opt (ixN ds.length k) fun j => chk (D.imms ds = true ∧ d.imm = true) (pu (.nx, δ.set i (some (.lst (ds.set j d)))))
theorem RpA.put {G : Gx X.K} {H : Hp} {v : V} {d : D} (r : Rp G H v d []) : ∀ (j : Nat) {ds : List D} {xs : List V}, RpA G H xs ds [] → RpA G H (xs.set j v) (ds.set j d) []
  | _, [], _, h => by cases h; exact .nil
  | 0, d' :: ds, _, h => by
    generalize hF : ([] : List Addr) = F at h
    cases h with
    | cons h1 h2 =>
      obtain ⟨e1, e2⟩ := List.append_eq_nil_iff.mp hF.symm
      subst e1 e2
      exact .cons r h2
  | j + 1, d' :: ds, _, h => by
    generalize hF : ([] : List Addr) = F at h
    cases h with
    | cons h1 h2 =>
      obtain ⟨e1, e2⟩ := List.append_eq_nil_iff.mp hF.symm
      subst e1 e2
      exact .cons h1 (RpA.put r j h2)
theorem sd_put (i : Nat) (ho : i ∈ c.own) (hv : PE X o (tVar i)) (hk : PE X b (tD c vb fb)) (ha : PE X a (tD c va fa))
    (hsub : ∀ v, assign (.Subscript o b cpos) X.env v = (do
      let ov ← holding [v] (eval o X.env)
      let iv ← holding [v, ov] (eval b X.env)
      standAt cpos
      holding [v, ov, iv] (setItem ov iv v)
      release [v, ov, iv] []) := by intro _; rfl)
    (hs : swapsWithSole [.Subscript o b cpos] a pos.line X.env = pure false := by rfl) (hw : swappedStores [.Subscript o b cpos] a X.env = pure none := by rfl) (h1 : (assignEach [.Subscript o b cpos] X.env).map (·.2) = [assign (.Subscript o b cpos) X.env] := by rfl) :
    PS X (.Assign [.Subscript o b cpos] a pos) (tS c [i] (sPut i fb fa)) := (ps_asg ha (pg_sub hv hk set_list hsub) hs hw h1).wk fun Dn σ H ⟨fp, δ, Qd, e, hf, k⟩ => by
  refine ⟨fp, δ, fun d => opt (lsA δ i) (fun ds => bd (fb δ) fun kd => bd (asI kd) fun k => opt (ixN ds.length k) fun j => chk (D.imms ds = true ∧ d.imm = true) (pu (Fl.nx, δ.set i (some (.lst (ds.set j d)))))) Qd c.xq, e, hf, fun d ⟨ds, hds, qd⟩ u H1 F1 p1 ru => ?_⟩
  have e1 := e.kp p1.kp
  obtain ⟨v, hv, r⟩ := e1.rep i _ (lsA_eq hds)
  obtain ⟨l, xs0, _, rfl, sx, _, _⟩ := r.lstI
  refine ⟨_, hv, fp, δ, fun kd => bd (asI kd) (fun k => opt (ixN ds.length k) fun j => chk (D.imms ds = true ∧ d.imm = true) (pu (Fl.nx, δ.set i (some (.lst (ds.set j d)))))) Qd c.xq, e1, qd, fun kd qk y H2 F2 p2 ry => ?_⟩
  cases ry with
  | int n =>
    obtain ⟨m, hm, ⟨im, imd⟩, q⟩ := qk
    have e0 := Rp.imm_nil _ _ _ ru imd
    subst e0
    have e2 := e1.kp p2.kp
    obtain ⟨l', xs, hσ, hl, ax, hfp⟩ := e2.lst hds im
    have el : l' = l := by rw [hσ] at hv; cases hv; rfl
    subst el
    refine ⟨l', xs, n, m, rfl, rfl, hl, by rw [ax.length]; exact hm, ?_⟩
    obtain ⟨e3, s3⟩ := e2.wr ho hds hσ hl hfp (ax.put (ru.kp p2.kp (fun _ z => nomatch z)) m)
    exact k _ _ q _ _ _ e3 ((Step.of_kp (p1.kp.trans p2.kp)).trans s3)
  | _ => exact qk.elim
/-- xs.append(ys.pop(e)) -/
def popAt (es : List D) (kd : D) (kk : List D → D → W (Fl × Env)) : W (Fl × Env) := bd (asI kd) fun k => opt (seqIndex? k es.length) fun m => opt es[m]? fun d => chk (D.imms es = true ∧ -(2 ^ 63) ≤ k ∧ k < 2 ^ 63) (kk (es.eraseIdx m) d)
def sAppPop (i j : Nat) (f : Env → W D) : Env → W (Fl × Env) := fun δ => opt (lsA δ i) fun ds => opt (lsA δ j) fun es => bd (f δ) fun kd => popAt es kd fun es' d => chk (D.imms ds = true ∧ ds.length < sizeLine) (pu (.nx, (δ.set j (some (.lst es'))).set i (some (.lst (ds ++ [d])))))
theorem RpA.erase {G : Gx X.K} {H : Hp} : ∀ (j : Nat) {ds : List D} {xs : List V}, RpA G H xs ds [] → RpA G H (xs.eraseIdx j) (ds.eraseIdx j) []
  | _, [], _, h => by cases h; exact .nil
  | 0, d' :: ds, _, h => by
    generalize hF : ([] : List Addr) = F at h
    cases h with
    | cons h1 h2 =>
      obtain ⟨e1, e2⟩ := List.append_eq_nil_iff.mp hF.symm
      subst e1 e2
      exact h2
  | j + 1, d' :: ds, _, h => by
    generalize hF : ([] : List Addr) = F at h
    cases h with
    | cons h1 h2 =>
      obtain ⟨e1, e2⟩ := List.append_eq_nil_iff.mp hF.symm
      subst e1 e2
      exact .cons h1 (RpA.erase j h2)
theorem lsA_ne {δ : Env} {o : Option D} (hj : j < δ.length) (h : i ≠ j) : lsA (δ.set j o) i = lsA δ i := by
  unfold lsA
  rw [gt_set hj, if_neg h]
theorem lsA_lt {δ : Env} {ds : List D} (h : lsA δ i = some ds) : i < δ.length := by
  have q := lsA_eq h
  unfold gt at q
  cases e : δ[i]? with
  | none => rw [e] at q; cases q
  | some z => exact (List.getElem?_eq_some_iff.mp e).1
theorem sd_appPop (i j : Nat) (hij : i ≠ j) (ho : i ∈ c.own) (hoj : j ∈ c.own) {o2 : Expr} {cpos2 apos2 : Pos} (hv : PE X o (tVar i)) (hv2 : PE X o2 (tVar j)) (ha : PE X a (tD c va fa)) (hbase : attributeBase o "append" X.env (eval o X.env) = eval o X.env := by rfl) (hbase2 : attributeBase o2 "pop" X.env (eval o2 X.env) = eval o2 X.env := by rfl)
    (hfew : ((backTo cpos (starEach (.Call (.Attribute o2 "pop" apos2) [a] [] cpos2 :: []) X.env)).all (fun x => !x.1) && (backToKw cpos (keywordEach [] X.env)).all (fun x => x.1.isSome) && decide ((Expr.Call (.Attribute o2 "pop" apos2) [a] [] cpos2 :: ([] : List Expr)).length + ([] : List Keyword).length + (if ([] : List Keyword).isEmpty then 0 else 1) < 30)) = true := by rfl)
    (hfew2 : ((backTo cpos2 (starEach (a :: []) X.env)).all (fun x => !x.1) && (backToKw cpos2 (keywordEach [] X.env)).all (fun x => x.1.isSome) && decide ((a :: ([] : List Expr)).length + ([] : List Keyword).length + (if ([] : List Keyword).isEmpty then 0 else 1) < 30)) = true := by rfl)
    (hline : (apos.endLine == cpos.line) = true := by rfl) (hline2 : (apos2.endLine == cpos2.line) = true := by rfl) (hs1 : starEach (.Call (.Attribute o2 "pop" apos2) [a] [] cpos2 :: []) X.env = (false, eval (.Call (.Attribute o2 "pop" apos2) [a] [] cpos2) X.env) :: starEach [] X.env := by rfl) (hs2 : starEach (a :: []) X.env = (false, eval a X.env) :: starEach [] X.env := by rfl)
    (hpl : (backTo cpos (starEach ([] : List Expr) X.env)).any (·.1) = false := by rfl) (hpl2 : (backTo cpos2 (starEach ([] : List Expr) X.env)).any (·.1) = false := by rfl)
    (hs : swapsWith (.Call (.Attribute o "append" apos) [.Call (.Attribute o2 "pop" apos2) [a] [] cpos2] [] cpos) none pos.line X.env = pure false := by rfl) : PS X (.Expr (.Call (.Attribute o "append" apos) [.Call (.Attribute o2 "pop" apos2) [a] [] cpos2] [] cpos) pos) (tS c [i, j] (sAppPop i j fa)) :=
  (ps_expr (pe_bm PySem.F.plainAttrs_list PySem.F.slot_list_append PySem.F.type_list_append mt_append hv (pa_cons (pe_bm PySem.F.plainAttrs_list PySem.F.slot_list_pop PySem.F.type_list_pop mt_popAt hv2 (pa_cons ha pa_nil hs2) hbase2 hfew2 hline2 hs2 hpl2) pa_nil hs1) hbase hfew hline hs1 hpl) hs).wk fun Dn σ H ⟨fp, δ, Qd, e, ⟨ds, hds, es, hes, hf⟩, k⟩ => by
    obtain ⟨v, hv, r⟩ := e.rep i _ (lsA_eq hds)
    obtain ⟨l, xs0, _, rfl, sx, _, _⟩ := r.lstI
    obtain ⟨v2, hv2, r2⟩ := e.rep j _ (lsA_eq hes)
    obtain ⟨l2, ys0, _, rfl, sy, _, _⟩ := r2.lstI
    refine ⟨_, hv, .inl ⟨rfl, _, sx⟩, _, hv2, .inl ⟨rfl, _, sy⟩, fp, δ, fun kd => popAt es kd (fun es' d => chk (D.imms ds = true ∧ ds.length < sizeLine) (pu (Fl.nx, (δ.set j (some (.lst es'))).set i (some (.lst (ds ++ [d])))))) Qd c.xq, e, hf, fun kd qk u H' F p ru => ?_⟩
    cases ru with
    | int n =>
      obtain ⟨m, hm, d, hd, ⟨ime, n1, n2⟩, ⟨imd, sz⟩, q⟩ := qk
      have e1 := e.kp p.kp
      obtain ⟨l2', ys, hσ2, hl2, ay, hfp2⟩ := e1.lst hes ime
      have el : l2' = l2 := by rw [hσ2] at hv2; cases hv2; rfl
      subst el
      obtain ⟨y, F', hy, ry, sF⟩ := ay.get hd
      have e0 : F' = [] := List.eq_nil_iff_forall_not_mem.mpr fun a z => nomatch sF a z
      subst e0
      obtain ⟨e2, s2⟩ := e1.wr hoj hes hσ2 hl2 hfp2 (ay.erase m)
      have hds2 : lsA (δ.set j (some (.lst (es.eraseIdx m)))) i = some ds := by rw [lsA_ne (lsA_lt hes) hij]; exact hds
      obtain ⟨l', xs, hσ, hl, ax, hfp⟩ := e2.lst hds2 imd
      have el : l' = l := by rw [hσ] at hv; cases hv; rfl
      subst el
      refine ⟨l2', ys, n, m, y, rfl, rfl, hl2, n1, n2, by rw [ay.length]; exact hm, hy, ?_⟩
      refine ⟨l', xs, y, rfl, rfl, hl, by rw [ax.length]; exact sz, ?_⟩
      have ry2 : Rp c.G (upd H' l2' (.lst (ys.eraseIdx m))) y d [] := Rp.hd _ _ _ ry ⟨e1.ok, fun b o q mm => by
        rw [upd_ne (fun z : b = l2' => mm (by rw [z, hl2] at q; cases q; trivial))]; exact q, fun _ _ _ z => nomatch z⟩
      have ax2 : RpA c.G (upd H' l2' (.lst (ys.eraseIdx m))) (xs ++ [y]) (ds ++ [d]) [] := by simpa using ax.append (.cons ry2 .nil)
      obtain ⟨e3, s3⟩ := e2.wr ho hds2 hσ hl hfp ax2
      exact k _ _ q _ _ _ e3 (((Step.of_kp p.kp).trans (s2.wk fun l z => by simp [List.mem_singleton.mp z])).trans (s3.wk fun l z => by simp [List.mem_singleton.mp z]))
    | _ => exact qk.elim

/-! ### while, for -/
def again (k : Env → W (Fl × Env)) : Fl × Env → W (Fl × Env)
  | (.nx, δ) => k δ
  | (.ct, δ) => k δ
  | (.bk, δ) => pu (.nx, δ)
  | (.rt d, δ) => pu (.rt d, δ)
def whN (t : Env → W Bool) (g : Env → W (Fl × Env)) : Nat → Env → W (Fl × Env)
  | 0, _ => fl
  | n + 1, δ => bd (t δ) fun b => if b = true then bd (g δ) (again (whN t g n)) else pu (.nx, δ)
def sWh (t : Env → W Bool) (g : Env → W (Fl × Env)) : Env → W (Fl × Env) := fun δ Q X => ∃ n, whN t g n δ Q X
theorem sd_while {t : Env → W Bool} {ec : Expr} (hp : PassesOwn (model X.prog X.w) X.A X.env X.xe) (hc : PT X ec (tT c t)) (hb : PSs X sts (tS c w g)) : PS X (.While ec sts [] pos) (tS c w (sWh t g)) := (ps_while hp hc hb).wk fun Dn σ H ⟨fp, δ, Qd, e, ⟨n, hf⟩, k⟩ => by
  refine ⟨fun m σ1 H1 => ∃ fp1 δ1, EnvOk c fp1 H1 σ1 δ1 ∧ Step c w fp H σ fp1 H1 σ1 ∧ whN t g m δ1 Qd c.xq, ⟨n, fp, δ, e, .of_kp (Kp.refl e.ok), hf⟩, ?_⟩
  rintro m σ1 H1 ⟨fp1, δ1, e1, s1, h1⟩
  cases m with
  | zero => exact h1.elim
  | succ m =>
    refine ⟨fp1, δ1, fun b => (if b = true then bd (g δ1) (again (whN t g m)) else pu (Fl.nx, δ1)) Qd c.xq, e1, h1, fun b qb H2 kp => ?_⟩
    have s2 := s1.trans (.of_kp (w := w) kp)
    cases b with
    | false => exact k _ _ qb fp1 H2 σ1 (e1.kp kp) s2
    | true =>
      refine ⟨fun σ' H' => ∃ fp' δ', EnvOk c fp' H' σ' δ' ∧ Step c w fp H σ fp' H' σ' ∧ whN t g m δ' Qd c.xq, fun σ' H' q => ⟨m, Nat.lt_succ_self m, q⟩, fp1, δ1, fun r => again (whN t g m) r Qd c.xq, e1.kp kp, qb, fun f δ' q => ?_⟩
      cases f with
      | nx => exact fun fp' H' σ' e' s' => ⟨fp', δ', e', s2.trans s', q⟩
      | ct => exact fun fp' H' σ' e' s' => ⟨fp', δ', e', s2.trans s', q⟩
      | bk => exact fun fp' H' σ' e' s' => k _ _ q fp' H' σ' e' (s2.trans s')
      | rt d => exact k _ _ q
mutual
theorem Rp.mt {K : PySem.W.Frag} {G : Gx K} {H : Hp} : ∀ (d : D) (v : V) (F : List Addr), Rp G H v d F → ∀ a ∈ F, Mut (H a)
  | .non, _, _, h, _, z => by cases h; cases z
  | .bl _, _, _, h, _, z => by cases h; cases z
  | .int _, _, _, h, _, z => by cases h; cases z
  | .str _, _, _, h, _, z => by cases h; cases z
  | .src, _, _, h, _, z => by cases h; cases z
  | .ty _, _, _, h, _, z => by cases h; cases z
  | .ref _, _, _, h, _, z => by cases h; cases z
  | .frz _, _, _, h, _, z => by cases h; cases z
  | .lst ds, _, _, h, b, z => by
    cases h with
    | lst e ha =>
      rcases List.mem_cons.mp z with q | q
      · rw [q, e]; trivial
      · exact RpA.mt ds _ _ ha b q
  | .tup ds, _, _, h, b, z => by
    cases h with
    | tup e ha => exact RpA.mt ds _ _ ha b z
  | .dic ks ds, _, _, h, b, z => by
    cases h with
    | dic e ha =>
      rcases List.mem_cons.mp z with q | q
      · rw [q, e]; trivial
      · exact RpA.mt ds _ _ ha b q
  | .dtt ks ds, _, _, h, b, z => by
    cases h with
    | dtt e ha =>
      rcases List.mem_cons.mp z with q | q
      · rw [q, e]; trivial
      · exact RpA.mt ds _ _ ha b q
theorem RpA.mt {K : PySem.W.Frag} {G : Gx K} {H : Hp} : ∀ (ds : List D) (vs : List V) (F : List Addr), RpA G H vs ds F → ∀ a ∈ F, Mut (H a)
  | [], _, _, h, _, z => by cases h; cases z
  | d :: ds, _, _, h, b, z => by
    cases h with
    | cons h1 h2 =>
      rcases List.mem_append.mp z with q | q
      · exact Rp.mt d _ _ h1 b q
      · exact RpA.mt ds _ _ h2 b q
end
/-- from H1 on: what can't be written, and what stands at F, stands -/
def Hs (F : List Addr) (H1 H : Hp) : Prop := ∀ b o, H1 b = some o → (¬ Mut (some o) ∨ b ∈ F) → H b = some o
structure ItOk (G : Gx X.K) (J : It) (ds : List D) (F : List Addr) (H1 : Hp) : Prop where
  go : ∀ i H, Hs F H1 H → i < ds.length → J.go i H
  stop : ∀ H, Hs F H1 H → J.stop ds.length H
  yld : ∀ i H x H', Hs F H1 H → G.ok H → i < ds.length → J.yld i H x H' → Kp G H H' ∧ ∃ d, ds[i]? = some d ∧ Rp G H' x d []
def tI (c : Cd X.K) (vs : List Nat) (f : Env → W (List D)) : TI := fun σ H R => ∃ fp δ Qd, EnvOk c fp H σ δ ∧ f δ Qd c.xq ∧ ∀ ds, Qd ds → ∀ J H1 F, Post c vs fp H H1 F → ItOk c.G J ds F H1 → R J H1
def forW (h : D → Env → W Env) (g : Env → W (Fl × Env)) : List D → Env → W (Fl × Env)
  | [], δ => pu (.nx, δ)
  | d :: ds, δ => bd (h d δ) fun δ1 => bd (g δ1) (again (forW h g ds))
def sFor (fi : Env → W (List D)) (h : D → Env → W Env) (g : Env → W (Fl × Env)) : Env → W (Fl × Env) := fun δ => bd (fi δ) fun ds => forW h g ds δ
theorem sd_for {fi : Env → W (List D)} {h : D → Env → W Env} {tg iter : Expr} {vs : List Nat} (hp : PassesOwn (model X.prog X.w) X.A X.env X.xe) (hc : X.calm = true) (hi : PI X tg iter (tI c vs fi)) (hg : PG X tg (tG c w h)) (hb : PSs X sts (tS c w' g)) (hd : ∀ j ∈ vs, j ∉ w ++ w')
    (hs : ∀ x, foldedSetIterable iter X.env x = pure x := by intro _; rfl) : PS X (.For tg iter sts [] pos) (tS c (w ++ w') (sFor fi h g)) := (ps_for hp hc hi hg hb hs).wk fun Dn σ H ⟨fp, δ, Qd, e, hf, k⟩ => by
  refine ⟨fp, δ, fun ds => forW h g ds δ Qd c.xq, e, hf, fun ds qds J H1 F p it => ?_⟩
  have e1 := e.kp p.kp
  have s1 : Step c (w ++ w') fp H σ fp H1 σ := .of_kp p.kp
  have stab : ∀ {fp' : Nat → List Addr} {σ' : St} {H' : Hp}, Step c (w ++ w') fp H1 σ fp' H' σ' → Hs F H1 H' := fun {fp' σ' H'} s b o q m => by
    refine s.kp b o q ?_ fun l hl ho hb => ?_
    · rcases m with m | m
      · exact notS p.kp.ok q m
      · exact p.nos b m
    · rcases m with m | m
      · obtain ⟨v, _, r⟩ : ∃ d v, Rp c.G H1 v d (fp l) := by
          cases z : gt δ l with
          | none => rw [e1.emp l z] at hb; cases hb
          | some d => obtain ⟨v, _, r⟩ := e1.rep l d z; exact ⟨d, v, r⟩
        have := Rp.mt _ _ _ r b hb
        rw [q] at this
        exact m this
      · rcases p.pv b m with z | ⟨j, hj, z⟩
        · exact e.dom l b hb z
        · exact e1.sep l ho j (fun q => hd j hj (q ▸ hl)) b hb z
  refine ⟨fun i m σ1 H' => m = ds.length - i ∧ i ≤ ds.length ∧ ∃ fp1 δ1, EnvOk c fp1 H' σ1 δ1 ∧ Step c (w ++ w') fp H1 σ fp1 H' σ1 ∧ forW h g (ds.drop i) δ1 Qd c.xq, ⟨ds.length, rfl, Nat.zero_le _, fp, δ, e1, .of_kp (Kp.refl e1.ok), qds⟩, ?_⟩
  rintro i m σ1 H' ⟨rfl, hi, fp1, δ1, e2, s2, q⟩
  have st := stab s2
  by_cases hlt : i < ds.length
  · refine .inr ⟨it.go i H' st hlt, fun σ' H2 => ∃ fp' δ', EnvOk c fp' H2 σ' δ' ∧ Step c (w ++ w') fp H1 σ fp' H2 σ' ∧ forW h g (ds.drop (i + 1)) δ' Qd c.xq, fun σ' H2 z => ⟨ds.length - (i + 1), by omega, rfl, hlt, z⟩, fun x H2 y => ?_⟩
    obtain ⟨kp, d, hd', r⟩ := it.yld i H' x H2 st e2.ok hlt y
    have ed : ds.drop i = d :: ds.drop (i + 1) := by
      have := List.drop_eq_getElem_cons hlt
      rw [this]
      congr 1
      have q2 := List.getElem?_eq_getElem hlt
      rw [q2] at hd'
      exact Option.some.inj hd'
    rw [ed] at q
    have s3 := s2.trans (.of_kp (w := w ++ w') kp)
    refine ⟨fp1, δ1, d, [], fun δ2 => bd (g δ2) (again (forW h g (ds.drop (i + 1)))) Qd c.xq, e2.kp kp, r, q, fun δ2 q2 fp2 σ2 e3 s4 => ?_⟩
    have s5 := s3.trans (s4.wk fun l z => by simp [z])
    refine ⟨fp2, δ2, fun r => again (forW h g (ds.drop (i + 1))) r Qd c.xq, e3, q2, fun f δ' q3 => ?_⟩
    cases f with
    | nx => exact fun fp' H3 σ' e' s' => ⟨fp', δ', e', s5.trans (s'.wk fun l z => by simp [z]), q3⟩
    | ct => exact fun fp' H3 σ' e' s' => ⟨fp', δ', e', s5.trans (s'.wk fun l z => by simp [z]), q3⟩
    | bk => exact fun fp' H3 σ' e' s' => k _ _ q3 fp' H3 σ' e' (s1.trans (s5.trans (s'.wk fun l z => by simp [z])))
    | rt d => exact k _ _ q3
  · have ei : i = ds.length := by omega
    subst ei
    rw [List.drop_length] at q
    exact .inl ⟨it.stop H' st, k _ _ q fp1 H' σ1 e2 (s1.trans s2)⟩
end
end DL
/-! enumerate of a tuple -/
namespace PySem
open Sem (wp)
theorem en1_tuple (l : Addr) (items : Array Value) (n : Nat) (dct : Option Addr) (sl : Array (Option Value)) :
    Meets (Builtin.«enumerate.__new__» ⟨[.type "enumerate", .ref l], []⟩) (fun _ R s => s.heap.get? l = some { cls := .type "tuple", dict := dct, data := .seq items n, slots := sl } ∧
      R (.ok (.ret (.ref (s.heap.push { cls := .type "tuple_iterator", data := .fields #[.ref l, .int 0 0] }).objs.size)))
        { s with heap := (s.heap.push { cls := .type "tuple_iterator", data := .fields #[.ref l, .int 0 0] }).push { cls := .type "enumerate", data := .fields #[.none, .bool false, .ref s.heap.objs.size, rawInt 0, .none, .none] } }) :=
  .of_wp fun prog w A R s h => by
    obtain ⟨hp, g, d, tk, os⟩ := s
    obtain ⟨hl, h⟩ := h
    have sub1 := sub_enumerate
    have hT : Heap.IsTuple (Shared.heap ⟨hp, g, d, tk, os⟩) l items := ⟨_, hl, rfl, n, rfl⟩
    have go : ∀ {A' : Around} {E : Value → Shared → Prop} {Q : Value → Shared → Prop}, Q (.ref hp.objs.size) ⟨hp.push { cls := .type "tuple_iterator", data := .fields #[.ref l, .int 0 0] }, g, d, tk, os⟩ → wpAny (model prog w) A' (pyIter (.ref l)) Q E ⟨hp, g, d, tk, os⟩ :=
      fun q => wpAny_pyIter_tuple hT q
    wp_walk using AutoSeq1.wpAny_loadPart' hl
    refine wpAny_stack_any fun st => wpAny_pure ?_
    split
    · rename_i c _ _ _ _ _
      cases (c == Value.type "enumerate")
      · wp_walk using AutoSeq1.wpAny_loadPart' hl, go
        exact ⟨_, rfl, h⟩
      · wp_walk using AutoSeq1.wpAny_loadPart' hl, go
        exact ⟨_, rfl, h⟩
    · wp_walk using AutoSeq1.wpAny_loadPart' hl, go
      exact ⟨_, rfl, h⟩
theorem call_en1_tuple {prog : Program} {w : World} {A : Around} {E : Value → Shared → Prop} {s : Shared} {l : Addr} {items : Array Value} {Q : Value → Shared → Prop} (hL : s.heap.IsTuple l items)
    (h : ∀ h', IsEnum h' (s.heap.objs.size + 1) s.heap.objs.size 0 .none → h'.IsTupleIter s.heap.objs.size l 0 → (∀ b o, s.heap.get? b = some o → h'.get? b = some o) → Q (.ref (s.heap.objs.size + 1)) { s with heap := h' }) :
    wpAny (model prog w) A (call (.type "enumerate") [.ref l]) Q E s := by
  obtain ⟨⟨c, dct, dt, sl⟩, hl, hc, n, hd⟩ := hL
  replace hc : c = .type "tuple" := hc
  replace hd : dt = .seq items n := hd
  subst hc hd
  refine callType_new F.called_enumerate (by decide) (F.typeCall_enumerate_1 _) (F.newCall_enumerate_1 _) (fun obj => F.args_object_init_2 obj _) F.entry_enumerate_new (en1_tuple l items n dct sl) ⟨hl, ?_⟩
  generalize ho : ({ cls := .type "tuple_iterator", data := .fields #[.ref l, .int 0 0] } : Obj) = oi
  have hz : (s.heap.push oi).objs.size = s.heap.objs.size + 1 := Heap.size_push ..
  show _ ∧ _
  rw [hz]
  have he : IsEnum ((s.heap.push oi).push { cls := .type "enumerate", data := .fields #[.none, .bool false, .ref s.heap.objs.size, rawInt 0, .none, .none] }) (s.heap.objs.size + 1) s.heap.objs.size 0 .none := by
    have q := Heap.get?_push_size (s.heap.push oi) (o := { cls := .type "enumerate", data := .fields #[.none, .bool false, .ref s.heap.objs.size, rawInt 0, .none, .none] }) rfl
    rw [hz] at q
    exact q
  refine ⟨⟨_, he, rfl⟩, h _ he ⟨oi, Heap.get?_push_of_some _ (Heap.get?_push_size _ (by rw [← ho]; rfl)), by subst ho; rfl, by subst ho; rfl⟩ fun b o x => Heap.get?_push_of_some _ (Heap.get?_push_of_some _ x)⟩
end PySem
namespace DL
open PySem L2
/-- a tuple's items, each in a new pair with its index -/
def IteT (K : PySem.W.Frag) (a : Addr) : It :=
  ⟨fun i H => ∃ (xs : List V) (x : V), SqT K H a xs ∧ xs[i]? = some x, fun i H v H' => ∃ T x, v = .ref T ∧ H T = none ∧ H' = upd H T (.tup [.int (i : Nat), x]) ∧ ∀ xs, SqT K H a xs → xs[i]? = some x, fun i H => ∃ xs : List V, SqT K H a xs ∧ xs.length ≤ i⟩
theorem turn_enT {P : Program} {w : World} {K : PySem.W.Frag} {elts : List Expr} {kk : Nat} {tpos : Pos} (a e it : Addr) :
    Turn P w K (.Tuple elts kk tpos) (IteT K a) [e, it] e (fun i h => (∃ old, IsEnum h e it ((i : Nat) : Int) old) ∧ h.IsTupleIter it a i ∧ e ≠ it) where
  mem := by simp
  obj := fun i h st b hb => by
    obtain ⟨⟨old, he⟩, ⟨o, ho, hc, hd⟩, _⟩ := st
    have e' : b = e ∨ b = it := by simpa using hb
    rcases e' with z | z
    · subst z
      exact ⟨_, he, fun v q => nomatch q⟩
    · exact ⟨o, by rw [z]; exact ho, fun v q => by rw [hd] at q; cases q⟩
  keep := fun i h h' ⟨⟨old, he⟩, hi, hne⟩ k => ⟨⟨old, k e (by simp) _ he⟩, hi.at fun o q => k it (by simp) o q, hne⟩
  item := by
    intro X hP hw hK hc i pins s σ H E I hf ⟨⟨old, he⟩, hit, hne⟩ ⟨xs, x, hq, hx⟩
    subst hP hw hK
    obtain ⟨its, rv, p, hz⟩ := I.tuple hq
    obtain ⟨u, hu, ru⟩ := rv.get hx
    have hel : e < s.heap.objs.size := Heap.lt_size he
    have hil : it < s.heap.objs.size := by obtain ⟨_, q, _⟩ := hit; exact Heap.lt_size q
    have hlt : i < its.toArray.size := by
      have := (List.getElem?_eq_some_iff.mp hu).1
      simpa using this
    have hat : a ≠ it := fun z => by
      obtain ⟨o, ho, hc2, _⟩ := hit
      obtain ⟨o2, ho2, hc3, _⟩ := p
      rw [z, ho] at ho2
      cases ho2
      rw [hc2] at hc3
      exact absurd hc3 (by intro z; injection z with z; exact absurd z (by decide))
    have hae : e ≠ a := fun z => by
      obtain ⟨o2, ho2, hc3, _⟩ := p
      have he' : s.heap.get? e = some _ := he
      rw [z, ho2] at he'
      cases he'
      exact absurd hc3 (by intro z; injection z with z; exact absurd z (by decide))
    have D := Draws.tuple (prog := X.prog) (w := X.w) (A := X.A.in1) (I.ok.hd hc) it a hat its.toArray
    refine wpAny_pyNext_enum_itemD D he ⟨hit, p⟩ hlt hne (by simp only [List.mem_cons, List.not_mem_nil, or_false, not_or]; exact ⟨hne, hae⟩) fun y h' tk hP ho hst hT hsz hk => ?_
    have ey : y = u := by
      have h1 : its.toArray[i]? = some y := hP
      rw [show its.toArray[i]? = some u by simpa using hu] at h1
      exact (Option.some.inj h1).symm
    subst ey
    refine ⟨_, rfl, wpAny_letOwnedTupleGo_enum (s := { s with heap := h', toks := tk + 1 }) ho fun h'' he' sb => ?_⟩
    have hT2 : h''.get? s.heap.objs.size = some { cls := .type "tuple", data := .seq #[.int i tk, y] } := (sb.2 _ (Nat.ne_of_gt hel)).trans hT
    have new : ObjOk X.prog X.w (upd H s.heap.objs.size (.tup [.int (i : Nat), x])) h'' s.heap.objs.size (.tup [.int (i : Nat), x]) :=
      ⟨by show 2 ≤ sizeLine; decide, [.int i tk, y], .cons ⟨_, rfl⟩ (.cons ru .nil), ⟨_, hT2, rfl, _, rfl⟩⟩
    have I1 : L2.Inv X pins σ (upd H s.heap.objs.size (.tup [.int (i : Nat), x])) { s with heap := h'', toks := tk + 1 } :=
      I.turnedNew (ch := [e, it]) (fun b ob hb q => (sb.2 b (fun z => hb (by simp [z]))).trans (hk b ob (fun z => hb (by simp [z])) (fun z => hb (by simp [z])) q)) hf (Nat.le_refl _) new
    refine ⟨.ref s.heap.objs.size, _, I1, rfl, ⟨_, x, rfl, I.hok.fresh (Nat.le_refl _), rfl, fun ys hy => by rw [I.tuple_inj hy hq]; exact hx⟩, ⟨⟨y, ?_⟩, hst.1.at fun o q => (sb.2 it (Ne.symm hne)).trans q, hne⟩, fun b hb => ?_⟩
    · rw [show ((i + 1 : Nat) : Int) = (i : Int) + 1 by omega]
      exact he'
    · have e' : b = e ∨ b = it := by simpa using hb
      rw [upd_ne (Nat.ne_of_lt (by rcases e' with z | z <;> (rw [z]; assumption)))]
      exact (hf b hb).1
  done := by
    intro X hP hw hK hc i pins s σ H E I hf ⟨⟨old, he⟩, hit, hne⟩ ⟨xs, hq, hx⟩
    subst hP hw hK
    obtain ⟨its, rv, p, hz⟩ := I.tuple hq
    obtain ⟨f0, f1, f2, f3, f4, f5⟩ := hf it (by simp)
    have hl := rv.length
    have hT : s.TypeIs (.ref e) "enumerate" := ⟨_, he, rfl⟩
    unfold pyNext
    refine wpAny_bind (wpAny_attempt (wpAny_callSpecial?_slot (name := Str.ofString "__next__") hT F.slot_enumerate_next (wpAny_call_entry F.slot_enumerate_next hT F.entry_enumerate_next ?_ (F.args_enumerate_next_1 _))))
    show wpAny _ _ (field (.ref e) 2 >>= _) _ _ _
    refine wpAny_bind (wpAny_field he rfl (x := .ref it) rfl ?_)
    refine wpAny_bind (wpAny_nextOf_tuple_end (I.ok.hd hc) hit p (by simp; omega) fun h' y hk hy => ?_)
    obtain ⟨o, ho, hcl⟩ := hy
    refine wpAny_bind (wpAny_isInstance (T := "StopIteration") (b := true) ⟨o, ho, hcl⟩ isSubtype_stop ?_)
    exact wpAny_pure ⟨rfl, I.turned (t' := s.toks) (fun b o hb q => hk b o hb q) f0 f1 f3 f4 f5⟩
  self := fun A i s Q E ⟨⟨_, he⟩, _⟩ h => wpAny_pyIter_enum he h
section
variable {X : Cx} {tg : Expr} {c : Cd X.K} {vs : List Nat}
def iEnA (K : PySem.W.Frag) (ta : TA) : TI := fun σ H R => ta σ H fun us H1 => ∃ a xs, us = [.ref a] ∧ ((SqL K H1 a xs ∧ R (Ite K a) H1) ∨ (SqT K H1 a xs ∧ R (IteT K a) H1))
theorem pi_en {e : Expr} {ta : TA} {p pos tpos : Pos} {elts : List Expr} {kk : Nat} (hg : Gl X "enumerate") (hm : X.mg "enumerate" = none) (ha : PA X [e] ta) (hs : starEach [e] X.env = [(false, eval e X.env)] := by rfl) :
    PI X (.Tuple elts kk tpos) (.Call (.Name "enumerate" p) [e] [] pos) (iEnA X.K ta) := by
  refine ⟨fun pins s σ H R I h => PyProof.Rows.Call_ (ld_blt I hg hm PyProof.Rows.boot_enumerate (PyProof.Rows.callWith_type1 (thn (ha.run pos pins s σ H _ I h) fun us s1 ⟨vs, H1, I1, r1, a, xs, ex, q1⟩ => ?_) hs rfl))⟩
  subst ex
  cases r1 with
  | cons r rr =>
    cases rr
    cases r
    have fin : ∀ b, b ∈ [s1.heap.objs.size + 1, s1.heap.objs.size] → FpOk X pins H1 b := fun b hb => by
      have hle : s1.heap.objs.size ≤ b := by
        have e' : b = s1.heap.objs.size + 1 ∨ b = s1.heap.objs.size := by simpa using hb
        omega
      exact I1.fpOk hle (I1.hok.fresh hle)
    rcases q1 with ⟨hq, q⟩ | ⟨hq, q⟩
    · obtain ⟨its, rv, p', hz⟩ := I1.list hq
      refine call_enumerate_list p'.isList fun h' he hit hsz hk => wpAny_pyIter_enum he ?_
      exact ⟨s1.heap.objs.size + 1, [s1.heap.objs.size + 1, s1.heap.objs.size], _, _, H1, rfl, I1.kept (t' := s1.toks) hk, turn_enum a _ _, ⟨⟨.none, he⟩, hit, Nat.succ_ne_self _⟩, fin, q⟩
    · obtain ⟨its, rv, p', hz⟩ := I1.tuple hq
      refine call_en1_tuple p' fun h' he hit hk => wpAny_pyIter_enum he ?_
      exact ⟨s1.heap.objs.size + 1, [s1.heap.objs.size + 1, s1.heap.objs.size], _, _, H1, rfl, I1.kept (t' := s1.toks) hk, turn_enT a _ _, ⟨⟨.none, he⟩, hit, Nat.succ_ne_self _⟩, fin, q⟩
/-- a list or a tuple -/
def iSeq (K : PySem.W.Frag) (tl : TE) : TI := fun σ H R => tl σ H fun x H1 => ∃ a xs, x = .ref a ∧ ((SqL K H1 a xs ∧ R (Itl K a) H1) ∨ (SqT K H1 a xs ∧ R (Itt K a) H1))
theorem pi_seq {l : Expr} {tl : TE} (hl : PE X l tl) : PI X tg l (iSeq X.K tl) := by
  refine ⟨fun pins s σ H R I h => thn (hl.run pins s σ H _ I h) fun v s1 ⟨x, H1, I1, r1, a, xs, ex, q⟩ => ?_⟩
  subst ex
  cases r1
  have fin : ∀ b ∈ [s1.heap.objs.size], FpOk X pins H1 b := fun b hb => by
    rw [List.mem_singleton.mp hb]
    exact I1.fpOk (Nat.le_refl _) (I1.hok.fresh (Nat.le_refl _))
  rcases q with ⟨hq, q⟩ | ⟨hq, q⟩
  · obtain ⟨its, rv, p, hz⟩ := I1.list hq
    exact wpAny_pyIter_list p.isList ⟨_, [s1.heap.objs.size], _, _, H1, rfl, I1.kept (t' := s1.toks) fun b o e => Heap.get?_push_of_some _ e, turn_list a _, ⟨_, Heap.get?_push_size _ rfl, rfl, rfl⟩, fin, q⟩
  · obtain ⟨its, rv, p, hz⟩ := I1.tuple hq
    exact wpAny_pyIter_tuple (show s1.heap.IsTuple a its.toArray from p) ⟨_, [s1.heap.objs.size], _, _, H1, rfl, I1.kept (t' := s1.toks) fun b o e => Heap.get?_push_of_some _ e, turn_tuple a _, ⟨_, Heap.get?_push_size _ rfl, rfl, rfl⟩, fin, q⟩
theorem pi_wk {it : Expr} {t t' : TI} (h : PI X tg it t) (k : ∀ σ H R, t' σ H R → t σ H R) : PI X tg it t' := ⟨fun pins s σ H R I q => h.run pins s σ H R I (k σ H R q)⟩
/-! ### what is walked, by data -/
def seqOf : D → Option (List D)
  | .lst ds => some ds
  | .frz ds => some ds
  | .tup ds => some ds
  | _ => none
def fSeq (f : Env → W D) : Env → W (List D) := fun δ => bd (f δ) fun d => opt (seqOf d) fun ds => chk (D.imms ds = true) (pu ds)
theorem Hs.sqL {F : List Addr} {H1 H : Hp} {a : Addr} {xs : List V} (h : Hs F H1 H) (r : H1 a = some (.lst xs)) (ha : a ∈ F) : SqL X.K H a xs := .inl (.inl (h a _ r (.inr ha)))
theorem Hs.sqT {F : List Addr} {H1 H : Hp} {a : Addr} {xs : List V} (h : Hs F H1 H) (r : SqT X.K H1 a xs) : SqT X.K H a xs := by
  rcases r with (r | ⟨o, r⟩) | r
  · exact .inl (.inl (h _ _ r (.inl fun z => z)))
  · exact .inl (.inr ⟨o, h _ _ r (.inl fun z => z)⟩)
  · exact .inr r
theorem Hs.item {F : List Addr} {H1 H : Hp} {xs : List V} {ds : List D} (h : Hs F H1 H) (ok : c.G.ok H1) (r : RpA c.G H1 xs ds []) {i : Nat} (hi : i < ds.length) : ∃ x d, xs[i]? = some x ∧ ds[i]? = some d ∧ Rp c.G H x d [] := by
  obtain ⟨v, F', e, rv, s⟩ := r.get (List.getElem?_eq_getElem hi)
  have e0 : F' = [] := List.eq_nil_iff_forall_not_mem.mpr fun a z => nomatch s a z
  subst e0
  exact ⟨v, _, e, List.getElem?_eq_getElem hi, Rp.hd _ _ _ rv ⟨ok, fun b o q m => h b o q (.inl m), fun _ _ _ z => nomatch z⟩⟩
theorem it_list {F : List Addr} {H1 : Hp} {a : Addr} {xs : List V} {ds : List D} (ok : c.G.ok H1) (st : ∀ H, Hs F H1 H → SqL X.K H a xs) (r : RpA c.G H1 xs ds []) : ItOk c.G (Itl X.K a) ds F H1 where
  go := fun i H h hi => let ⟨x, _, e, _⟩ := h.item ok r hi; ⟨xs, x, st H h, e⟩
  stop := fun H h => ⟨xs, st H h, Nat.le_of_eq r.length⟩
  yld := fun i H x H' h okH hi ⟨e, y⟩ => by
    subst e
    obtain ⟨x', d, e1, e2, rx⟩ := h.item ok r hi
    have := y xs (st _ h)
    rw [e1] at this
    cases this
    exact ⟨Kp.refl okH, d, e2, rx⟩
theorem it_tup {F : List Addr} {H1 : Hp} {a : Addr} {xs : List V} {ds : List D} (ok : c.G.ok H1) (st : SqT X.K H1 a xs) (r : RpA c.G H1 xs ds []) : ItOk c.G (Itt X.K a) ds F H1 where
  go := fun i H h hi => let ⟨x, _, e, _⟩ := h.item ok r hi; ⟨xs, x, h.sqT st, e⟩
  stop := fun H h => ⟨xs, h.sqT st, Nat.le_of_eq r.length⟩
  yld := fun i H x H' h okH hi ⟨e, y⟩ => by
    subst e
    obtain ⟨x', d, e1, e2, rx⟩ := h.item ok r hi
    have := y xs (h.sqT st)
    rw [e1] at this
    cases this
    exact ⟨Kp.refl okH, d, e2, rx⟩
theorem id_seq {l : Expr} {fa : Env → W D} (h : PE X l (tD c vs fa)) : PI X tg l (tI c vs (fSeq fa)) := pi_wk (pi_seq h) fun σ H R ⟨fp, δ, Qd, e, hf, k⟩ => by
  refine ⟨fp, δ, fun d => opt (seqOf d) (fun ds => chk (D.imms ds = true) (pu ds)) Qd c.xq, e, hf, fun d ⟨ds, hs, im, q⟩ v H' F p r => ?_⟩
  cases r with
  | @lst a xs _ F' ex ax =>
    cases hs
    have e0 := RpA.imm_nil _ _ _ ax im
    subst e0
    exact ⟨a, xs, rfl, .inl ⟨.inl (.inl ex), k _ q _ _ _ p (it_list p.kp.ok (fun H h => h.sqL ex (by simp)) ax)⟩⟩
  | @frz a xs _ ex ax =>
    cases hs
    exact ⟨a, xs, rfl, .inl ⟨ex.sq, k _ q _ _ _ p (it_list p.kp.ok (fun H h => (ex.mono fun b o z m => h b o z (.inl m)).sq) ax)⟩⟩
  | @tup a xs _ F' ex ax =>
    cases hs
    have e0 := RpA.imm_nil _ _ _ ax im
    subst e0
    exact ⟨a, xs, rfl, .inr ⟨ex, k _ q _ _ _ p (it_tup p.kp.ok ex ax)⟩⟩
  | _ => cases hs
/-- range(n), range(a, b) -/
def ints1 : List D → Option Int
  | [.int i] => some i
  | _ => none
def ints2 : List D → Option (Int × Int)
  | [.int i, .int j] => some (i, j)
  | _ => none
theorem ints1_eq {ds : List D} {i : Int} (h : ints1 ds = some i) : ds = [.int i] := by
  unfold ints1 at h
  split at h
  · cases h; rfl
  · cases h
theorem ints2_eq {ds : List D} {i j : Int} (h : ints2 ds = some (i, j)) : ds = [.int i, .int j] := by
  unfold ints2 at h
  split at h
  · cases h; rfl
  · cases h
def rngD (lo : Int) (n : Nat) : List D := (List.range n).map fun k => .int (lo + (k : Nat))
theorem it_rng {F : List Addr} {H1 : Hp} {lo : Int} {n : Nat} : ItOk c.G (Itr lo n) (rngD lo n) F H1 where
  go := fun i H h hi => by
    have q : i < n := by simpa [rngD] using hi
    exact q
  stop := fun H h => Nat.le_of_eq (by simp [rngD])
  yld := fun i H x H' h okH hi ⟨e, y⟩ => by
    subst e y
    have hi' : i < n := by simpa [rngD] using hi
    exact ⟨Kp.refl okH, .int (lo + (i : Nat)), by simp [rngD, hi'], .int _⟩
def fRng1 (fs : Env → W (List D)) : Env → W (List D) := fun δ => bd (fs δ) fun ds => opt (ints1 ds) fun j => chk (-(2 ^ 62) ≤ j ∧ j < 2 ^ 62) (pu (rngD 0 j.toNat))
def fRng2 (fs : Env → W (List D)) : Env → W (List D) := fun δ => bd (fs δ) fun ds => opt (ints2 ds) fun ij => chk (-(2 ^ 62) ≤ ij.1 ∧ ij.1 < 2 ^ 62 ∧ -(2 ^ 62) ≤ ij.2 ∧ ij.2 < 2 ^ 62) (pu (rngD ij.1 (ij.2 - ij.1).toNat))
variable {fs : Env → W (List D)}
theorem id_rng1 {a : Expr} {p pos : Pos} (hg : Gl X "range") (hm : X.mg "range" = none) (ha : PA X [a] (tA c vs fs)) (hs : starEach [a] X.env = [(false, eval a X.env)] := by rfl) : PI X tg (.Call (.Name "range" p) [a] [] pos) (tI c [] (fRng1 fs)) := pi_wk (pi_range1 hg hm ha hs) fun σ H R ⟨fp, δ, Qd, e, hf, k⟩ => by
  refine ⟨fp, δ, fun ds => opt (ints1 ds) (fun j => chk (-(2 ^ 62) ≤ j ∧ j < 2 ^ 62) (pu (rngD 0 j.toNat))) Qd c.xq, e, hf, fun ds ⟨j, hj, ⟨h1, h2⟩, q⟩ us H' F p r => ?_⟩
  rw [ints1_eq hj] at r
  obtain ⟨v, rfl, rv⟩ := r.one
  obtain ⟨rfl, _⟩ := rv.intI
  exact ⟨j, rfl, h1, h2, k _ q _ _ [] (.kpnil p.kp) it_rng⟩
theorem id_rng2 {a b : Expr} {p pos : Pos} (hg : Gl X "range") (hm : X.mg "range" = none) (ha : PA X [a, b] (tA c vs fs)) (hs : starEach [a, b] X.env = [(false, eval a X.env), (false, eval b X.env)] := by rfl) (hs2 : starEach [b] X.env = [(false, eval b X.env)] := by rfl) : PI X tg (.Call (.Name "range" p) [a, b] [] pos) (tI c [] (fRng2 fs)) := pi_wk (pi_range2 hg hm ha hs hs2) fun σ H R ⟨fp, δ, Qd, e, hf, k⟩ => by
  refine ⟨fp, δ, fun ds => opt (ints2 ds) (fun ij => chk (-(2 ^ 62) ≤ ij.1 ∧ ij.1 < 2 ^ 62 ∧ -(2 ^ 62) ≤ ij.2 ∧ ij.2 < 2 ^ 62) (pu (rngD ij.1 (ij.2 - ij.1).toNat))) Qd c.xq, e, hf, fun ds ⟨⟨i, j⟩, hj, ⟨h1, h2, h3, h4⟩, q⟩ us H' F p r => ?_⟩
  rw [ints2_eq hj] at r
  obtain ⟨v, v', F1, F2, rfl, r1, r2, _⟩ := r.two
  obtain ⟨rfl, _⟩ := r1.intI
  obtain ⟨rfl, _⟩ := r2.intI
  exact ⟨i, j, rfl, ⟨h1, h2, h3, h4⟩, k _ q _ _ [] (.kpnil p.kp) it_rng⟩
/-- enumerate(xs) -/
def enD (n : Nat) : List D → List D
  | [] => []
  | d :: ds => .tup [.int (n : Nat), d] :: enD (n + 1) ds
theorem enD_len : ∀ (ds : List D) (n : Nat), (enD n ds).length = ds.length
  | [], _ => rfl
  | d :: ds, n => by simp [enD, enD_len ds]
theorem enD_get : ∀ (ds : List D) (n i : Nat) (d : D), ds[i]? = some d → (enD n ds)[i]? = some (.tup [.int ((n + i : Nat) : Nat), d])
  | [], _, _, _, h => by simp at h
  | d' :: ds, n, 0, d, h => by simp at h; subst h; simp [enD]
  | d' :: ds, n, i + 1, d, h => by
    have q := enD_get ds (n + 1) i d (by simpa using h)
    rw [show n + 1 + i = n + (i + 1) by omega] at q
    simpa only [enD, List.getElem?_cons_succ] using q
def one1 : List D → Option D
  | [d] => some d
  | _ => none
theorem one1_eq {ds : List D} {d : D} (h : one1 ds = some d) : ds = [d] := by
  unfold one1 at h
  split at h
  · cases h; rfl
  · cases h
def fEn (fs : Env → W (List D)) : Env → W (List D) := fun δ => bd (fs δ) fun ds => opt ((one1 ds).bind seqOf) fun es => chk (D.imms es = true) (pu (enD 0 es))
theorem it_pair {F : List Addr} {H1 : Hp} {J : It} {ds : List D} {n : Nat} (hn : ds.length = n) (go : ∀ i H, Hs F H1 H → i < n → J.go i H) (stop : ∀ H, Hs F H1 H → J.stop n H)
    (yld : ∀ i H v H', Hs F H1 H → c.G.ok H → i < n → J.yld i H v H' → ∃ T x y, v = .ref T ∧ H T = none ∧ H' = upd H T (.tup [x, y]) ∧ ∃ d d', ds[i]? = some (.tup [d, d']) ∧ Rp c.G H x d [] ∧ Rp c.G H y d' []) : ItOk c.G J ds F H1 where
  go := fun i H h hi => go i H h (hn ▸ hi)
  stop := fun H h => hn ▸ stop H h
  yld := fun i H v H' h ok hi y => by
    obtain ⟨T, x, y, rfl, hT, rfl, d, d', e, r1, r2⟩ := yld i H v H' h ok (hn ▸ hi) y
    exact ⟨Kp.laid ok hT _, _, e, .tup (SqT.of upd_same) (.cons (r1.laid ok (fun _ z => nomatch z) hT _) (.cons (r2.laid ok (fun _ z => nomatch z) hT _) .nil))⟩
theorem id_en {e : Expr} {p pos tpos : Pos} {elts : List Expr} {kk : Nat} (hg : Gl X "enumerate") (hm : X.mg "enumerate" = none) (ha : PA X [e] (tA c vs fs)) (hs : starEach [e] X.env = [(false, eval e X.env)] := by rfl) :
    PI X (.Tuple elts kk tpos) (.Call (.Name "enumerate" p) [e] [] pos) (tI c vs (fEn fs)) := pi_wk (pi_en hg hm ha hs) fun σ H R ⟨fp, δ, Qd, e, hf, k⟩ => by
  refine ⟨fp, δ, fun ds => opt ((one1 ds).bind seqOf) (fun es => chk (D.imms es = true) (pu (enD 0 es))) Qd c.xq, e, hf, fun ds ⟨es, he, im, q⟩ us H' F p r => ?_⟩
  obtain ⟨d, hd, he⟩ : ∃ d, one1 ds = some d ∧ seqOf d = some es := by
    cases z : one1 ds with
    | none => rw [z] at he; cases he
    | some d => exact ⟨d, rfl, by rw [z] at he; exact he⟩
  rw [one1_eq hd] at r
  obtain ⟨v, rfl, rv⟩ := r.one
  have row : ∀ {H : Hp} {xs : List V} {i : Nat}, Hs F H' H → RpA c.G H' xs es [] → i < es.length → ∃ x d, xs[i]? = some x ∧ (enD 0 es)[i]? = some (.tup [.int (i : Nat), d]) ∧ Rp c.G H x d [] := fun {H xs i} h ax hi => by
    obtain ⟨x, d, e1, e2, rx⟩ := h.item p.kp.ok ax hi
    have q := enD_get es 0 i d e2
    rw [Nat.zero_add] at q
    exact ⟨x, d, e1, q, rx⟩
  have lists : ∀ {a : Addr} {xs : List V}, (∀ H, Hs F H' H → SqL X.K H a xs) → RpA c.G H' xs es [] → ItOk c.G (Ite X.K a) (enD 0 es) F H' := fun {a xs} st ax =>
    it_pair (enD_len es 0) (fun i H h hi => let ⟨x, _, e, _⟩ := row h ax hi; ⟨xs, x, st H h, e⟩) (fun H h => ⟨xs, st H h, Nat.le_of_eq ax.length⟩) fun i H v H2 h ok hi ⟨T, x, e1, e2, e3, y⟩ => by
      obtain ⟨x', d, e4, e5, rx⟩ := row h ax hi
      have := y xs (st H h)
      rw [e4] at this
      cases this
      exact ⟨T, _, _, e1, e2, e3, _, _, e5, .int _, rx⟩
  cases rv with
  | @lst a xs _ F' ex ax =>
    cases he
    have e0 := RpA.imm_nil _ _ _ ax im
    subst e0
    exact ⟨a, xs, rfl, .inl ⟨.inl (.inl ex), k _ q _ _ _ p (lists (fun H h => h.sqL ex (by simp)) ax)⟩⟩
  | @frz a xs _ ex ax =>
    cases he
    exact ⟨a, xs, rfl, .inl ⟨ex.sq, k _ q _ _ _ p (lists (fun H h => (ex.mono fun b o z m => h b o z (.inl m)).sq) ax)⟩⟩
  | @tup a xs _ F' ex ax =>
    cases he
    have e0 := RpA.imm_nil _ _ _ ax im
    subst e0
    refine ⟨a, xs, rfl, .inr ⟨ex, k _ q _ _ _ p (it_pair (enD_len es 0) (fun i H h hi => let ⟨x, _, e, _⟩ := row h ax hi; ⟨xs, x, h.sqT ex, e⟩) (fun H h => ⟨xs, h.sqT ex, Nat.le_of_eq ax.length⟩) fun i H v H2 h ok hi ⟨T, x, e1, e2, e3, y⟩ => ?_)⟩⟩
    obtain ⟨x', d, e4, e5, rx⟩ := row h ax hi
    have := y xs (h.sqT ex)
    rw [e4] at this
    cases this
    exact ⟨T, _, _, e1, e2, e3, _, _, e5, .int _, rx⟩
  | _ => cases he
/-- zip(xs, ys), two lists or two tuples -/
def zipD : List D → List D → List D
  | d :: ds, e :: es => .tup [d, e] :: zipD ds es
  | _, _ => []
theorem zipD_len : ∀ (ds es : List D), (zipD ds es).length = min ds.length es.length
  | [], es => by simp [zipD]
  | d :: ds, [] => by simp [zipD]
  | d :: ds, e :: es => by
    simp only [zipD, List.length_cons, zipD_len ds es]
    omega
theorem zipD_get : ∀ (ds es : List D) (i : Nat) (d e : D), ds[i]? = some d → es[i]? = some e → (zipD ds es)[i]? = some (.tup [d, e])
  | [], _, _, _, _, h, _ => by simp at h
  | _ :: _, [], _, _, _, _, h => by simp at h
  | d' :: ds, e' :: es, 0, d, e, h, h' => by simp at h h'; subst h h'; simp [zipD]
  | d' :: ds, e' :: es, i + 1, d, e, h, h' => by
    have := zipD_get ds es i d e (by simpa using h) (by simpa using h')
    simpa [zipD] using this
def zip2 : List D → Option (List D × List D)
  | [.tup ds, .tup es] => some (ds, es)
  | [.lst ds, .lst es] => some (ds, es)
  | _ => none
def fZip (fs : Env → W (List D)) : Env → W (List D) := fun δ => bd (fs δ) fun ds => opt (zip2 ds) fun p => chk (D.imms p.1 = true ∧ D.imms p.2 = true) (pu (zipD p.1 p.2))
theorem id_zip {e e2 : Expr} {p pos tpos : Pos} {elts : List Expr} {kk : Nat} (hg : Gl X "zip") (hm : X.mg "zip" = none) (ha : PA X [e, e2] (tA c vs fs)) (hs : starEach [e, e2] X.env = (false, eval e X.env) :: starEach [e2] X.env := by rfl) (hpl : (backTo pos (starEach [e2] X.env)).any (·.1) = false := by rfl) :
    PI X (.Tuple elts kk tpos) (.Call (.Name "zip" p) [e, e2] [] pos) (tI c vs (fZip fs)) := pi_wk (RZ.pi_zipA hg hm ha hs hpl) fun σ H R ⟨fp, δ, Qd, e, hf, k⟩ => by
  refine ⟨fp, δ, fun ds => opt (zip2 ds) (fun p => chk (D.imms p.1 = true ∧ D.imms p.2 = true) (pu (zipD p.1 p.2))) Qd c.xq, e, hf, fun ds ⟨⟨as, bs⟩, hz, ⟨im, im'⟩, q⟩ us H' F p r => ?_⟩
  unfold zip2 at hz
  split at hz
  · cases hz
    obtain ⟨v, v', F1, F2, rfl, r1, r2, eF⟩ := r.two
    obtain ⟨a, xs, rfl, sx, ax⟩ := r1.tupI
    obtain ⟨b, ys, rfl, sy, ay⟩ := r2.tupI
    have e1 := RpA.imm_nil _ _ _ ax im
    have e2 := RpA.imm_nil _ _ _ ay im'
    subst e1 e2
    refine ⟨a, b, xs, ys, rfl, .inr ⟨sx, sy, k _ q _ _ _ p (it_pair (zipD_len as bs) (fun i H h hi => ?_) (fun H h => ⟨xs, ys, h.sqT sx, h.sqT sy, by rw [ax.length, ay.length]; omega⟩) fun i H v H2 h ok hi ⟨T, x, y, e1, e2, e3, y1, y2⟩ => ?_)⟩⟩
    · obtain ⟨x, _, e1, _⟩ := h.item p.kp.ok ax (i := i) (by omega)
      obtain ⟨y, _, e2, _⟩ := h.item p.kp.ok ay (i := i) (by omega)
      exact ⟨xs, ys, x, y, h.sqT sx, h.sqT sy, e1, e2⟩
    · obtain ⟨x', d, e4, e5, rx⟩ := h.item p.kp.ok ax (i := i) (by omega)
      obtain ⟨y', d', e6, e7, ry⟩ := h.item p.kp.ok ay (i := i) (by omega)
      have h1 := y1 xs (h.sqT sx)
      have h2 := y2 ys (h.sqT sy)
      rw [e4] at h1; cases h1
      rw [e6] at h2; cases h2
      exact ⟨T, _, _, e1, e2, e3, _, _, zipD_get _ _ _ _ _ e5 e7, rx, ry⟩
  · cases hz
    obtain ⟨v, v', F1, F2, rfl, r1, r2, eF⟩ := r.two
    cases r1 with
    | @lst a xs _ F3 sx ax =>
      cases r2 with
      | @lst b ys _ F4 sy ay =>
        have e1 := RpA.imm_nil _ _ _ ax im
        have e2 := RpA.imm_nil _ _ _ ay im'
        subst e1 e2
        have ia : a ∈ F := by rw [eF]; simp
        have ib : b ∈ F := by rw [eF]; simp
        refine ⟨a, b, xs, ys, rfl, .inl ⟨.inl (.inl sx), .inl (.inl sy), k _ q _ _ _ p (it_pair (zipD_len as bs) (fun i H h hi => ?_) (fun H h => ⟨xs, ys, h.sqL sx ia, h.sqL sy ib, by rw [ax.length, ay.length]; omega⟩) fun i H v H2 h ok hi ⟨T, x, y, e1, e2, e3, y1, y2⟩ => ?_)⟩⟩
        · obtain ⟨x, _, e1, _⟩ := h.item p.kp.ok ax (i := i) (by omega)
          obtain ⟨y, _, e2, _⟩ := h.item p.kp.ok ay (i := i) (by omega)
          exact ⟨xs, ys, x, y, h.sqL sx ia, h.sqL sy ib, e1, e2⟩
        · obtain ⟨x', d, e4, e5, rx⟩ := h.item p.kp.ok ax (i := i) (by omega)
          obtain ⟨y', d', e6, e7, ry⟩ := h.item p.kp.ok ay (i := i) (by omega)
          have h1 := y1 xs (h.sqL sx ia)
          have h2 := y2 ys (h.sqL sy ib)
          rw [e4] at h1; cases h1
          rw [e6] at h2; cases h2
          exact ⟨T, _, _, e1, e2, e3, _, _, zipD_get _ _ _ _ _ e5 e7, rx, ry⟩
  · cases hz
end
end DL
namespace DL
open PySem L2
/-! ### comprehensions -/
def wipeE (δ : Env) : List Nat → Env
  | [] => δ
  | v :: vs => (wipeE δ vs).set v none
theorem wipeE_len (δ : Env) : ∀ vs, (wipeE δ vs).length = δ.length
  | [] => rfl
  | v :: vs => by unfold wipeE; rw [List.length_set, wipeE_len δ vs]
theorem wipe_get (σ : St) (j : Nat) : ∀ vs : List Nat, (wipe σ vs)[j]? = if j ∈ vs then (if j < σ.length then some none else none) else σ[j]?
  | [] => by simp [wipe]
  | v :: vs => by
    unfold wipe
    by_cases h : j = v
    · subst h
      rw [if_pos (by simp)]
      by_cases hl : j < σ.length
      · rw [if_pos hl, List.getElem?_set_self (by rw [wipe_length]; exact hl)]
      · rw [if_neg hl]
        exact List.getElem?_eq_none_iff.mpr (by rw [List.length_set, wipe_length]; omega)
    · rw [List.getElem?_set_ne (fun z => h z.symm), wipe_get σ j vs]
      simp [h]
theorem gt_wipe (δ : Env) (j : Nat) : ∀ vs : List Nat, gt (wipeE δ vs) j = if j ∈ vs then none else gt δ j
  | [] => by simp [wipeE]
  | v :: vs => by
    unfold wipeE
    by_cases hl : v < (wipeE δ vs).length
    · rw [gt_set hl, gt_wipe δ j vs]
      by_cases h : j = v
      · simp [h]
      · simp [h]
    · have e : (wipeE δ vs).set v none = wipeE δ vs := List.set_eq_of_length_le (by omega)
      rw [e, gt_wipe δ j vs]
      by_cases h : j = v
      · subst h
        rw [if_pos (show j ∈ j :: vs by simp)]
        split
        · rfl
        · unfold gt
          rw [List.getElem?_eq_none_iff.mpr (by rw [wipeE_len] at hl; omega)]
          rfl
      · simp [h]
section
variable {X : Cx} {c : Cd X.K} {vs : List Nat}
theorem EnvOk.wipe {fp : Nat → List Addr} {H : Hp} {σ : St} {δ : Env} (e : EnvOk c fp H σ δ) (vs : List Nat) : EnvOk c (fun j => if j ∈ vs then [] else fp j) H (L2.wipe σ vs) (wipeE δ vs) where
  ok := e.ok
  len := by rw [wipe_length, wipeE_len]; exact e.len
  rep := fun j d q => by
    rw [gt_wipe] at q
    by_cases h : j ∈ vs
    · rw [if_pos h] at q; cases q
    · rw [if_neg h] at q
      obtain ⟨v, hv, r⟩ := e.rep j d q
      exact ⟨v, by rw [wipe_get, if_neg h]; exact hv, by rw [if_neg h]; exact r⟩
  emp := fun j q => by
    by_cases h : j ∈ vs
    · rw [if_pos h]
    · rw [if_neg h]; rw [gt_wipe, if_neg h] at q; exact e.emp j q
  nos := fun j a ha => by
    by_cases h : j ∈ vs
    · rw [if_pos h] at ha; cases ha
    · rw [if_neg h] at ha; exact e.nos j a ha
  frs := fun j ho a ha => by
    by_cases h : j ∈ vs
    · rw [if_pos h] at ha; cases ha
    · rw [if_neg h] at ha; exact e.frs j ho a ha
  ndp := fun j ho => by
    by_cases h : j ∈ vs
    · rw [if_pos h]; exact List.nodup_nil
    · rw [if_neg h]; exact e.ndp j ho
  sep := fun j ho l hl a ha => by
    by_cases h : j ∈ vs
    · rw [if_pos h] at ha; cases ha
    · rw [if_neg h] at ha
      by_cases h2 : l ∈ vs
      · rw [if_pos h2]; exact fun z => nomatch z
      · rw [if_neg h2]; exact e.sep j ho l hl a ha
  frm := e.frm
def lcW (h : D → Env → W Env) (t : Env → W Bool) (f : Env → W D) (δ : Env) : List D → List D → W (List D)
  | [], acc => pu acc
  | d :: ds, acc => bd (h d δ) fun δ1 => bd (t δ1) fun b => if b = true then bd (f δ1) fun e => chk (e.imm = true ∧ acc.length < sizeLine) (lcW h t f δ ds (acc ++ [e])) else lcW h t f δ ds acc
theorem lcW_step (h : D → Env → W Env) (t : Env → W Bool) (f : Env → W D) (δ : Env) (d : D) (ds acc : List D) (k : List D → W D) : bd (lcW h t f δ (d :: ds) acc) k =
    bd (h d δ) fun δ1 => bd (t δ1) fun b => if b = true then bd (f δ1) fun e => chk (e.imm = true ∧ acc.length < sizeLine) (bd (lcW h t f δ ds (acc ++ [e])) k) else bd (lcW h t f δ ds acc) k := by
  show (bd (h d δ) fun δ1 => bd (bd (t δ1) _) k) = _
  congr 1
  funext δ1
  rw [bd_bd]
  congr 1
  funext b
  cases b <;> rfl
def dLc (vs : List Nat) (fi : Env → W (List D)) (h : D → Env → W Env) (t : Env → W Bool) (f : Env → W D) : Env → W D := fun δ => bd (fi δ) fun ds => bd (lcW h t f (wipeE δ vs) ds []) fun es => pu (.lst es)
def dYes : Env → W Bool := fun _ => pu true
theorem tLc_of {wv : List Nat} {vi : List Nat} {fi : Env → W (List D)} {h : D → Env → W Env} {t : Env → W Bool} {f : Env → W D} (hw : ∀ i ∈ wv, i ∈ vs) {σ : St} {H : Hp} {Q : VK} (hq : tN c (dLc vs fi h t f) σ H Q) :
    tLc (tI c vi fi) (tG c wv h) (tT c t) (tD c va f) vs σ H Q := by
  obtain ⟨fp, δ, Qd, e, hf, k⟩ := hq
  refine ⟨fp, δ, fun ds => bd (lcW h t f (wipeE δ vs) ds []) (fun es => pu (D.lst es)) Qd c.xq, e, hf, fun ds qds J H1 F p it Dn hD => ?_⟩
  have e1 := e.kp p.kp
  have DS := notS0 p.kp.ok hD
  -- the state behind i turns
  have start : Kp c.G H1 (upd H1 Dn (.lst [])) := Kp.laid p.kp.ok hD _
  refine ⟨fun i m H' => m = ds.length - i ∧ i ≤ ds.length ∧ ∃ acc av, H' Dn = some (.lst av) ∧ RpA c.G H' av acc [] ∧ Kp c.G H1 H' ∧ bd (lcW h t f (wipeE δ vs) (ds.drop i) acc) (fun es => pu (D.lst es)) Qd c.xq,
    ⟨ds.length, rfl, Nat.zero_le _, [], [], upd_same, .nil, start, qds⟩, ?_⟩
  rintro i m H' ⟨rfl, hi, acc, av, hav, ra, kp, q⟩
  have st : Hs F H1 H' := fun b o z mm => by
    refine kp.kp b o z ?_
    rcases mm with mm | mm
    · exact notS p.kp.ok z mm
    · exact p.nos b mm
  by_cases hlt : i < ds.length
  · refine .inr ⟨it.go i H' st hlt, fun H2 => ∃ acc av, H2 Dn = some (.lst av) ∧ RpA c.G H2 av acc [] ∧ Kp c.G H1 H2 ∧ bd (lcW h t f (wipeE δ vs) (ds.drop (i + 1)) acc) (fun es => pu (D.lst es)) Qd c.xq, fun H2 z => ⟨ds.length - (i + 1), by omega, rfl, hlt, z⟩, fun x H2 y => ?_⟩
    obtain ⟨kp2, d, hd', r⟩ := it.yld i H' x H2 st kp.ok hlt y
    have ed : ds.drop i = d :: ds.drop (i + 1) := by
      rw [List.drop_eq_getElem_cons hlt]
      congr 1
      rw [List.getElem?_eq_getElem hlt] at hd'
      exact Option.some.inj hd'
    rw [ed] at q
    have k12 := kp.trans kp2
    have ew := (e1.kp k12).wipe vs
    have hav2 := kp2.kp _ _ hav DS
    have ra2 := ra.kp kp2 (fun _ z => nomatch z)
    refine ⟨_, wipeE δ vs, d, [], fun δ1 => bd (t δ1) (fun b => if b = true then bd (f δ1) fun e => chk (e.imm = true ∧ acc.length < sizeLine) (bd (lcW h t f (wipeE δ vs) (ds.drop (i + 1)) (acc ++ [e])) fun es => pu (D.lst es)) else bd (lcW h t f (wipeE δ vs) (ds.drop (i + 1)) acc) fun es => pu (D.lst es)) Qd c.xq, ew, r, ?_, fun δ1 q1 fp1 σ1 e2 s2 => ?_⟩
    · rw [lcW_step] at q
      exact q
    · have hwe : L2.wipe σ1 vs = L2.wipe σ vs := by
        refine List.ext_getElem? fun j => ?_
        have ln : σ1.length = σ.length := s2.ln.trans (wipe_length _ _)
        rw [wipe_get, wipe_get, ln]
        by_cases hj : j ∈ vs
        · rw [if_pos hj, if_pos hj]
        · rw [if_neg hj, if_neg hj, (s2.sl j fun z => hj (hw j z)).1, wipe_get, if_neg hj]
      refine ⟨hwe, fp1, δ1, fun b => (if b = true then bd (f δ1) fun e => chk (e.imm = true ∧ acc.length < sizeLine) (bd (lcW h t f (wipeE δ vs) (ds.drop (i + 1)) (acc ++ [e])) fun es => pu (D.lst es)) else bd (lcW h t f (wipeE δ vs) (ds.drop (i + 1)) acc) fun es => pu (D.lst es)) Qd c.xq, e2, q1, fun b qb H3 kp3 => ?_⟩
      have k13 := k12.trans kp3
      have hav3 := kp3.kp _ _ hav2 DS
      have ra3 := ra2.kp kp3 (fun _ z => nomatch z)
      cases b with
      | false => exact ⟨acc, av, hav3, ra3, k13, qb⟩
      | true =>
        refine ⟨fp1, δ1, fun e => chk (e.imm = true ∧ acc.length < sizeLine) (bd (lcW h t f (wipeE δ vs) (ds.drop (i + 1)) (acc ++ [e])) fun es => pu (D.lst es)) Qd c.xq, e2.kp kp3, qb, fun d2 ⟨⟨im, sz⟩, q4⟩ y H4 F4 p4 r4 => ?_⟩
        have e0 := Rp.imm_nil _ _ _ r4 im
        subst e0
        have hav4 := p4.kp.kp _ _ hav3 DS
        have ra4 := ra3.kp p4.kp (fun _ z => nomatch z)
        refine ⟨av, hav4, by rw [ra4.length]; exact sz, acc ++ [d2], av ++ [y], upd_same, ?_, ?_, q4⟩
        · have hd4 : Hd c.G [] H4 (upd H4 Dn (.lst (av ++ [y]))) := ⟨p4.kp.ok, fun b o z m => by rw [upd_ne (fun w : b = Dn => m (by rw [w, hav4] at z; cases z; trivial))]; exact z, fun _ _ _ z => nomatch z⟩
          have r5 := ra4.append (.cons r4 .nil)
          exact RpA.hd _ _ _ (by simpa using r5) hd4
        · have k14 := k13.trans p4.kp
          exact ⟨fun b o z n => by rw [upd_ne (fun w : b = Dn => by rw [w, hD] at z; cases z)]; exact k14.kp b o z n, fun b z => by
            by_cases w : b = Dn
            · rw [w, upd_same]; exact fun z => nomatch z
            · rw [upd_ne w]; exact k14.dm b z, k14.ok0, c.G.loc H4 _ k14.ok fun b hb => upd_ne fun w => DS (w ▸ hb)⟩
  · have ei : i = ds.length := by omega
    subst ei
    rw [List.drop_length] at q
    exact .inl ⟨it.stop H' st, k _ q _ H' [Dn] (p.kp.trans kp) (.lst hav ra) (fun a z => by rw [List.mem_singleton.mp z]; exact p.kp.free hD) (by simp)⟩
/-- no test -/
theorem pts0 : PTs X [] (tT c dYes) := by
  refine ⟨fun pins s σ H Q I h => ?_⟩
  obtain ⟨fp, δ, Qd, e, hf, k⟩ := h
  exact pts_nil.run pins s σ H Q I (k true hf H (Kp.refl e.ok))
variable {elt tg iter : Expr} {ifs : List Expr} {scope : Scope} {own : List (Str × Nat)} {pos : Pos} {wv vi va : List Nat} {fi : Env → W (List D)} {h : D → Env → W Env} {t : Env → W Bool} {f : Env → W D}
theorem pn_lc (hc : X.calm = true) (hN : X.N.Nodup) (hi : PI X tg iter (tI c vi fi)) (ok : BlkOk X.N X.env.scope scope own)
    (hg : ∀ (s : Shared) (H : Hp) (C : Addr) (cl : List (Str × Addr)) (fp : List Addr), PG (X.blk s H scope (compEnvC scope cl C X.env) fp) tg (tG (X := X.blk s H scope (compEnvC scope cl C X.env) fp) c wv h))
    (ht : ∀ (s : Shared) (H : Hp) (C : Addr) (cl : List (Str × Addr)) (fp : List Addr), PTs (X.blk s H scope (compEnvC scope cl C X.env) fp) ifs (tT c t))
    (he : ∀ (s : Shared) (H : Hp) (C : Addr) (cl : List (Str × Addr)) (fp : List Addr), PE (X.blk s H scope (compEnvC scope cl C X.env) fp) elt (tD c va f))
    (hw : ∀ i ∈ wv, i ∈ own.map (·.2)) (hs : ∀ x, foldedSetIterable iter X.env x = pure x := by intro _; rfl) : PE X (.ListComp elt [⟨tg, iter, ifs, 0⟩] scope pos) (tN c (dLc (own.map (·.2)) fi h t f)) :=
  (pe_lc hc hN hi ok hg ht he hs).wk fun σ H Q q => tLc_of hw q
theorem sd_setLc {i : Nat} {y : Str} {py spos : Pos} (hc : X.calm = true) (hN : X.N.Nodup) (hy : X.N[i]? = some y) (hyl : X.env.scope.names.lookup y = some .local) (hsw : swapsWith (.ListComp elt [⟨tg, iter, ifs, 0⟩] scope pos) (some (.Name y py)) spos.line X.env = pure true)
    (hi : PI X tg iter (tI c vi fi)) (ok : BlkOk X.N X.env.scope scope own)
    (hg : ∀ (s : Shared) (H : Hp) (C : Addr) (cl : List (Str × Addr)) (fp : List Addr), PG (X.blk s H scope (compEnvC scope cl C X.env) fp) tg (tG (X := X.blk s H scope (compEnvC scope cl C X.env) fp) c wv h))
    (ht : ∀ (s : Shared) (H : Hp) (C : Addr) (cl : List (Str × Addr)) (fp : List Addr), PTs (X.blk s H scope (compEnvC scope cl C X.env) fp) ifs (tT c t))
    (he : ∀ (s : Shared) (H : Hp) (C : Addr) (cl : List (Str × Addr)) (fp : List Addr), PE (X.blk s H scope (compEnvC scope cl C X.env) fp) elt (tD c va f))
    (hw : ∀ i ∈ wv, i ∈ own.map (·.2)) (hs : ∀ x, foldedSetIterable iter X.env x = pure x := by intro _; rfl) : PS X (.Assign [.Name y py] (.ListComp elt [⟨tg, iter, ifs, 0⟩] scope pos) spos) (tS c [i] (sSetN i (dLc (own.map (·.2)) fi h t f))) :=
  (ps_setLc hc hN hy hyl hsw hi ok hg ht he hs).wk fun Dn σ H q => by
    have q2 := tAsg_setN Dn σ H q
    exact tLc_of hw q2
/-- list(range(..)) -/
def listRng (fs : Env → W (List D)) : Env → W D := fun δ => bd (fs δ) fun ds => opt (ints1 ds) fun j => chk (j ≤ 16777216 ∧ 0 ≤ j) (pu (.lst (rngD 0 j.toNat)))
theorem rngA (lo : Int) (n : Nat) (G : Gx X.K) (H : Hp) : RpA G H ((List.range n).map fun i => V.int (lo + (i : Nat))) (rngD lo n) [] := by
  have e : rngD lo n = ((List.range n).map fun i => lo + ((i : Nat) : Int)).map D.int := by simp [rngD, Function.comp_def]
  have e2 : ((List.range n).map fun i => V.int (lo + (i : Nat))) = ((List.range n).map fun i => lo + ((i : Nat) : Int)).map V.int := by simp [Function.comp_def]
  rw [e, e2]
  exact .of_ints
theorem pn_listRng {a : Expr} {p p2 pos2 : Pos} {vs : List Nat} {fa : Env → W D} (hc : X.calm = true) (hg : Gl X "list") (hm : X.mg "list" = none) (hg2 : Gl X "range") (hm2 : X.mg "range" = none) (ha : PE X a (tD c vs fa)) (na : starEach [a] X.env = (false, eval a X.env) :: starEach [] X.env := by rfl)
    (na2 : starEach [.Call (.Name "range" p2) [a] [] pos2] X.env = (false, eval (.Call (.Name "range" p2) [a] [] pos2) X.env) :: starEach [] X.env := by rfl) : PE X (.Call (.Name "list" p) [.Call (.Name "range" p2) [a] [] pos2] [] pos) (tN c (listRng (dCons fa dNil))) :=
  (pe_listRg hc hg hm (prg_1 hg2 hm2 ha na) na2).wk fun σ H Q ⟨fp, δ, Qd, e, hf, k⟩ => by
    refine ⟨fp, δ, fun d => opt (ints1 [d]) (fun j => chk (j ≤ 16777216 ∧ 0 ≤ j) (pu (D.lst (rngD 0 j.toNat)))) Qd c.xq, e, hf, fun d ⟨j, hj, ⟨h1, h0⟩, q⟩ v H' F p r => ?_⟩
    have ed := ints1_eq hj
    cases ed
    obtain ⟨rfl, _⟩ := r.intI
    refine ⟨j, rfl, .of_le (Int.le_refl 0) h1 (by decide) h0, fun l hl => ?_⟩
    have e2 : rgV 0 j = (List.range j.toNat).map fun i => V.int (0 + (i : Nat)) := by unfold rgV; rw [Int.sub_zero]
    rw [e2]
    exact k _ q _ _ [l] (p.kp.trans (Kp.laid p.kp.ok hl _)) (.lst upd_same (rngA 0 j.toNat _ _)) (fun a z => by rw [List.mem_singleton.mp z]; exact p.kp.free hl) (by simp)
end

/-! ### a def -/
def env0 (N : Nat) (ds : List D) : Env := ds.map some ++ List.replicate (N - ds.length) none
def resD : Fl × Env → W D
  | (.rt d, _) => pu d
  | (.nx, _) => pu .non
  | _ => fl
def bodyD (n N : Nat) (g : Env → W (Fl × Env)) : List D → W D := fun ds => chk (ds.length = n) (bd (g (env0 N ds)) resD)
theorem bodyD_len (n N : Nat) (g : Env → W (Fl × Env)) : Ln n (bodyD n N g) := fun _ _ _ h => h.1
theorem RpA.fps {K : PySem.W.Frag} {G : Gx K} {H : Hp} : ∀ {ds : List D} {vs : List V} {F : List Addr}, RpA G H vs ds F → ∃ fp : Nat → List Addr, (∀ i d, ds[i]? = some d → ∃ v, vs[i]? = some v ∧ Rp G H v d (fp i)) ∧ (∀ i, ds.length ≤ i → fp i = []) ∧ ∀ i, ∀ a ∈ fp i, a ∈ F
  | [], _, _, h => ⟨fun _ => [], fun _ _ e => by simp at e, fun _ _ => rfl, fun _ _ z => nomatch z⟩
  | d :: ds, _, _, h => by
    cases h with
    | @cons v _ F1 vs _ F2 h1 h2 =>
      obtain ⟨fp, a, b, s⟩ := RpA.fps h2
      refine ⟨fun i => match i with
        | 0 => F1
        | i + 1 => fp i, fun i d' e => ?_, fun i hi => ?_, fun i a z => ?_⟩
      · cases i with
        | zero => simp at e; subst e; exact ⟨v, rfl, h1⟩
        | succ i =>
          obtain ⟨u, hu, r⟩ := a i d' (by simpa using e)
          exact ⟨u, by simpa using hu, r⟩
      · cases i with
        | zero => simp at hi
        | succ i => exact b i (by simpa using hi)
      · cases i with
        | zero => exact List.mem_append_left _ z
        | succ i => exact List.mem_append_right _ (s i a z)
theorem gt_env0 {N : Nat} {ds : List D} (i : Nat) : gt (env0 N ds) i = ds[i]? := by
  unfold gt env0
  by_cases h : i < ds.length
  · rw [List.getElem?_append_left (by simpa using h), List.getElem?_map]
    cases ds[i]? <;> rfl
  · rw [List.getElem?_append_right (by simpa using h), List.getElem?_replicate]
    rw [List.getElem?_eq_none_iff.mpr (by omega)]
    split <;> rfl
theorem env_start {K : PySem.W.Frag} {G : Gx K} {H : Hp} {N : List Str} {ds : List D} {vs : List V} {F : List Addr} {own : List Nat} {xq : Ex → Prop} (ok : G.ok H) (nF : ∀ a ∈ F, a ∉ G.S) (r : RpA G H vs ds F) (hN : ds.length ≤ N.length) (ho : ∀ i ∈ own, ds.length ≤ i) :
    ∃ fp, EnvOk ⟨G, H, own, xq⟩ fp H (L2.start N vs) (env0 N.length ds) := by
  obtain ⟨fp, a, b, s⟩ := r.fps
  refine ⟨fp, ok, ?_, fun i d q => ?_, fun i q => ?_, fun i x z => nF x (s i x z), fun i hi x z => ?_, fun i hi => ?_, fun i hi j hj x z => ?_, fun _ _ e _ => e⟩
  · unfold L2.start env0
    rw [List.length_append, List.length_append, List.length_map, List.length_map, List.length_replicate, List.length_replicate, r.length]
  · rw [gt_env0] at q
    obtain ⟨v, hv, rv⟩ := a i d q
    refine ⟨v, ?_, rv⟩
    unfold L2.start
    have hl : i < vs.length := (List.getElem?_eq_some_iff.mp hv).1
    rw [List.getElem?_append_left (by simpa using hl), List.getElem?_map, hv]
    rfl
  · rw [gt_env0] at q
    exact b i (List.getElem?_eq_none_iff.mp q)
  · rw [b i (ho i hi)] at z; cases z
  · rw [b i (ho i hi)]; exact List.nodup_nil
  · rw [b i (ho i hi)] at z; cases z
section
variable {P : Program} {w : World} {K : PySem.W.Frag} {mg : Str → Option Value} {base : Heap}
/-- THE RULE for a def whose body is read by data -/
theorem fnD {x qual : Str} {st : Stmt} {f : Addr} {fd : FuncData} {N ps : List Str} {k n : Nat} {own wr : List Nat} {g : Env → DL.W (Fl × Env)} (F : L2.Fun K x qual st f fd) (S : FnScope N ps (defScope st)) (hn : ps.length = n) (hN : n ≤ N.length) (ho : ∀ i ∈ own, n ≤ i)
    (hbody : ∀ (cdv : Value) (A : Around) (outer : List PySem.Env) (s : Shared) (H : Hp) (E : XK), Room k (A.deeper (PyProof.Rows.envOfC qual (defScope st) s.heap.objs.size f cdv)) → (A.deeper (PyProof.Rows.envOfC qual (defScope st) s.heap.objs.size f cdv)).guards = some [] → ∀ (G : Gx K) (H0 : Hp) (xq : Ex → Prop),
      PSs (cxOf CX0 P w K mg base N qual (defScope st) f cdv A outer s H E).nox (defBody st) (tS ⟨G, H0, own, xq⟩ wr g)) : FnG P w K mg base CX0 (k + 1) f fd ps (spD (K := K) (bodyD n N.length g)) := by
  obtain ⟨oc, od, kV, doc, pm, an, cdv, ct, osl, rfl, lk, hcd⟩ := F.ex
  refine fnG_of lk hcd S (spD_len (bodyD_len n N.length g) hn) fun A outer s H vs Q E hr gd ⟨G, ds, Fp, Qd, Xq, ok, nF, r, ⟨hl, hf⟩, kq⟩ => ?_
  refine ⟨_, (hbody cdv A outer s H E hr (deep_guards gd) G H Xq).nox, ?_⟩
  obtain ⟨fp, e⟩ := env_start (N := N) (own := own) (xq := Xq) ok nF r (by rw [hl]; exact hN) (fun i hi => by rw [hl]; exact ho i hi)
  refine ⟨fp, _, fun r => resD r Qd Xq, e, hf, fun f δ' q => ?_⟩
  have kp_of : ∀ {H' : Hp}, G.ok H' → (∀ b o, H b = some o → b ∉ G.S → H' b = some o) → Kp G H H' := fun {H'} ok' fr => by
    refine ⟨fr, fun b z => ?_, ok, ok'⟩
    by_cases hb : b ∈ G.S
    · intro z2
      have m := G.mu H' ok' b hb
      rw [z2] at m
      exact m
    · cases q : H b with
      | none => exact absurd q z
      | some o => rw [fr b o q hb]; exact fun z => nomatch z
  cases f with
  | rt d => exact fun v F H' ok' rv fr nd fm => kq d q v H' F (kp_of ok' fm) rv (fun a z => (fr a z).1) nd
  | nx => exact fun fp' H' σ' e' s' => kq .non q .non H' [] (kp_of e'.ok e'.frm) .non (fun _ z => nomatch z) List.nodup_nil
  | bk => exact q.elim
  | ct => exact q.elim
end
end DL
namespace DL
open PySem PySem.Spec PyProof.Rows L2
section
variable {X : Cx} {c : Cd X.K} {e a b : Expr} {es : List Expr} {pos p : Pos} {x : Str} {vs va vb vc : List Nat} {fs : Env → W (List D)} {fa fb fc : Env → W D} {r : List V → Hp → VK → Prop} {op : List D → W D} {T : String}
/-! ### calls of built-in types -/
theorem pd_callTy (hc : CallR X (.type T) r) (hd : CallD c r op) (hg : Gl X x) (hm : X.mg x = none) (hv : bootBuiltins x = some (.type T)) (ha : PA X (e :: es) (tA c vs fs)) (hn : x ≠ "__name__" := by decide) (hdb : (x == ("__debug__" : Str)) = false := by decide)
    (he : starEach (e :: es) X.env = (false, eval e X.env) :: starEach es X.env := by rfl) (hpl : (backTo pos (starEach es X.env)).any (·.1) = false := by rfl) : PE X (.Call (.Name x p) (e :: es) [] pos) (tD c vs (dCB op fs)) :=
  (pe_callTy hc hg hm hv ha hn hdb he hpl).wk (tCB_of hd)
theorem pn_callTy (hc : CallR X (.type T) r) (hd : CallN c r op) (hg : Gl X x) (hm : X.mg x = none) (hv : bootBuiltins x = some (.type T)) (ha : PA X (e :: es) (tA c vs fs)) (hn : x ≠ "__name__" := by decide) (hdb : (x == ("__debug__" : Str)) = false := by decide)
    (he : starEach (e :: es) X.env = (false, eval e X.env) :: starEach es X.env := by rfl) (hpl : (backTo pos (starEach es X.env)).any (·.1) = false := by rfl) : PE X (.Call (.Name x p) (e :: es) [] pos) (tN c (dCB op fs)) :=
  (pe_callTy hc hg hm hv ha hn hdb he hpl).wk (tCB_ofN hd)
/-- the name of a built-in type, as a value -/
theorem pd_ty (hg : Gl X x) (hm : X.mg x = none) (hv : bootBuiltins x = some (.type T)) (hn : x ≠ "__name__" := by decide) (hdb : (x == ("__debug__" : Str)) = false := by decide) : PE X (.Name x p) (tD c [] (dC (.ty T))) :=
  pd_c (v := .ty T) ⟨fun pins s σ H Q I h => ld_blt I hg hm hv ⟨.ty T, H, I, rfl, h⟩ hn hdb⟩ fun _ => .ty T
/-! ### a < b < c as a test -/
theorem pt_ch {op op' : CmpOp} {r r' : R2} {o o' : D → D → W D} {ec : Expr} (ho : OpR X (compareOp op) r) (ho' : OpR X (compareOp op') r') (hd : OpD c r o) (hd' : OpD c r' o') (ha : PE X a (tD c va fa)) (hb : PE X b (tD c vb fb)) (hc : PE X ec (tD c vc fc))
    (hm : lastMarks [op, op'] [b, ec] = false := by with_unfolding_all rfl) : PT X (.Compare a [op, op'] [b, ec] pos) (tT c (dB (dChain o o' fa fb fc))) := (pt_chain ho ho' ha hb hc hm).wk fun σ H Q h => by
  obtain ⟨fp, δ, Qd, e, hf, k⟩ := h
  refine tChain_of (va := va) (vb := vb) (vc := vc) hd hd' σ H _ ⟨fp, δ, fun d => asB d Qd c.xq, e, hf, fun d qd v H' F p r => ?_⟩
  cases r with
  | bl b => exact ⟨b, rfl, k b qd H' p.kp⟩
  | _ => exact qd.elim
/-! ### a rest that is read with data of its own -/
theorem pss_ex {sts : List Stmt} {w : List Nat} {g : Env → W (Fl × Env)} (h : ∀ c : Cd X.K, PSs X sts (tS c w g)) : PSs X sts (fun Dn σ H => ∃ c : Cd X.K, tS c w g Dn σ H) := ⟨fun pins s σ H Dn I ⟨c, q⟩ => (h c).run pins s σ H Dn I q⟩
end
/-! ### what a call binds -/
theorem kb_of {K : PySem.W.Frag} {x qual : Str} {st : Stmt} {f : Addr} {fd : FuncData} {ps ks : List Str} {n : Nat} {π : List Nat} (F : L2.Fun K x qual st f fd)
    (h : ∀ (kV doc pm : Value) (an : Option Addr) (cdv ct : Value) (us ws : List Value), us.length = n → ws.length = ks.length → bindArgs (PySem.W.fnOf x qual (defArgs st) (defBody st) (defScope st) .none kV doc pm an cdv ct) ⟨us, ks.zip ws⟩ = pure (ps.zip (pick π (us ++ ws)))) : KB K fd ps n ks π := by
  obtain ⟨oc, od, kV, doc, pm, an, cdv, ct, osl, rfl, lk, hcd⟩ := F.ex
  exact ⟨fun s us ws _ h1 h2 => .of_eq (h kV doc pm an cdv ct us ws h1 h2)⟩
end DL
namespace DL
open PySem L2
/-! ### comprehensions whose items are new -/
def lcWN (h : D → Env → W Env) (t : Env → W Bool) (f : Env → W D) (δ : Env) : List D → List D → W (List D)
  | [], acc => pu acc
  | d :: ds, acc => bd (h d δ) fun δ1 => bd (t δ1) fun b => if b = true then bd (f δ1) fun e => chk (acc.length < sizeLine) (lcWN h t f δ ds (acc ++ [e])) else lcWN h t f δ ds acc
theorem lcWN_step (h : D → Env → W Env) (t : Env → W Bool) (f : Env → W D) (δ : Env) (d : D) (ds acc : List D) (k : List D → W D) : bd (lcWN h t f δ (d :: ds) acc) k =
    bd (h d δ) fun δ1 => bd (t δ1) fun b => if b = true then bd (f δ1) fun e => chk (acc.length < sizeLine) (bd (lcWN h t f δ ds (acc ++ [e])) k) else bd (lcWN h t f δ ds acc) k := by
  show (bd (h d δ) fun δ1 => bd (bd (t δ1) _) k) = _
  congr 1
  funext δ1
  rw [bd_bd]
  congr 1
  funext b
  cases b <;> rfl
def dLcN (vs : List Nat) (fi : Env → W (List D)) (h : D → Env → W Env) (t : Env → W Bool) (f : Env → W D) : Env → W D := fun δ => bd (fi δ) fun ds => bd (lcWN h t f (wipeE δ vs) ds []) fun es => pu (.lst es)
section
variable {X : Cx} {c : Cd X.K} {vs : List Nat}
theorem tLcN_of {wv : List Nat} {vi : List Nat} {fi : Env → W (List D)} {h : D → Env → W Env} {t : Env → W Bool} {f : Env → W D} (hw : ∀ i ∈ wv, i ∈ vs) {σ : St} {H : Hp} {Q : VK} (hq : tN c (dLcN vs fi h t f) σ H Q) :
    tLc (tI c vi fi) (tG c wv h) (tT c t) (tN c f) vs σ H Q := by
  obtain ⟨fp, δ, Qd, e, hf, k⟩ := hq
  refine ⟨fp, δ, fun ds => bd (lcWN h t f (wipeE δ vs) ds []) (fun es => pu (D.lst es)) Qd c.xq, e, hf, fun ds qds J H1 F p it Dn hD => ?_⟩
  have e1 := e.kp p.kp
  have DS := notS0 p.kp.ok hD
  have start : Kp c.G H1 (upd H1 Dn (.lst [])) := Kp.laid p.kp.ok hD _
  refine ⟨fun i m H' => m = ds.length - i ∧ i ≤ ds.length ∧ ∃ acc av Fa, H' Dn = some (.lst av) ∧ RpA c.G H' av acc Fa ∧ Fa.Nodup ∧ (∀ a ∈ Fa, a ≠ Dn ∧ H1 a = none) ∧ Kp c.G H1 H' ∧ bd (lcWN h t f (wipeE δ vs) (ds.drop i) acc) (fun es => pu (D.lst es)) Qd c.xq,
    ⟨ds.length, rfl, Nat.zero_le _, [], [], [], upd_same, .nil, List.nodup_nil, (fun _ z => nomatch z), start, qds⟩, ?_⟩
  rintro i m H' ⟨rfl, hi, acc, av, Fa, hav, ra, na, fa, kp, q⟩
  have st : Hs F H1 H' := fun b o z mm => by
    refine kp.kp b o z ?_
    rcases mm with mm | mm
    · exact notS p.kp.ok z mm
    · exact p.nos b mm
  have nS : ∀ a ∈ Fa, a ∉ c.G.S := fun a z => notS0 p.kp.ok (fa a z).2
  by_cases hlt : i < ds.length
  · refine .inr ⟨it.go i H' st hlt, fun H2 => ∃ acc av Fa, H2 Dn = some (.lst av) ∧ RpA c.G H2 av acc Fa ∧ Fa.Nodup ∧ (∀ a ∈ Fa, a ≠ Dn ∧ H1 a = none) ∧ Kp c.G H1 H2 ∧ bd (lcWN h t f (wipeE δ vs) (ds.drop (i + 1)) acc) (fun es => pu (D.lst es)) Qd c.xq, fun H2 z => ⟨ds.length - (i + 1), by omega, rfl, hlt, z⟩, fun x H2 y => ?_⟩
    obtain ⟨kp2, d, hd', r⟩ := it.yld i H' x H2 st kp.ok hlt y
    have ed : ds.drop i = d :: ds.drop (i + 1) := by
      rw [List.drop_eq_getElem_cons hlt]
      congr 1
      rw [List.getElem?_eq_getElem hlt] at hd'
      exact Option.some.inj hd'
    rw [ed] at q
    have k12 := kp.trans kp2
    have ew := (e1.kp k12).wipe vs
    have hav2 := kp2.kp _ _ hav DS
    have ra2 := ra.kp kp2 nS
    refine ⟨_, wipeE δ vs, d, [], fun δ1 => bd (t δ1) (fun b => if b = true then bd (f δ1) fun e => chk (acc.length < sizeLine) (bd (lcWN h t f (wipeE δ vs) (ds.drop (i + 1)) (acc ++ [e])) fun es => pu (D.lst es)) else bd (lcWN h t f (wipeE δ vs) (ds.drop (i + 1)) acc) fun es => pu (D.lst es)) Qd c.xq, ew, r, ?_, fun δ1 q1 fp1 σ1 e2 s2 => ?_⟩
    · rw [lcWN_step] at q
      exact q
    · have hwe : L2.wipe σ1 vs = L2.wipe σ vs := by
        refine List.ext_getElem? fun j => ?_
        have ln : σ1.length = σ.length := s2.ln.trans (wipe_length _ _)
        rw [wipe_get, wipe_get, ln]
        by_cases hj : j ∈ vs
        · rw [if_pos hj, if_pos hj]
        · rw [if_neg hj, if_neg hj, (s2.sl j fun z => hj (hw j z)).1, wipe_get, if_neg hj]
      refine ⟨hwe, fp1, δ1, fun b => (if b = true then bd (f δ1) fun e => chk (acc.length < sizeLine) (bd (lcWN h t f (wipeE δ vs) (ds.drop (i + 1)) (acc ++ [e])) fun es => pu (D.lst es)) else bd (lcWN h t f (wipeE δ vs) (ds.drop (i + 1)) acc) fun es => pu (D.lst es)) Qd c.xq, e2, q1, fun b qb H3 kp3 => ?_⟩
      have k13 := k12.trans kp3
      have hav3 := kp3.kp _ _ hav2 DS
      have ra3 := ra2.kp kp3 nS
      cases b with
      | false => exact ⟨acc, av, Fa, hav3, ra3, na, fa, k13, qb⟩
      | true =>
        refine ⟨fp1, δ1, fun e => chk (acc.length < sizeLine) (bd (lcWN h t f (wipeE δ vs) (ds.drop (i + 1)) (acc ++ [e])) fun es => pu (D.lst es)) Qd c.xq, e2.kp kp3, qb, fun d2 ⟨sz, q4⟩ y H4 F4 kp4 r4 fr4 nd4 => ?_⟩
        have hav4 := kp4.kp _ _ hav3 DS
        have ra4 := ra3.kp kp4 nS
        have k14 := k13.trans kp4
        have nDn : ∀ a ∈ F4, a ≠ Dn := fun a z w => by
          have := fr4 a z
          rw [w, hav3] at this
          cases this
        refine ⟨av, hav4, by rw [ra4.length]; exact sz, acc ++ [d2], av ++ [y], Fa ++ F4, upd_same, ?_, ?_, ?_, ?_, q4⟩
        · have hd4 : Hd c.G (Fa ++ F4) H4 (upd H4 Dn (.lst (av ++ [y]))) := ⟨kp4.ok, fun b o z m => by rw [upd_ne (fun w : b = Dn => m (by rw [w, hav4] at z; cases z; trivial))]; exact z, fun b o z hb => by
            rw [upd_ne (fun w : b = Dn => by
              rcases List.mem_append.mp hb with hb | hb
              · exact (fa b hb).1 w
              · exact nDn b hb w)]
            exact z⟩
          have r5 := ra4.append (.cons r4 .nil)
          exact RpA.hd _ _ _ (by simpa using r5) hd4
        · rw [List.nodup_append]
          refine ⟨na, nd4, fun a z b w hab => ?_⟩
          subst hab
          exact RpA.dom _ _ _ ra3 a z (fr4 a w)
        · intro a z
          rcases List.mem_append.mp z with z | z
          · exact fa a z
          · exact ⟨nDn a z, k13.free (fr4 a z)⟩
        · exact ⟨fun b o z n => by rw [upd_ne (fun w : b = Dn => by rw [w, hD] at z; cases z)]; exact k14.kp b o z n, fun b z => by
            by_cases w : b = Dn
            · rw [w, upd_same]; exact fun z => nomatch z
            · rw [upd_ne w]; exact k14.dm b z, k14.ok0, c.G.loc H4 _ k14.ok fun b hb => upd_ne fun w => DS (w ▸ hb)⟩
  · have ei : i = ds.length := by omega
    subst ei
    rw [List.drop_length] at q
    refine .inl ⟨it.stop H' st, k _ q _ H' (Dn :: Fa) (p.kp.trans kp) (.lst hav ra) (fun a z => ?_) ?_⟩
    · rcases List.mem_cons.mp z with z | z
      · rw [z]; exact p.kp.free hD
      · exact p.kp.free (fa a z).2
    · exact List.nodup_cons.mpr ⟨fun z => (fa _ z).1 rfl, na⟩
variable {elt tg iter : Expr} {ifs : List Expr} {scope : Scope} {own : List (Str × Nat)} {pos : Pos} {wv vi va : List Nat} {fi : Env → W (List D)} {h : D → Env → W Env} {t : Env → W Bool} {f : Env → W D}
theorem pn_lcN (hc : X.calm = true) (hN : X.N.Nodup) (hi : PI X tg iter (tI c vi fi)) (ok : BlkOk X.N X.env.scope scope own)
    (hg : ∀ (s : Shared) (H : Hp) (C : Addr) (cl : List (Str × Addr)) (fp : List Addr), PG (X.blk s H scope (compEnvC scope cl C X.env) fp) tg (tG (X := X.blk s H scope (compEnvC scope cl C X.env) fp) c wv h))
    (ht : ∀ (s : Shared) (H : Hp) (C : Addr) (cl : List (Str × Addr)) (fp : List Addr), PTs (X.blk s H scope (compEnvC scope cl C X.env) fp) ifs (tT c t))
    (he : ∀ (s : Shared) (H : Hp) (C : Addr) (cl : List (Str × Addr)) (fp : List Addr), PE (X.blk s H scope (compEnvC scope cl C X.env) fp) elt (tN c f))
    (hw : ∀ i ∈ wv, i ∈ own.map (·.2)) (hs : ∀ x, foldedSetIterable iter X.env x = pure x := by intro _; rfl) : PE X (.ListComp elt [⟨tg, iter, ifs, 0⟩] scope pos) (tN c (dLcN (own.map (·.2)) fi h t f)) :=
  (pe_lc hc hN hi ok hg ht he hs).wk fun σ H Q q => tLcN_of hw q
theorem sd_setLcN {i : Nat} {y : Str} {py spos : Pos} (hc : X.calm = true) (hN : X.N.Nodup) (hy : X.N[i]? = some y) (hyl : X.env.scope.names.lookup y = some .local) (hsw : swapsWith (.ListComp elt [⟨tg, iter, ifs, 0⟩] scope pos) (some (.Name y py)) spos.line X.env = pure true)
    (hi : PI X tg iter (tI c vi fi)) (ok : BlkOk X.N X.env.scope scope own)
    (hg : ∀ (s : Shared) (H : Hp) (C : Addr) (cl : List (Str × Addr)) (fp : List Addr), PG (X.blk s H scope (compEnvC scope cl C X.env) fp) tg (tG (X := X.blk s H scope (compEnvC scope cl C X.env) fp) c wv h))
    (ht : ∀ (s : Shared) (H : Hp) (C : Addr) (cl : List (Str × Addr)) (fp : List Addr), PTs (X.blk s H scope (compEnvC scope cl C X.env) fp) ifs (tT c t))
    (he : ∀ (s : Shared) (H : Hp) (C : Addr) (cl : List (Str × Addr)) (fp : List Addr), PE (X.blk s H scope (compEnvC scope cl C X.env) fp) elt (tN c f))
    (hw : ∀ i ∈ wv, i ∈ own.map (·.2)) (hs : ∀ x, foldedSetIterable iter X.env x = pure x := by intro _; rfl) : PS X (.Assign [.Name y py] (.ListComp elt [⟨tg, iter, ifs, 0⟩] scope pos) spos) (tS c [i] (sSetN i (dLcN (own.map (·.2)) fi h t f))) :=
  (ps_setLc hc hN hy hyl hsw hi ok hg ht he hs).wk fun Dn σ H q => by
    have q2 := tAsg_setN Dn σ H q
    exact tLcN_of hw q2
/-! ### xs[k].append(e), the items of xs lists of its own -/
theorem RpA.inner {G : Gx X.K} {H : Hp} (ok : G.ok H) : ∀ (j : Nat) {ds : List D} {xs : List V} {F : List Addr} {es : List D}, RpA G H xs ds F → F.Nodup → ds[j]? = some (.lst es) → D.imms es = true →
    ∃ m ys, xs[j]? = some (.ref m) ∧ H m = some (.lst ys) ∧ RpA G H ys es [] ∧ m ∈ F ∧ ∀ ys' es', RpA G H ys' es' [] → RpA G (upd H m (.lst ys')) xs (ds.set j (.lst es')) F
  | _, [], _, _, _, h, _, q, _ => by simp at q
  | 0, d :: ds, _, _, es, h, nd, q, im => by
    cases h with
    | @cons v _ F1 vs _ F2 h1 h2 =>
      have ed : d = .lst es := by simpa using q
      subst ed
      cases h1 with
      | @lst m ys _ F' hm ra =>
        have e0 := RpA.imm_nil _ _ _ ra im
        subst e0
        rw [List.nodup_append] at nd
        have hd : ∀ (F : List Addr) ys', m ∉ F → Hd G F H (upd H m (.lst ys')) := fun F ys' n => ⟨ok, fun b o z k => by rw [upd_ne (fun w : b = m => k (by rw [w, hm] at z; cases z; trivial))]; exact z, fun b o z hb => by rw [upd_ne (fun w : b = m => n (w ▸ hb))]; exact z⟩
        refine ⟨m, ys, rfl, hm, ra, by simp, fun ys' es' r => ?_⟩
        show RpA G _ _ (.lst es' :: ds) _
        exact .cons (.lst upd_same (RpA.hd _ _ _ r (hd _ _ fun z => nomatch z))) (RpA.hd _ _ _ h2 (hd _ _ fun z => nd.2.2 m (by simp) m z rfl))
  | j + 1, d :: ds, _, _, es, h, nd, q, im => by
    cases h with
    | @cons v _ F1 vs _ F2 h1 h2 =>
      rw [List.nodup_append] at nd
      obtain ⟨m, ys, e1, hm, ra, mf, k⟩ := RpA.inner ok j h2 nd.2.1 (by simpa using q) im
      refine ⟨m, ys, by simpa using e1, hm, ra, List.mem_append_right _ mf, fun ys' es' r => ?_⟩
      have hd : Hd G F1 H (upd H m (.lst ys')) := ⟨ok, fun b o z k => by rw [upd_ne (fun w : b = m => k (by rw [w, hm] at z; cases z; trivial))]; exact z, fun b o z hb => by rw [upd_ne (fun w : b = m => nd.2.2 m (w ▸ hb) m mf rfl)]; exact z⟩
      show RpA G _ _ (d :: ds.set j (.lst es')) _
      exact .cons (Rp.hd _ _ _ h1 hd) (k ys' es' r)
variable {o b a : Expr} {va vb : List Nat} {fa fb : Env → W D} {cpos apos spos : Pos} {i : Nat}
/-- a store to what hangs below a slot of its own -/
theorem EnvOk.wrIn {fp : Nat → List Addr} {H : Hp} {σ : St} {δ : Env} {l m : Addr} {xs ys' : List V} {ys : List V} {ds ds' : List D} {F : List Addr} (e : EnvOk c fp H σ δ) (ho : i ∈ c.own) (hg : lsA δ i = some ds) (hσ : σ[i]? = some (some (.ref l))) (hl : H l = some (.lst xs)) (hf : fp i = l :: F) (hm : H m = some (.lst ys)) (mf : m ∈ F)
    (r : RpA c.G (upd H m (.lst ys')) xs ds' F) : EnvOk c fp (upd H m (.lst ys')) σ (δ.set i (some (.lst ds'))) ∧ Step c [i] fp H σ fp (upd H m (.lst ys')) σ := by
  have mi : m ∈ fp i := by rw [hf]; simp [mf]
  have mS := e.nos i m mi
  have nlm : l ≠ m := fun z => by
    have := e.ndp i ho
    rw [hf] at this
    exact (List.nodup_cons.mp this).1 (z ▸ mf)
  have hi : i < δ.length := by
    rw [← e.len]
    exact (List.getElem?_eq_some_iff.mp hσ).1
  have hd : ∀ {F : List Addr}, m ∉ F → Hd c.G F H (upd H m (.lst ys')) := fun {F} n => ⟨e.ok, fun b o q k => by
    rw [upd_ne (fun z => k (by rw [z, hm] at q; cases q; trivial))]; exact q, fun b o q hb => by rw [upd_ne (fun z : b = m => n (by rw [← z]; exact hb))]; exact q⟩
  have okl : c.G.ok (upd H m (.lst ys')) := c.G.loc H _ e.ok fun b hb => upd_ne fun z => mS (z ▸ hb)
  refine ⟨⟨okl, by rw [List.length_set]; exact e.len, fun j d q => ?_, fun j q => ?_, e.nos, e.frs, e.ndp, e.sep, fun b o q n => ?_⟩, ⟨fun _ _ => ⟨rfl, rfl⟩, fun b o q n hb => ?_, fun j hj ho a ha => .inr ⟨j, hj, ho, ha⟩, fun b q => ?_, rfl⟩⟩
  · rw [gt_set hi] at q
    by_cases h : j = i
    · subst h
      rw [if_pos rfl] at q
      cases q
      refine ⟨_, hσ, ?_⟩
      rw [hf]
      exact .lst (by rw [upd_ne nlm]; exact hl) r
    · rw [if_neg h] at q
      obtain ⟨v, hv, rv⟩ := e.rep j d q
      exact ⟨v, hv, Rp.hd _ _ _ rv (hd (e.sep i ho j h m mi))⟩
  · rw [gt_set hi] at q
    by_cases h : j = i
    · rw [if_pos h] at q; cases q
    · rw [if_neg h] at q; exact e.emp j q
  · rw [upd_ne fun z => by
      have := e.frs i ho m mi
      rw [z, this] at q
      cases q]
    exact e.frm b o q n
  · rw [upd_ne (fun z : b = m => hb i (by simp) ho (by rw [z]; exact mi))]
    exact q
  · by_cases h : b = m
    · rw [h, upd_same]; exact fun z => nomatch z
    · rw [upd_ne h]; exact q
def sAppIx (i : Nat) (fk f : Env → W D) : Env → W (Fl × Env) := fun δ => opt (lsA δ i) fun ds => bd (fk δ) fun kd => bd (asI kd) fun k => opt (ixN ds.length k) fun j => opt (ds[j]?.bind lsD) fun es => bd (f δ) fun d => chk (D.imms es = true ∧ d.imm = true ∧ es.length < sizeLine) (pu (.nx, δ.set i (some (.lst (ds.set j (.lst (es ++ [d])))))))
theorem sd_appIx (i : Nat) (ho : i ∈ c.own) (hv : PE X o (tVar i)) (hk : PE X b (tD c vb fb)) (ha : PE X a (tD c va fa)) (hs : PlainIx b) {ipos : Pos} (hbase : attributeBase (.Subscript o b ipos) "append" X.env (eval (.Subscript o b ipos) X.env) = eval (.Subscript o b ipos) X.env := by rfl)
    (hfew : ((backTo cpos (starEach (a :: []) X.env)).all (fun x => !x.1) && (backToKw cpos (keywordEach [] X.env)).all (fun x => x.1.isSome) && decide ((a :: ([] : List Expr)).length + ([] : List Keyword).length + (if ([] : List Keyword).isEmpty then 0 else 1) < 30)) = true := by rfl)
    (hline : (apos.endLine == cpos.line) = true := by rfl) (hs1 : starEach (a :: []) X.env = (false, eval a X.env) :: starEach [] X.env := by rfl) (hpl : (backTo cpos (starEach ([] : List Expr) X.env)).any (·.1) = false := by rfl)
    (hsw : swapsWith (.Call (.Attribute (.Subscript o b ipos) "append" apos) [a] [] cpos) none pos.line X.env = pure false := by rfl) : PS X (.Expr (.Call (.Attribute (.Subscript o b ipos) "append" apos) [a] [] cpos) pos) (tS c [i] (sAppIx i fb fa)) :=
  (ps_expr (pe_bm PySem.F.plainAttrs_list PySem.F.slot_list_append PySem.F.type_list_append mt_append (pe_ix xr_ix hv hk hs) (pa_cons ha pa_nil hs1) hbase hfew hline hs1 hpl) hsw).wk fun Dn σ H ⟨fp, δ, Qd, e, ⟨ds, hds, hf⟩, k⟩ => by
    obtain ⟨v, hv, r⟩ := e.rep i _ (lsA_eq hds)
    refine ⟨v, hv, fp, δ, fun kd => bd (asI kd) (fun k => opt (ixN ds.length k) fun j => opt (ds[j]?.bind lsD) fun es => bd (fa δ) fun d => chk (D.imms es = true ∧ d.imm = true ∧ es.length < sizeLine) (pu (Fl.nx, δ.set i (some (.lst (ds.set j (.lst (es ++ [d])))))))) Qd c.xq, e, hf, fun kd qk y H1 F1 p1 r1 => ?_⟩
    cases r1 with
    | int n =>
      obtain ⟨j, hj, es, hes, q⟩ := qk
      have hes2 : ds[j]? = some (.lst es) := by
        cases z : ds[j]? with
        | none => rw [z] at hes; cases hes
        | some d0 =>
          rw [z] at hes
          have z2 : lsD d0 = some es := hes
          unfold lsD at z2
          split at z2
          · cases z2; rfl
          · cases z2
      have e1 := e.kp p1.kp
      obtain ⟨v', hv', r'⟩ := e1.rep i _ (lsA_eq hds)
      have ev : v' = v := by rw [hv] at hv'; cases hv'; rfl
      subst ev
      generalize hF : fp i = F at r'
      cases r' with
      | @lst l xs _ F' hl ax =>
        have nd := e1.ndp i ho
        rw [hF] at nd
        have nd' := (List.nodup_cons.mp nd).2
        obtain ⟨v2, F2, e2, r2, _⟩ := ax.get hes2
        refine .inl ⟨l, xs, _, v2, rfl, rfl, SqL.of hl, by unfold L2.atI; rw [ax.length, hj]; exact e2, ?_⟩
        obtain ⟨m, ys, rfl, hm, ra⟩ : ∃ m ys, v2 = .ref m ∧ H1 m = some (.lst ys) ∧ True := by
          cases r2 with
          | lst a b => exact ⟨_, _, rfl, a, trivial⟩
        refine ⟨.inl ⟨rfl, _, SqL.of hm⟩, fp, δ, fun d => chk (D.imms es = true ∧ d.imm = true ∧ es.length < sizeLine) (pu (Fl.nx, δ.set i (some (.lst (ds.set j (.lst (es ++ [d]))))))) Qd c.xq, e1, q, fun d ⟨⟨im, imd, sz⟩, q⟩ u H2 F3 p2 r3 => ?_⟩
        have e0 := Rp.imm_nil _ _ _ r3 imd
        subst e0
        have e2' := e1.kp p2.kp
        have ax2 := ax.kp p2.kp fun a z => e1.nos i a (by rw [hF]; simp [z])
        have hl2 := p2.kp.kp _ _ hl (e1.nos i l (by rw [hF]; simp))
        obtain ⟨m2, ys2, em, hm2, ra2, mf2, kk⟩ := RpA.inner p2.kp.ok j ax2 nd' hes2 im
        have em2 : m2 = m := by rw [e2] at em; cases em; rfl
        subst em2
        refine ⟨m2, ys2, u, rfl, rfl, hm2, by rw [ra2.length]; exact sz, ?_⟩
        have ra3 : RpA c.G H2 (ys2 ++ [u]) (es ++ [d]) [] := by simpa using ra2.append (.cons r3 .nil)
        obtain ⟨e4, s4⟩ := e2'.wrIn ho hds hv hl2 hF hm2 mf2 (kk _ _ ra3)
        exact k _ _ q _ _ _ e4 ((Step.of_kp (p1.kp.trans p2.kp)).trans s4)
    | _ => exact qk.elim
end
end DL
namespace DL
open PySem PySem.Spec PyProof.Rows L2
/-! ### the law -/
/-- the promise of a law's def: a script of at most 63 whole numbers, and True -/
def spLaw (K : PySem.W.Frag) : Sp := fun vs H Q _ => ∃ (a : Addr) (ns : List Int), vs = [.ref a] ∧ Frz K H a (ns.map V.int) ∧ ns.length ≤ 63 ∧ ∀ H', Q (.bl true) H'
/-- what is tracked at a law's start: the script, where it is no object of the module -/
def scr (K : PySem.W.Frag) (a : Addr) (o : Obj) (ns : List Int) : Hp := fun b => if b = a ∧ K.lookup a = none then some (.frz o (.lst (ns.map V.int))) else none
theorem scr_some {K : PySem.W.Frag} {a b : Addr} {o : Obj} {ns : List Int} {u : HO} (h : scr K a o ns b = some u) : b = a ∧ K.lookup a = none ∧ u = .frz o (.lst (ns.map V.int)) := by
  unfold scr at h
  by_cases q : b = a ∧ K.lookup a = none
  · rw [if_pos q] at h
    exact ⟨q.1, q.2, (Option.some.inj h).symm⟩
  · rw [if_neg q] at h
    cases h
theorem walkG {l : PySem.W.OpenLaw} {k : Nat} {q : Program} {loose : List Str} {XP : (Str → Option Value) → Heap → Prop} {YP : World → Heap → Prop} {d : DefRec} {K : Params → PySem.W.Frag} {x : Str}
    (hn : l.most = some 63) (hdf : d.params.defaults = []) (hr : Room k callerA) (hY : ∀ (w : World) (h : Heap), YP w h → (K w.params).In h)
    (F : ∀ (w : World) (mg : Str → Option Value) (fa : Addr) (h : Heap), (K w.params).In h → h.Ns mainGlobals mg → mg d.name = some (.ref fa) →
      ∃ fd : FuncData, (∀ (s : Shared) (u : Value), BindsTo s fd ⟨[u], []⟩ [(x, u)]) ∧ ∀ base : Heap, (K w.params).In base → base.Ns mainGlobals mg → FnG l.prog w (K w.params) mg base CX0 k fa fd [x] (spLaw (K w.params))) :
    PySem.W.WalkO q loose XP YP l.row.toRowW d [] (fun f vs => PySem.call f vs) := by
  refine Att.attach_call hn hdf fun w s₀ s₁ mg mb fa o pm cd doc a vs ns G Y ho hd hcd hmg hobj hints hlen hg => ?_
  have KX := hY w _ Y
  obtain ⟨fd, hb, hF⟩ := F w mg fa _ KX G.T.g hmg
  have rv : Vals (ns.map V.int) vs := vals_ints hints
  have small : ns.length ≤ sizeLine := Nat.le_trans hlen (by decide)
  let H := scr (K w.params) a { cls := .type "list", data := .seq vs.toArray } ns
  have here : ∀ {b : Addr} {u : HO}, H b = some u → b = a ∧ (K w.params).lookup a = none ∧ u = _ := fun z => scr_some z
  have off : ∀ {b : Addr}, b ≠ a → H b = none := fun {b} n => if_neg fun z => n z.1
  -- names of the module are no lists
  have nsOff : ∀ {b : Addr} {m : Str → Option Value}, s₁.heap.Ns b m → (hidT s₁.heap H).Ns b m := fun {b m} ⟨ob, es, ep, e, dd, r⟩ => by
    refine ⟨ob, es, ep, hidT_get e (off fun z => ?_), dd, r⟩
    rw [z, hobj] at e
    cases e
    cases dd
  have inK : (K w.params).In (hidT s₁.heap H) := fun b ob e => hidT_get (KX b ob e) (by
    cases z : H b with
    | none => rfl
    | some u =>
      obtain ⟨rfl, z2, _⟩ := here z
      rw [z2] at e
      cases e)
  have hok : HOk l.prog w H s₁.heap := fun b u z => by
    obtain ⟨rfl, _, rfl⟩ := here z
    exact ⟨hobj, by rw [List.length_map]; exact small, vs, _, rv, hobj⟩
  have fz : Frz (K w.params) H a (ns.map V.int) := by
    cases z : (K w.params).lookup a with
    | none => exact .inl ⟨_, if_pos ⟨rfl, z⟩⟩
    | some ob =>
      have e := KX a ob z
      rw [hobj] at e
      cases e
      exact .inr ⟨_, vs.toArray, _, z, rfl, rfl, rfl, by rw [List.size_toArray, hints.length]; exact small, by simpa using rv⟩
  have e0 : Env0 l.prog w (K w.params) mg (hidT s₁.heap H) callerA [] s₁ H :=
    ⟨rfl, ⟨inK, nsOff G.T.g, ⟨mb, nsOff G.T.b, G.T.builtins⟩, let ⟨mc, h1, h2⟩ := G.T.nolimit; ⟨mc, nsOff h1, h2⟩⟩, fun b ob e => of_hidT e, Nat.le_of_eq (hidT_size _ _), trivial, fun b hb => (nomatch hb), hok, .of_eq hg⟩
  refine codeAny_mono ((hF _ inK (nsOff G.T.g)).run callerA [] s₁ H ⟨[.ref a], []⟩ [.ref a] [.ref a] (fun v _ => v = .bl true) (fun _ _ _ => False) hr rfl e0 (hb s₁ (.ref a)) (.cons rfl .nil) ⟨a, ns, rfl, fz, hlen, fun _ => rfl⟩) fun r s' z => ?_
  cases r with
  | error e => exact z.elim
  | ok fl =>
    cases fl with
    | next => exact False.elim z
    | brk => exact False.elim z
    | cont => exact False.elim z
    | ret u =>
      obtain ⟨v, H', os, bare, un, hok', r', q⟩ := z
      have q2 : v = .bl true := q
      subst q2
      have r2 : u = Value.bool true := r'
      subst r2
      refine ⟨rfl, OldK.of_keep fun b ob e => ?_, os, bare⟩
      cases z : H b with
      | none => exact un.keep b ob e z (fun z => nomatch z) (by simp)
      | some u =>
        obtain ⟨rfl, _, rfl⟩ := here z
        have z2 := un.frzs _ _ _ z
        have e2 := (hok' _ _ z2).1
        rw [hobj] at e
        cases e
        exact e2
end DL
namespace DL
open PySem PySem.Spec PyProof.Rows L2
theorem hu65 {k : Nat} {A : Around} (r : Room k A) : A.units + 65 < cLine := by have := r.un; omega
/-! ### sorted, tuples of whole numbers -/
def intsT : D → Option (List Int)
  | .tup ds => intsD ds
  | _ => none
def intsTs : List D → Option (List (List Int))
  | [] => some []
  | d :: ds => (intsT d).bind fun n => (intsTs ds).map (n :: ·)
/-- before or alike, as tuples stand -/
def leT : List Int → List Int → Prop
  | [], _ => True
  | _ :: _, [] => False
  | x :: xs, y :: ys => x < y ∨ (x = y ∧ leT xs ys)
def rSortedT (K : PySem.W.Frag) : List V → Hp → VK → Prop := fun vs H Q => ∃ (a : Addr) (xs : List V) (key : V → List Int), vs = [V.ref a] ∧ SqL K H a xs ∧ (∀ x ∈ xs, key x ≠ [] ∧ ∃ t, x = .ref t ∧ SqT K H t ((key x).map V.int)) ∧
  ∀ (ys : List V) (p : Addr), ys.Perm xs → ys.Pairwise (fun x y => leT (key x) (key y)) → H p = none → Q (.ref p) (upd H p (.lst ys))
def lTups : D → Option (List (List Int))
  | .lst ds => intsTs ds
  | .frz ds => intsTs ds
  | _ => none
def sortTD (d : D) : W D := opt (lTups d) fun ns => chk (∀ n ∈ ns, n ≠ []) fun Q _ => ∀ ms : List (List Int), ms.Perm ns → ms.Pairwise leT → Q (.lst (ms.map fun m => .tup (m.map D.int)))
theorem lex_leT : ∀ (a b : List Int), PyProof.Rows.lexLt PyProof.Rows.itemOrd (b.map Sum.inl) (a.map Sum.inl) = false → leT a b
  | [], _, _ => trivial
  | x :: xs, [], h => by simp [PyProof.Rows.lexLt] at h
  | x :: xs, y :: ys, h => by
    rw [List.map_cons, List.map_cons, PyProof.Rows.lex_cons] at h
    have e1 : PyProof.Rows.itemOrd.blt (Sum.inl y) (Sum.inl x) = decide (y < x) := rfl
    have e2 : PyProof.Rows.itemOrd.blt (Sum.inl x) (Sum.inl y) = decide (x < y) := rfl
    rw [e1, e2] at h
    by_cases h1 : y < x
    · simp [h1] at h
    · by_cases h2 : x < y
      · exact .inl h2
      · refine .inr ⟨by omega, lex_leT xs ys ?_⟩
        simpa [h1, h2] using h
theorem tups_of {h : Heap} {sh : Nat → Bool} : ∀ {vs : List Value}, (∀ v ∈ vs, ∃ f, PyProof.Rows.TupOf h sh v f) → ∃ fs, PyProof.Rows.TupsOf h sh vs fs
  | [], _ => ⟨[], .nil⟩
  | v :: vs, H => by
    obtain ⟨f, hf⟩ := H v List.mem_cons_self
    obtain ⟨fs, hfs⟩ := tups_of (vs := vs) fun v hv => H v (List.mem_cons_of_mem _ hv)
    exact ⟨f :: fs, .cons hf hfs⟩
theorem items_of : ∀ {vs : List Value} {ns : List Int} (i : Nat), IntsAre vs ns → PyProof.Rows.tupItems (fun _ => false) i vs = some (ns.map Sum.inl)
  | _, _, _, .nil => rfl
  | _, _, i, .cons n t h => by
    show (if false = true then none else (PyProof.Rows.tupItems (fun _ => false) (i + 1) _).map (Sum.inl n :: ·)) = _
    rw [if_neg Bool.false_ne_true, items_of (i + 1) h]
    rfl
section
variable {X : Cx} {c : Cd X.K}
theorem cr_sortedT : CallR X (.builtin "sorted") (rSortedT X.K) := by
  intro pins s σ H vs us Q I r h
  obtain ⟨a, xs, key, rfl, hs, hx, q⟩ := h
  obtain ⟨its, rv, hl, hz⟩ := I.list hs
  rw [Vals.ref1 r]
  obtain ⟨e1, e2⟩ := bkV_refs rv fun x m => by
    obtain ⟨_, t, e, _⟩ := hx x m
    exact ⟨t, e⟩
  have raw : ∀ v ∈ its, key (bkV v) ≠ [] ∧ ∃ t xs, v = .ref t ∧ s.heap.IsTuple t xs ∧ IntsAre xs.toList (key (bkV v)) := fun v hv => by
    obtain ⟨t, rfl⟩ := e2 v hv
    have hm : V.ref t ∈ xs := by
      rw [e1]
      exact List.mem_map.mpr ⟨_, hv, rfl⟩
    obtain ⟨h0, t', e, ht⟩ := hx _ hm
    cases e
    obtain ⟨t2, xs2, e2, hT, hi⟩ := tupI_raw I ht
    exact ⟨h0, t2, xs2, e2, hT, hi⟩
  have keyed : ∀ v ∈ its, PyProof.Rows.G.tupKeyC s.heap (fun _ => false) v = some ((key (bkV v)).map Sum.inl) := fun v hv => by
    obtain ⟨_, t, zs, rfl, ⟨o, ho, hc, n, hd⟩, hi⟩ := raw v hv
    unfold PyProof.Rows.G.tupKeyC
    have e1 : PyProof.Rows.G.isTupObj s.heap (.ref t) = true := by simp [PyProof.Rows.G.isTupObj, ho, hc]
    rw [if_pos e1]
    simp only [PyProof.Rows.tupKey, ho, hd]
    exact items_of 0 hi
  obtain ⟨fs, hfs⟩ := tups_of (h := s.heap) (sh := fun _ => false) (vs := its) fun v hv => by
    obtain ⟨h0, t, zs, rfl, ⟨o, ho, hc, n, hd⟩, hi⟩ := raw v hv
    generalize hk : key (bkV (.ref t)) = ks at h0 hi
    generalize hz : zs.toList = zl at hi
    cases hi with
    | nil => exact absurd rfl h0
    | cons m tk rest =>
      exact ⟨_, t, o, zs, n, rfl, ho, hc, hd, by rw [← Array.getElem?_toList, hz]; rfl, (fun _ => ⟨_, _, rfl⟩), (fun z => nomatch z)⟩
  have hz' : its.length ≤ sizeLine := by rw [← rv.length]; exact hz
  refine PyProof.Rows.G.sorted_tups (fs := fs) hl.isList hfs (fun v hv => ⟨_, keyed v hv⟩) hz' fun st' hp hs hst => ?_
  obtain ⟨ep, he'⟩ := PyProof.Rows.sortedAll_at s.heap its ((PyProof.Rows.arrOf st').map (·.2))
  have hpl : (PyProof.Rows.arrOf st').toList.Perm (its.zip its) := by
    have := Array.perm_iff_toList_perm.mp hp
    rw [PyProof.Rows.pairsOf_toList] at this
    exact this
  have hmem : ∀ p ∈ (PyProof.Rows.arrOf st').toList, p.1 = p.2 ∧ p.1 ∈ its := fun p hp' => PyProof.Rows.mem_zip_self (hpl.mem_iff.mp hp')
  have hout : ((PyProof.Rows.arrOf st').map (·.2)).toList.Perm its := by
    rw [Array.toList_map]
    have := hpl.map (·.2)
    rwa [List.map_snd_zip (Nat.le_refl _)] at this
  have h3 : ∀ u ∈ ((PyProof.Rows.arrOf st').map (·.2)).toList, ∃ a, u = Value.ref a := fun u hu => e2 u (hout.mem_iff.mp hu)
  have hp2 : (((PyProof.Rows.arrOf st').map (·.2)).toList.map bkV).Perm xs := by
    rw [e1]
    exact hout.map bkV
  have hlen : (((PyProof.Rows.arrOf st').map (·.2)).toList.map bkV).length ≤ sizeLine := by
    rw [hp2.length_eq]
    exact hz
  refine ⟨.ref _, upd H (s.heap.objs.size + 1) (.lst (((PyProof.Rows.arrOf st').map (·.2)).toList.map bkV)), I.laid (t' := s.toks) (fun _ _ => PyProof.Rows.sortedAll_old) (Nat.le_succ _) ⟨hlen, _, ep, bkV_vals h3, he'⟩, rfl, q _ _ hp2 ?_ (I.hok.fresh (Nat.le_succ _))⟩
  rw [Array.toList_map, List.pairwise_map, List.pairwise_map]
  refine List.pairwise_iff_getElem.mpr fun i j hi hj hij => ?_
  have sz : (PyProof.Rows.arrOf st').toList.length = its.length := by rw [hpl.length_eq, List.length_zip, Nat.min_self]
  have hkk := hs i j (Nat.le_of_lt hij) (by rw [PyProof.Rows.pairsOf_size, ← sz]; exact hj)
  have kk : ∀ (m : Nat) (hm : m < (PyProof.Rows.arrOf st').toList.length), PyProof.Rows.KK (PyProof.Rows.G.tupKindC s.heap fun _ => false) (PyProof.Rows.arrOf st') m = (key (bkV (PyProof.Rows.arrOf st').toList[m].2)).map Sum.inl := fun m hm => by
    unfold PyProof.Rows.KK
    rw [← Array.getElem?_toList, List.getElem?_eq_getElem hm]
    obtain ⟨h1, h2⟩ := hmem _ (List.getElem_mem hm)
    show (PyProof.Rows.G.tupKeyC s.heap (fun _ => false) (PyProof.Rows.arrOf st').toList[m].1).getD [] = _
    rw [keyed _ h2, h1]
    rfl
  rw [kk i hi, kk j hj] at hkk
  exact lex_leT _ _ hkk
theorem intsTs_get : ∀ {ds : List D} {ns : List (List Int)}, intsTs ds = some ns → ds = ns.map fun n => D.tup (n.map D.int)
  | [], _, h => by cases h; rfl
  | d :: ds, ns, h => by
    unfold intsTs at h
    obtain ⟨n, h1, h2⟩ := Option.bind_eq_some_iff.mp h
    obtain ⟨ms, h3, rfl⟩ := Option.map_eq_some_iff.mp h2
    cases d with
    | tup es =>
      have h1' : intsD es = some n := h1
      rw [List.map_cons, ← intsTs_get h3, ← intsD_eq h1']
    | _ => cases h1
theorem rp_tups {G : Gx X.K} {H : Hp} : ∀ {ns : List (List Int)} {xs : List V} {F : List Addr}, RpA G H xs (ns.map fun n => D.tup (n.map D.int)) F → F = [] ∧ xs.length = ns.length ∧ ∀ i (hi : i < xs.length) (hn : i < ns.length), ∃ t, xs[i] = .ref t ∧ SqT X.K H t (ns[i].map V.int)
  | [], _, _, h => by cases h; exact ⟨rfl, rfl, fun i hi => absurd hi (Nat.not_lt_zero i)⟩
  | n :: ns, _, _, h => by
    rw [List.map_cons] at h
    cases h with
    | cons h1 h2 =>
      obtain ⟨rfl, l, k⟩ := rp_tups h2
      obtain ⟨t, zs, rfl, sx, ax⟩ := h1.tupI
      obtain ⟨rfl, rfl⟩ := ax.ints
      refine ⟨rfl, by rw [List.length_cons, List.length_cons, l], fun i hi hn => ?_⟩
      cases i with
      | zero => exact ⟨t, rfl, sx⟩
      | succ i => exact k i (by simpa using hi) (by simpa using hn)
/-- by places -/
def rSortedP (K : PySem.W.Frag) : List V → Hp → VK → Prop := fun vs H Q => ∃ (a : Addr) (xs : List V) (ns : List (List Int)), vs = [V.ref a] ∧ SqL K H a xs ∧ (∀ n ∈ ns, n ≠ []) ∧ xs.length = ns.length ∧ (∀ i (hi : i < xs.length) (hn : i < ns.length), ∃ t, xs[i] = .ref t ∧ SqT K H t (ns[i].map V.int)) ∧
  ∀ (ys : List V) (ms : List (List Int)) (p : Addr), ys.length = ms.length → (∀ i (hi : i < ys.length) (hn : i < ms.length), ∃ t, ys[i] = .ref t ∧ SqT K H t (ms[i].map V.int)) → ms.Perm ns → ms.Pairwise leT → H p = none → Q (.ref p) (upd H p (.lst ys))
theorem cr_sortedP : CallR X (.builtin "sorted") (rSortedP X.K) := by
  intro pins s σ H vs us Q I r h
  obtain ⟨a, xs, ns, rfl, hs, hne, hl, hx, q⟩ := h
  let key : V → List Int := fun x => match x with
    | .ref t => TS.intsOf s.heap (.ref t)
    | _ => []
  have kx : ∀ i (hi : i < xs.length) (hn : i < ns.length), key xs[i] = ns[i] := fun i hi hn => by
    obtain ⟨t, e, ht⟩ := hx i hi hn
    rw [e]
    exact (tupI_raw I ht).ints
  have km : xs.map key = ns := by
    refine List.ext_getElem (by rw [List.length_map, hl]) fun i h1 h2 => ?_
    rw [List.getElem_map]
    exact kx i (by simpa using h1) h2
  have kt : ∀ x ∈ xs, ∃ t, x = .ref t ∧ SqT X.K H t ((key x).map V.int) := fun x m => by
    obtain ⟨i, hi, rfl⟩ := List.mem_iff_getElem.mp m
    have hn : i < ns.length := hl ▸ hi
    obtain ⟨t, e, ht⟩ := hx i hi hn
    exact ⟨t, e, by rw [kx i hi hn]; exact ht⟩
  refine cr_sortedT pins s σ H _ us Q I r ⟨a, xs, key, rfl, hs, fun x m => ⟨?_, kt x m⟩, fun ys p hp hsrt hn => q ys (ys.map key) p (by rw [List.length_map]) (fun i hi hm => ?_) ?_ (List.pairwise_map.mpr hsrt) hn⟩
  · exact hne _ (km ▸ List.mem_map.mpr ⟨x, m, rfl⟩)
  · rw [List.getElem_map]
    exact kt _ (hp.mem_iff.mp (List.getElem_mem hi))
  · have := hp.map key
    rwa [km] at this
theorem of_tups {G : Gx X.K} {H : Hp} : ∀ {ns : List (List Int)} {xs : List V}, xs.length = ns.length → (∀ i (hi : i < xs.length) (hn : i < ns.length), ∃ t, xs[i] = .ref t ∧ SqT X.K H t (ns[i].map V.int)) → RpA G H xs (ns.map fun n => D.tup (n.map D.int)) []
  | [], [], _, _ => .nil
  | [], _ :: _, h, _ => by simp at h
  | _ :: _, [], h, _ => by simp at h
  | n :: ns, x :: xs, h, k => by
    obtain ⟨t, rfl, ht⟩ := k 0 (Nat.succ_pos _) (Nat.succ_pos _)
    have := of_tups (G := G) (ns := ns) (xs := xs) (by simpa using h) fun i hi hn => k (i + 1) (by simpa using hi) (by simpa using hn)
    have h0 := RpA.cons (Rp.tup (G := G) ht .of_ints) this
    simpa using h0
theorem cn_sortT : CallN c (rSortedP X.K) (a1 sortTD) := by
  intro H us ds F Qd Q ok ns r q k
  unfold a1 at q
  split at q
  · obtain ⟨v, rfl, r0⟩ := r.one
    obtain ⟨ms, e, hne, q⟩ := q
    obtain ⟨a, xs, es, F', rfl, sx, ax, he⟩ : ∃ a xs es F', v = .ref a ∧ SqL X.K H a xs ∧ RpA c.G H xs es F' ∧ intsTs es = some ms := by
      rename_i d
      cases d with
      | lst es =>
        obtain ⟨a, xs, F', rfl, sx, ax, _⟩ := r0.lstI
        exact ⟨a, xs, es, F', rfl, sx, ax, e⟩
      | frz es =>
        obtain ⟨a, xs, rfl, sx, ax, _⟩ := r0.frzI
        exact ⟨a, xs, es, [], rfl, sx, ax, e⟩
      | _ => cases e
    rw [intsTs_get he] at ax
    obtain ⟨rfl, hl, hx⟩ := rp_tups ax
    refine ⟨a, xs, ms, rfl, sx, hne, hl, hx, fun ys zs p hyz hy hp hsrt hn => ?_⟩
    have := of_tups (G := c.G) hyz hy
    exact k _ (q zs hp hsrt) _ _ [p] (Kp.laid ok hn _) (.lst upd_same (this.laid ok (fun _ z => nomatch z) hn _)) (fun a z => by rw [List.mem_singleton.mp z]; exact hn) (by simp)
  · exact q.elim
end
/-! ### rules in bundles -/
section
variable {X : Cx} {c : Cd X.K} {e a b : Expr} {es : List Expr} {pos p : Pos} {x : Str} {vs va vb vc : List Nat} {fs : Env → W (List D)} {fa fb fc : Env → W D} {op : List D → W D} {T id : String} {o o' : D → D → W D} {f : Value → Value → Sem Value}
def OO (X : Cx) (c : Cd X.K) (f : Value → Value → Sem Value) (o : D → D → W D) : Prop := ∃ r, OpR X f r ∧ OpD c r o
def CCD (X : Cx) (c : Cd X.K) (f : Value) (o : List D → W D) : Prop := ∃ r, CallR X f r ∧ CallD c r o
def CCN (X : Cx) (c : Cd X.K) (f : Value) (o : List D → W D) : Prop := ∃ r, CallR X f r ∧ CallN c r o
theorem oo_add : OO X c (binaryOp .Add) addD := ⟨_, or_add, od_add⟩
theorem oo_sub : OO X c (binaryOp .Sub) subD := ⟨_, op_sub, od_sub⟩
theorem oo_mul : OO X c (binaryOp .Mult) mulD := ⟨_, or_mul, od_mul⟩
theorem oo_mod : OO X c (binaryOp .Mod) modD := ⟨_, op_mod, od_mod⟩
theorem oo_fdiv : OO X c (binaryOp .FloorDiv) fdivD := ⟨_, op_fdivW, od_fdiv⟩
theorem oo_pow : OO X c (binaryOp .Pow) powD := ⟨_, op_pow, od_pow⟩
theorem oo_lt : OO X c (compareOp .Lt) ltD := ⟨_, op_lt, od_lt⟩
theorem oo_gt : OO X c (compareOp .Gt) gtD := ⟨_, op_gt, od_gt⟩
theorem oo_ge : OO X c (compareOp .GtE) geD := ⟨_, op_ge, od_ge⟩
theorem oo_le {k : Nat} (hr : Room k X.A) : OO X c (compareOp .LtE) leD := ⟨_, or_le hr.units0, od_le⟩
/-- texts are alike, whatever they hold -/
def eqS : D → D → W D
  | .str a, .str b => pu (.bl (decide (a = b)))
  | x, y => eqD x y
def neS : D → D → W D
  | .str a, .str b => pu (.bl (!decide (a = b)))
  | x, y => neD x y
theorem dec_strV (a b : Str) : decide (V.str a = V.str b) = decide (a = b) := by
  rw [Bool.eq_iff_iff]
  simp
theorem od_eqS : OpD c (fun x y H Q => rEq x y H Q ∨ rEqD X.K x y H Q) eqS := fun H x y dx dy Fx Fy Qd Q ok n1 n2 rx ry q k => by
  unfold eqS at q
  split at q
  · obtain ⟨rfl, _⟩ := rx.strI
    obtain ⟨rfl, _⟩ := ry.strI
    exact .inl ⟨rfl, k _ q _ H [] (Kp.refl ok) (by rw [dec_strV]; exact .bl _) fun _ z => nomatch z⟩
  · exact .inr (od_eq H x y _ _ Fx Fy Qd Q ok n1 n2 rx ry q k)
theorem od_neS : OpD c (fun x y H Q => rNe x y H Q ∨ rNeD X.K x y H Q) neS := fun H x y dx dy Fx Fy Qd Q ok n1 n2 rx ry q k => by
  unfold neS at q
  split at q
  · obtain ⟨rfl, _⟩ := rx.strI
    obtain ⟨rfl, _⟩ := ry.strI
    exact .inl ⟨rfl, k _ q _ H [] (Kp.refl ok) (by rw [dec_strV]; exact .bl _) fun _ z => nomatch z⟩
  · exact .inr (od_ne H x y _ _ Fx Fy Qd Q ok n1 n2 rx ry q k)
theorem oo_eq {k : Nat} (hr : Room k X.A) : OO X c (compareOp .Eq) eqS := ⟨_, OpR.or op_eq (op_eqD hr.units), od_eqS⟩
theorem oo_ne {k : Nat} (hr : Room k X.A) : OO X c (compareOp .NotEq) neS := ⟨_, OpR.or op_ne (op_neD hr.units), od_neS⟩
theorem oo_in {k : Nat} (hr : Room k X.A) : OO X c (compareOp .In) inLD := ⟨_, op_inD (hu65 hr), od_in⟩
theorem oo_nin {k : Nat} (hr : Room k X.A) : OO X c (compareOp .NotIn) ninLD := ⟨_, op_notInD (hu65 hr), od_nin⟩
theorem oo_is : OO X c (compareOp .Is) isND := ⟨_, op_isN, od_isN⟩
theorem oo_isn : OO X c (compareOp .IsNot) isnND := ⟨_, op_notN, od_isnN⟩
theorem qd_op {op : Operator} (h : OO X c (binaryOp op) o) (ha : PE X a (tD c va fa)) (hb : PE X b (tD c vb fb)) : PE X (.BinOp a op b pos) (tD c (va ++ vb) (dOp o fa fb)) := let ⟨_, h1, h2⟩ := h; pd_op h1 h2 ha hb
theorem qd_cmp {op : CmpOp} (h : OO X c (compareOp op) o) (ha : PE X a (tD c va fa)) (hb : PE X b (tD c vb fb)) (hm : behindInMarks op b = false) : PE X (.Compare a [op] [b] pos) (tD c (va ++ vb) (dOp o fa fb)) := let ⟨_, h1, h2⟩ := h; pd_cmp h1 h2 ha hb hm
theorem qt_c {op : CmpOp} (h : OO X c (compareOp op) o) (ha : PE X a (tD c va fa)) (hb : PE X b (tD c vb fb)) (hm : behindInMarks op b = false) : PT X (.Compare a [op] [b] pos) (tT c (dB (dOp o fa fb))) := let ⟨_, h1, h2⟩ := h; pt_c h1 h2 ha hb hm
theorem qd_chain {op op' : CmpOp} {ec : Expr} (h : OO X c (compareOp op) o) (h' : OO X c (compareOp op') o') (ha : PE X a (tD c va fa)) (hb : PE X b (tD c vb fb)) (hc : PE X ec (tD c vc fc)) (hm : lastMarks [op, op'] [b, ec] = false := by with_unfolding_all rfl) :
    PE X (.Compare a [op, op'] [b, ec] pos) (tD c (va ++ (vb ++ vc)) (dChain o o' fa fb fc)) := let ⟨_, h1, h2⟩ := h; let ⟨_, h3, h4⟩ := h'; pd_chain h1 h3 h2 h4 ha hb hc hm
theorem qt_ch {op op' : CmpOp} {ec : Expr} (h : OO X c (compareOp op) o) (h' : OO X c (compareOp op') o') (ha : PE X a (tD c va fa)) (hb : PE X b (tD c vb fb)) (hc : PE X ec (tD c vc fc)) (hm : lastMarks [op, op'] [b, ec] = false := by with_unfolding_all rfl) :
    PT X (.Compare a [op, op'] [b, ec] pos) (tT c (dB (dChain o o' fa fb fc))) := let ⟨_, h1, h2⟩ := h; let ⟨_, h3, h4⟩ := h'; pt_ch h1 h3 h2 h4 ha hb hc hm
theorem qd_ix (ha : PE X a (tD c va fa)) (hb : PE X b (tD c vb fb)) (hs : PlainIx b) : PE X (.Subscript a b pos) (tD c (va ++ vb) (dOp idxD fa fb)) := pd_ix xr_ix od_ix ha hb hs
theorem cc_len : CCD X c (.builtin "len") (a1 lenD) := ⟨_, call_len_seq, cd_len⟩
theorem cc_isi : CCD X c (.builtin "isinstance") (a2 isiD) := ⟨_, call_isi, cd_isi⟩
theorem cc_all (hc : X.calm = true) : CCD X c (.builtin "all") (a1 allD) := ⟨_, cr_all hc, cd_all⟩
theorem cc_sum (hc : X.calm = true) : CCD X c (.builtin "sum") (a1 sumD) := ⟨_, cr_sum hc, cd_sum⟩
theorem cc_abs : CCD X c (.builtin "abs") (a1 absD) := ⟨_, call_abs, cd_abs⟩
theorem cc_max2 (hc : X.calm = true) : CCD X c (.builtin "max") (a2 max2D) := ⟨_, call_max2 hc, cd_max2⟩
theorem cc_min2 (hc : X.calm = true) : CCD X c (.builtin "min") (a2 min2D) := ⟨_, call_min2 hc, cd_min2⟩
theorem cc_maxL (hc : X.calm = true) : CCD X c (.builtin "max") (a1 maxLD) := ⟨_, cr_max hc, cd_maxL⟩
theorem cc_minL (hc : X.calm = true) : CCD X c (.builtin "min") (a1 minLD) := ⟨_, cr_min hc, cd_minL⟩
theorem cc_tuple : CCD X c (.type "tuple") (a1 tupleD) := ⟨_, call_tuple_of, cd_tuple⟩
theorem cc_int : CCD X c (.type "int") (a1 int1D) := ⟨_, call_int1, cd_int⟩
theorem cc_list : CCN X c (.type "list") (a1 listD) := ⟨_, call_list_of, cn_list⟩
theorem cc_repr {k : Nat} (gd : X.A.guards = some []) (hr : Room k X.A) : CCD X c (.builtin "repr") (a1 reprD) := ⟨_, cr_repr gd hr.units, cd_repr⟩
theorem cc_sortI : CCN X c (.builtin "sorted") (a1 sortID) := ⟨_, cr_sortedI, cn_sortI⟩
theorem cc_sortT : CCN X c (.builtin "sorted") (a1 sortTD) := ⟨_, cr_sortedP, cn_sortT⟩
theorem qd_callB (h : CCD X c (.builtin id) op) (hv : bootBuiltins x = some (.builtin id)) (hg : Gl X x) (hm : X.mg x = none) (ha : PA X (e :: es) (tA c vs fs)) (hn : x ≠ "__name__" := by decide) (hdb : (x == ("__debug__" : Str)) = false := by decide)
    (he : starEach (e :: es) X.env = (false, eval e X.env) :: starEach es X.env := by rfl) (hpl : (backTo pos (starEach es X.env)).any (·.1) = false := by rfl) : PE X (.Call (.Name x p) (e :: es) [] pos) (tD c vs (dCB op fs)) := let ⟨_, h1, h2⟩ := h; pd_callB h1 h2 hg hm hv ha hn hdb he hpl
theorem qn_callB (h : CCN X c (.builtin id) op) (hv : bootBuiltins x = some (.builtin id)) (hg : Gl X x) (hm : X.mg x = none) (ha : PA X (e :: es) (tA c vs fs)) (hn : x ≠ "__name__" := by decide) (hdb : (x == ("__debug__" : Str)) = false := by decide)
    (he : starEach (e :: es) X.env = (false, eval e X.env) :: starEach es X.env := by rfl) (hpl : (backTo pos (starEach es X.env)).any (·.1) = false := by rfl) : PE X (.Call (.Name x p) (e :: es) [] pos) (tN c (dCB op fs)) := let ⟨_, h1, h2⟩ := h; pn_callB h1 h2 hg hm hv ha hn hdb he hpl
theorem qd_callTy (h : CCD X c (.type T) op) (hv : bootBuiltins x = some (.type T)) (hg : Gl X x) (hm : X.mg x = none) (ha : PA X (e :: es) (tA c vs fs)) (hn : x ≠ "__name__" := by decide) (hdb : (x == ("__debug__" : Str)) = false := by decide)
    (he : starEach (e :: es) X.env = (false, eval e X.env) :: starEach es X.env := by rfl) (hpl : (backTo pos (starEach es X.env)).any (·.1) = false := by rfl) : PE X (.Call (.Name x p) (e :: es) [] pos) (tD c vs (dCB op fs)) := let ⟨_, h1, h2⟩ := h; pd_callTy h1 h2 hg hm hv ha hn hdb he hpl
theorem qn_callTy (h : CCN X c (.type T) op) (hv : bootBuiltins x = some (.type T)) (hg : Gl X x) (hm : X.mg x = none) (ha : PA X (e :: es) (tA c vs fs)) (hn : x ≠ "__name__" := by decide) (hdb : (x == ("__debug__" : Str)) = false := by decide)
    (he : starEach (e :: es) X.env = (false, eval e X.env) :: starEach es X.env := by rfl) (hpl : (backTo pos (starEach es X.env)).any (·.1) = false := by rfl) : PE X (.Call (.Name x p) (e :: es) [] pos) (tN c (dCB op fs)) := let ⟨_, h1, h2⟩ := h; pn_callTy h1 h2 hg hm hv ha hn hdb he hpl
end
end DL
namespace DL
open PySem L2
/-! ### a law that makes the source first (family C: the dice) -/
theorem Fam.loc {K : PySem.W.Frag} {d : Addr} {S : List Addr} (H H' : Hp) (h : Fam K d S H) (e : ∀ b ∈ S, H' b = H b) : Fam K d S H' := by
  obtain ⟨l, g, xs, gs, t, rfl, n, h1, h2, hd, hl, hg⟩ := h
  exact ⟨l, g, xs, gs, t, rfl, n, h1, h2, by rw [e d (by simp)]; exact hd, by rw [e l (by simp)]; exact hl, by rw [e g (by simp)]; exact hg⟩
theorem Fam.mu {K : PySem.W.Frag} {d : Addr} {S : List Addr} (H : Hp) (h : Fam K d S H) : ∀ b ∈ S, Mut (H b) := by
  obtain ⟨l, g, xs, gs, t, rfl, n, h1, h2, hd, hl, hg⟩ := h
  intro b hb
  simp only [List.mem_cons, List.not_mem_nil, or_false] at hb
  rcases hb with rfl | rfl | rfl
  · rw [hd]; trivial
  · rw [hl]; trivial
  · rw [hg]; trivial
def gOf (K : PySem.W.Frag) (d : Addr) (S : List Addr) : Gx K where
  rt := some d
  S := S
  ok := Fam K d S
  loc := Fam.loc
  mu := Fam.mu
  fam := fun a h H => by cases h; exact Iff.rfl
/-- what makes the source: from the script -/
def spState (K : PySem.W.Frag) : Sp := fun vs H Q _ => ∃ (a : Addr) (ns : List Int), vs = [.ref a] ∧ Frz K H a (ns.map V.int) ∧ ns.length ≤ 63 ∧ ∀ d S H', Fam K d S H' → (∀ b o, H b = some o → H' b = some o) → Q (.ref d) H'
theorem spState_len {K : PySem.W.Frag} : ∀ vs H Q E, spState K vs H Q E → vs.length = ["script"].length := fun vs H Q E ⟨a, ns, h, _⟩ => by rw [h]; rfl
def tFst (K : PySem.W.Frag) : TS := tAsg (tCallG 1 0 (List.range 1) (spState K) L2.E0 (tCons (tVar 0) tNil) tNil) (gName 1)
def tRest (K : PySem.W.Frag) (own wr : List Nat) (g : Env → W (Fl × Env)) : TS := fun Dn σ H => ∃ (G : Gx K) (H0 : Hp) (xq : Ex → Prop), tS (K := K) ⟨G, H0, own, xq⟩ wr g Dn σ H
theorem pss_ex2 {X : Cx} {sts : List Stmt} {own w : List Nat} {g : Env → W (Fl × Env)} (h : ∀ (G : Gx X.K) (H0 : Hp) (xq : Ex → Prop), PSs X sts (tS ⟨G, H0, own, xq⟩ w g)) : PSs X sts (tRest X.K own w g) := ⟨fun pins s σ H Dn I ⟨G, H0, xq, q⟩ => (h G H0 xq).run pins s σ H Dn I q⟩
section
variable {P : Program} {w : World} {K : PySem.W.Frag} {mg : Str → Option Value} {base : Heap}
theorem lawD {x qual : Str} {st : Stmt} {f : Addr} {fd : FuncData} {N : List Str} {k : Nat} {own wr : List Nat} {g : Env → DL.W (Fl × Env)} (F : L2.Fun K x qual st f fd) (S : FnScope N ["script"] (defScope st)) (hN : 2 ≤ N.length) (ho : ∀ i ∈ own, 2 ≤ i)
    (hg : ∀ ns : List Int, ns.length ≤ 63 → ∀ X, g (env0 N.length [.frz (ns.map D.int), .src]) (fun r => r.1 = .rt (.bl true)) X)
    (hbody : ∀ (cdv : Value) (A : Around) (outer : List PySem.Env) (s : Shared) (H : Hp) (E : XK), Room k (A.deeper (PyProof.Rows.envOfC qual (defScope st) s.heap.objs.size f cdv)) → (A.deeper (PyProof.Rows.envOfC qual (defScope st) s.heap.objs.size f cdv)).guards = some [] →
      PSs (cxOf CX0 P w K mg base N qual (defScope st) f cdv A outer s H E).nox (defBody st) (tSeq (tFst K) (tRest K own wr g))) : FnG P w K mg base CX0 (k + 1) f fd ["script"] (spLaw K) := by
  obtain ⟨oc, od, kV, doc, pm, an, cdv, ct, osl, rfl, lk, hcd⟩ := F.ex
  refine fnG_of lk hcd S (fun vs H Q E ⟨a, ns, h, _⟩ => by rw [h]; rfl) fun A outer s H vs Q E hr gd ⟨a, ns, hv, fz, h63, kq⟩ => ?_
  subst hv
  refine ⟨_, (hbody cdv A outer s H E hr (deep_guards gd)).nox, ?_⟩
  have s0 : (L2.start N [.ref a])[0]? = some (some (.ref a)) := rfl
  refine ⟨.ref a, s0, rfl, rfl, a, ns, rfl, fz, h63, fun d S' H' fam same => ?_⟩
  have fz' : Frz K H' a (ns.map V.int) := fz.mono fun b o e _ => same b o e
  have len : (L2.start N [.ref a]).length = N.length := by
    unfold L2.start
    rw [List.length_append, List.length_map, List.length_replicate]
    show 1 + (N.length - 1) = N.length
    omega
  refine ⟨gOf K d S', H', fun _ => False, fun _ => [], env0 N.length [.frz (ns.map D.int), .src], fun r => r.1 = .rt (.bl true), ?_, hg ns h63 _, fun f δ' q => ?_⟩
  · refine ⟨fam, ?_, fun i dd q => ?_, (fun _ _ => rfl), (fun _ _ z => nomatch z), (fun _ _ _ z => nomatch z), (fun _ _ => List.nodup_nil), (fun _ _ _ _ _ z => nomatch z), (fun _ _ e _ => e)⟩
    · rw [List.length_set, len]
      unfold env0
      rw [List.length_append, List.length_map, List.length_replicate]
      show N.length = 2 + (N.length - 2)
      omega
    · rw [gt_env0] at q
      match i, q with
      | 0, q =>
        cases q
        exact ⟨.ref a, by rw [List.getElem?_set_ne (by omega)]; exact s0, .frz fz' .of_ints⟩
      | 1, q =>
        cases q
        exact ⟨.ref d, List.getElem?_set_self (by rw [len]; omega), .src rfl⟩
  · have q' : f = .rt (.bl true) := q
    subst q'
    exact fun v F' H2 ok' rv fr nd fm => by
      obtain ⟨rfl, _⟩ := rv.blI
      exact kq H2
end
end DL
namespace DL
open PySem L2
section
variable {X : Cx} {c : Cd X.K} {e a b ec : Expr} {es : List Expr} {pos p : Pos} {x : Str} {vs va vb vc : List Nat} {fs : Env → W (List D)} {fa fb fc : Env → W D}
/-! ### truth of anything -/
def trD : D → W Bool
  | .non => pu false
  | .bl b => pu b
  | .int i => pu (i != 0)
  | .str s => chk (s.length ≤ sizeLine) (pu ((s.length : Int) != 0))
  | .lst ds => pu (!ds.isEmpty)
  | .frz ds => pu (!ds.isEmpty)
  | .tup ds => pu (!ds.isEmpty)
  | .dic ks _ => pu (!ks.isEmpty)
  | _ => fl
def dTr (f : Env → W D) : Env → W Bool := fun δ => bd (f δ) trD
theorem emp_len {α β : Type} {xs : List α} {ys : List β} (h : xs.length = ys.length) : (!ys.isEmpty) = !xs.isEmpty := by
  cases xs <;> cases ys <;> simp_all
theorem pt_tr (h : PE X e (tD c va fa)) (he : ∀ whole, isTrue e X.env whole = (do let v ← whole; standAt e.pos; holding [v] (truthy v)) := by intro _; rfl) : PT X e (tT c (dTr fa)) := (pt_truth h he).wk fun σ H Q ⟨fp, δ, Qd, e, hf, k⟩ => by
  refine ⟨fp, δ, fun d => trD d Qd c.xq, e, hf, fun d qd v H' F p r => ?_⟩
  cases r with
  | non => exact ⟨_, rfl, k _ qd H' p.kp⟩
  | bl b => exact ⟨_, rfl, k _ qd H' p.kp⟩
  | int i => exact ⟨_, rfl, k _ qd H' p.kp⟩
  | str s => exact ⟨_, ⟨qd.1, rfl⟩, k _ qd.2 H' p.kp⟩
  | lst hl ax => exact ⟨_, .inl ⟨_, SqL.of hl, emp_len ax.length⟩, k _ qd H' p.kp⟩
  | frz hl ax => exact ⟨_, .inl ⟨_, hl.sq, emp_len ax.length⟩, k _ qd H' p.kp⟩
  | tup hl ax => exact ⟨_, .inr (.inl ⟨_, hl, emp_len ax.length⟩), k _ qd H' p.kp⟩
  | dic hl ax => exact ⟨_, .inr (.inr ⟨_, hl, emp_len (by rw [List.length_map])⟩), k _ qd H' p.kp⟩
  | _ => exact qd.elim
/-! ### x, y, z = a, b, c -/
def sPar3 (i j l : Nat) (f f' f'' : Env → W D) : Env → W (Fl × Env) := fun δ => bd (f δ) fun d => bd (f' δ) fun d' => bd (f'' δ) fun d'' => chk (i < δ.length ∧ j < δ.length ∧ l < δ.length) (pu (.nx, ((δ.set i (some d)).set j (some d')).set l (some d'')))
theorem sd_par3 {i j l : Nat} {y z : Str} {px py pz pt : Pos} {kt k2 pt2} (hc : X.calm = true) (hN : X.N.Nodup) (hi : X.N[i]? = some x) (hj : X.N[j]? = some y) (hl : X.N[l]? = some z) (hij : i ≠ j) (hil : i ≠ l) (hjl : j ≠ l)
    (hx : X.env.scope.names.lookup x = some .local) (hy : X.env.scope.names.lookup y = some .local) (hz : X.env.scope.names.lookup z = some .local) (ha : PE X a (tN c fa)) (hb : PE X b (tN c fb)) (hcc : PE X ec (tN c fc))
    (hw : swappedStores [.Tuple [.Name x px, .Name y py, .Name z pz] kt pt] (.Tuple [a, b, ec] k2 pt2) X.env = pure (some [x, y, z])) (hs : swapsWithSole [.Tuple [.Name x px, .Name y py, .Name z pz] kt pt] (.Tuple [a, b, ec] k2 pt2) pos.line X.env = pure false := by rfl)
    (hs1 : starEach (a :: [b, ec]) X.env = (false, eval a X.env) :: starEach [b, ec] X.env := by rfl) (hs2 : starEach (b :: [ec]) X.env = (false, eval b X.env) :: starEach [ec] X.env := by rfl) (hs3 : starEach (ec :: []) X.env = (false, eval ec X.env) :: starEach [] X.env := by rfl) :
    PS X (.Assign [.Tuple [.Name x px, .Name y py, .Name z pz] kt pt] (.Tuple [a, b, ec] k2 pt2) pos) (tS c [i, j, l] (sPar3 i j l fa fb fc)) := (ps_par3 hc hN hi hj hl hij hil hjl hx hy hz (pa_cons ha (pa_cons hb (pa_cons hcc pa_nil hs3) hs2) hs1) hw hs).wk fun Dn σ H h => by
  obtain ⟨fp, δ, Qd, e, hf, k⟩ := h
  refine ⟨fp, δ, fun d => bd (fb δ) (fun d' => bd (fc δ) fun d'' => chk (i < δ.length ∧ j < δ.length ∧ l < δ.length) (pu (Fl.nx, ((δ.set i (some d)).set j (some d')).set l (some d'')))) Qd c.xq, e, hf, fun d qd v H1 F1 kp1 r1 fr1 nd1 => ?_⟩
  refine ⟨fp, δ, fun d' => bd (fc δ) (fun d'' => chk (i < δ.length ∧ j < δ.length ∧ l < δ.length) (pu (Fl.nx, ((δ.set i (some d)).set j (some d')).set l (some d'')))) Qd c.xq, e.kp kp1, qd, fun d' qd' v' H2 F2 kp2 r2 fr2 nd2 => ?_⟩
  refine ⟨fp, δ, fun d'' => chk (i < δ.length ∧ j < δ.length ∧ l < δ.length) (pu (Fl.nx, ((δ.set i (some d)).set j (some d')).set l (some d''))) Qd c.xq, e.kp (kp1.trans kp2), qd', fun d'' ⟨⟨hi, hj, hl⟩, q⟩ v'' H3 F3 kp3 r3 fr3 nd3 => ?_⟩
  refine ⟨v, v', v'', rfl, ?_⟩
  have e1 := e.setN kp1 hi r1 fr1 nd1
  have hj' : j < (δ.set i (some d)).length := by rw [List.length_set]; exact hj
  have e2 := e1.setN kp2 hj' r2 fr2 nd2
  have hl' : l < ((δ.set i (some d)).set j (some d')).length := by rw [List.length_set, List.length_set]; exact hl
  have e3 := e2.setN kp3 hl' r3 fr3 nd3
  refine k _ _ q _ H3 _ e3 ?_
  exact (((Step.setN kp1 fr1).wk fun l z => by simp [List.mem_singleton.mp z]).trans ((Step.setN kp2 fr2).wk fun l z => by simp [List.mem_singleton.mp z])).trans ((Step.setN kp3 fr3).wk fun l z => by simp [List.mem_singleton.mp z])
/-! ### tuple(range(..)) -/
def tupRng (fs : Env → W (List D)) : Env → W D := fun δ => bd (fs δ) fun ds => opt (ints1 ds) fun j => chk (j ≤ 16777216 ∧ 0 ≤ j) (pu (.tup (rngD 0 j.toNat)))
theorem pn_tupRng {p2 pos2 : Pos} (hc : X.calm = true) (hg : Gl X "tuple") (hm : X.mg "tuple" = none) (hg2 : Gl X "range") (hm2 : X.mg "range" = none) (ha : PE X a (tD c vs fa)) (na : starEach [a] X.env = (false, eval a X.env) :: starEach [] X.env := by rfl)
    (na2 : starEach [.Call (.Name "range" p2) [a] [] pos2] X.env = (false, eval (.Call (.Name "range" p2) [a] [] pos2) X.env) :: starEach [] X.env := by rfl) : PE X (.Call (.Name "tuple" p) [.Call (.Name "range" p2) [a] [] pos2] [] pos) (tN c (tupRng (dCons fa dNil))) :=
  (pe_tupRg hc hg hm (prg_1 hg2 hm2 ha na) na2).wk fun σ H Q ⟨fp, δ, Qd, e, hf, k⟩ => by
    refine ⟨fp, δ, fun d => opt (ints1 [d]) (fun j => chk (j ≤ 16777216 ∧ 0 ≤ j) (pu (D.tup (rngD 0 j.toNat)))) Qd c.xq, e, hf, fun d ⟨j, hj, ⟨h1, h0⟩, q⟩ v H' F p r => ?_⟩
    have ed := ints1_eq hj
    cases ed
    obtain ⟨rfl, _⟩ := r.intI
    refine ⟨j, rfl, .of_le (Int.le_refl 0) h1 (by decide) h0, fun l hl => ?_⟩
    have e2 : rgV 0 j = (List.range j.toNat).map fun i => V.int (0 + (i : Nat)) := by unfold rgV; rw [Int.sub_zero]
    rw [e2]
    exact k _ q _ _ [] (p.kp.trans (Kp.laid p.kp.ok hl _)) (.tup (SqT.of upd_same) (rngA 0 j.toNat _ _)) (fun _ z => nomatch z) List.nodup_nil
end
end DL
namespace DL
open PySem L2
/-! ### {k: v, ..}, d[k] -/
def asKey : D → Option Key
  | .int i => some (.inl i)
  | .str s => some (.inr s)
  | _ => none
def prs : List D → Option (List (Key × D))
  | [] => some []
  | [_] => none
  | k :: v :: r => (asKey k).bind fun k' => (prs r).map ((k', v) :: ·)
def flat : List (V × V) → List V
  | [] => []
  | p :: ps => p.1 :: p.2 :: flat ps
theorem flat_inj : ∀ {a b : List (V × V)}, flat a = flat b → a = b
  | [], [], _ => rfl
  | [], _ :: _, h => by simp [flat] at h
  | _ :: _, [], h => by simp [flat] at h
  | (x, y) :: a, (x', y') :: b, h => by
    simp only [flat, List.cons.injEq] at h
    rw [h.1, h.2.1, flat_inj h.2.2]
theorem merge_new : ∀ (more kvs : List (Key × V)), ((kvs ++ more).map (·.1)).Nodup → mergeK kvs more = kvs ++ more
  | [], kvs, _ => by rw [List.append_nil]; rfl
  | p :: r, kvs, h => by
    have n : ∀ q ∈ kvs, q.1 ≠ p.1 := fun q hq e => by
      rw [List.map_append, List.nodup_append] at h
      exact h.2.2 q.1 (List.mem_map.mpr ⟨q, hq, rfl⟩) p.1 (by simp) e
    have e : putK kvs p.1 p.2 = kvs ++ [p] := by
      unfold putK
      rw [if_neg]
      simp only [List.any_eq_true, decide_eq_true_eq, not_exists, not_and]
      exact n
    show mergeK (putK kvs p.1 p.2) r = _
    rw [e, merge_new r (kvs ++ [p]) (by simpa using h)]
    simp
def dicK (ps : List (Key × D)) : W D := chk (ps.length ≤ 15 ∧ (ps.map (·.1)).Nodup ∧ D.imms (ps.map (·.2)) = true) (pu (.dic (ps.map (·.1)) (ps.map (·.2))))
def dDic (fs : Env → W (List D)) : Env → W D := fun δ => bd (fs δ) fun l => opt (prs l) dicK
theorem prs_rp {K : PySem.W.Frag} {G : Gx K} {H : Hp} : ∀ {l : List D} {ps : List (Key × D)} {us : List V} {F : List Addr}, prs l = some ps → RpA G H us l F → D.imms (ps.map (·.2)) = true →
    ∃ kvs : List (Key × V), us = flat (kvs.map fun kv => (kV kv.1, kv.2)) ∧ kvs.map (·.1) = ps.map (·.1) ∧ RpA G H (kvs.map (·.2)) (ps.map (·.2)) []
  | [], _, _, _, h, r, _ => by
    cases h
    cases r
    exact ⟨[], rfl, rfl, .nil⟩
  | [_], _, _, _, h, _, _ => by cases h
  | k :: v :: l, ps, us, F, h, r, im => by
    unfold prs at h
    obtain ⟨k', h1, h2⟩ := Option.bind_eq_some_iff.mp h
    obtain ⟨qs, h3, rfl⟩ := Option.map_eq_some_iff.mp h2
    simp only [List.map_cons, D.imms, Bool.and_eq_true] at im
    cases r with
    | @cons x _ F1 _ _ F2 r1 r' =>
      cases r' with
      | @cons y _ F3 us' _ F4 r2 r3 =>
        obtain ⟨kvs, e1, e2, e3⟩ := prs_rp h3 r3 im.2
        have e0 := Rp.imm_nil _ _ _ r2 im.1
        subst e0
        have ex : x = kV k' := by
          cases k with
          | int i => cases h1; exact (Rp.intI r1).1
          | str s => cases h1; exact (Rp.strI r1).1
          | _ => cases h1
        refine ⟨(k', y) :: kvs, by rw [ex, e1]; rfl, by simp [e2], ?_⟩
        simpa using RpA.cons r2 e3
section
variable {X : Cx} {c : Cd X.K} {a b : Expr} {pos : Pos} {va vb vs : List Nat} {fa fb : Env → W D} {fs : Env → W (List D)} {keys : List (Option Expr)} {values : List Expr}
theorem tD_mono {σ : St} {H : Hp} {Q Q' : VK} (h : tD c va fa σ H Q) (k : ∀ v H', Q v H' → Q' v H') : tD c va fa σ H Q' := by
  obtain ⟨fp, δ, Qd, e, hf, q⟩ := h
  exact ⟨fp, δ, Qd, e, hf, fun d qd v H' F p r => k _ _ (q d qd v H' F p r)⟩
theorem tA_cons {σ : St} {H : Hp} {Q : List V → Hp → Prop} (h : tA c (va ++ vb) (dCons fa fs) σ H Q) : tD c va fa σ H fun v H1 => tA c vb fs σ H1 fun us H2 => Q (v :: us) H2 := by
  obtain ⟨fp, δ, Qd, e, hf, k⟩ := h
  refine ⟨fp, δ, fun d => bd (fs δ) (fun ds => pu (d :: ds)) Qd c.xq, e, hf, fun d qd v H1 F1 p1 r1 => ?_⟩
  refine ⟨fp, δ, fun ds => Qd (d :: ds), e.kp p1.kp, qd, fun ds qds us H2 F2 p2 r2 => ?_⟩
  exact k _ qds _ H2 _ ((p1.more p2.kp).join (p2.ahead p1.kp)) (.cons (r1.kp p2.kp p1.nos) r2)
def PPD (X : Cx) (pos : Pos) (keys : List (Option Expr)) (values : List Expr) (c : Cd X.K) (vs : List Nat) (fs : Env → W (List D)) : Prop :=
  ∃ trs, PPs X pos keys values trs ∧ ∀ (σ : St) (H : Hp) (Q : List (V × V) → Hp → Prop), (tA c vs fs σ H fun us H' => ∀ ps, flat ps = us → Q ps H') → tPairs trs σ H Q
theorem ppd_nil : PPD X pos [] [] c [] dNil := ⟨[], pps_nil, fun σ H Q ⟨fp, δ, Qd, e, hf, k⟩ => k [] hf [] H [] (.nil e.ok) .nil [] rfl⟩
theorem ppd_cons (ha : PE X a (tD c va fa)) (hb : PE X b (tD c vb fb)) (h : PPD X pos keys values c vs fs) : PPD X pos (some a :: keys) (b :: values) c (va ++ (vb ++ vs)) (dCons fa (dCons fb fs)) := by
  obtain ⟨trs, h1, h2⟩ := h
  refine ⟨_, pps_cons ha hb h1, fun σ H Q q => ?_⟩
  refine tD_mono (tA_cons q) fun x H1 q1 => tD_mono (tA_cons q1) fun y H2 q2 => h2 _ _ _ ?_
  obtain ⟨fp, δ, Qd, e, hf, k⟩ := q2
  exact ⟨fp, δ, Qd, e, hf, fun ds qd us H' F p r ps hps => k ds qd us H' F p r ((x, y) :: ps) (by rw [← hps]; rfl)⟩
theorem pn_dic (h : PPD X pos keys values c vs fs) (hall : keys.all (·.isSome) = true := by rfl) (hl : keys.length = values.length := by rfl) (h0 : keys ≠ [] := by exact fun z => nomatch z) (h15 : keys.length ≤ 15 := by decide) : PE X (.Dict keys values pos) (tN c (dDic fs)) := by
  obtain ⟨trs, h1, h2⟩ := h
  refine (pe_disp h1 hall hl h0 h15).wk fun σ H Q ⟨fp, δ, Qd, e, hf, k⟩ p hp => ?_
  have k1 : Kp c.G H (upd H p (.dK [])) := Kp.laid e.ok hp _
  have pS := notS0 e.ok hp
  refine h2 _ _ _ ⟨fp, δ, fun l => opt (prs l) dicK Qd c.xq, e.kp k1, hf, fun l ⟨qs, hq, ⟨g1, g2, g3⟩, q⟩ us H2 F p2 r2 ps hps => ?_⟩
  obtain ⟨kvs, e1, e2, e3⟩ := prs_rp hq r2 g3
  have eps := flat_inj (hps.trans e1)
  have hp2 : H2 p = some (.dK []) := p2.kp.kp _ _ upd_same pS
  have em : mergeK [] kvs = kvs := merge_new kvs [] (by rw [List.nil_append, e2]; exact g2)
  refine ⟨hp2, kvs, eps, by have := congrArg List.length e2; simp only [List.length_map] at this; omega, ?_⟩
  rw [em]
  have hd : Hd c.G [] H2 (upd H2 p (.dK kvs)) := ⟨p2.kp.ok, fun b o z m => by rw [upd_ne (fun w : b = p => m (by rw [w, hp2] at z; cases z; trivial))]; exact z, fun _ _ _ z => nomatch z⟩
  have kk := k1.trans p2.kp
  refine k _ q (.ref p) _ [p] ⟨fun b o z n => by rw [upd_ne (fun w : b = p => by rw [w, hp] at z; cases z)]; exact kk.kp b o z n, fun b z => by
    by_cases w : b = p
    · rw [w, upd_same]; exact fun z => nomatch z
    · rw [upd_ne w]; exact kk.dm b z, e.ok, c.G.loc H2 _ kk.ok fun b hb => upd_ne fun w => pS (w ▸ hb)⟩ ?_ (fun a z => by rw [List.mem_singleton.mp z]; exact hp) (by simp)
  rw [← e2]
  exact .dic upd_same (RpA.hd _ _ _ e3 hd)
/-! ### d[k] -/
def dicAt : List Key → List D → Key → Option D
  | k :: ks, d :: ds, k' => if k = k' then some d else dicAt ks ds k'
  | _, _, _ => none
def dixD : D → D → W D
  | .dic ks ds, k => opt (asKey k) fun k' => opt (dicAt ks ds k') pu
  | _, _ => fl
theorem dicAt_val {K : PySem.W.Frag} {G : Gx K} {H : Hp} {k : Key} {d : D} : ∀ {kvs : List (Key × V)} {ds : List D} {F : List Addr}, RpA G H (kvs.map (·.2)) ds F → dicAt (kvs.map (·.1)) ds k = some d → ∃ v F', valV kvs k = some v ∧ Rp G H v d F' ∧ ∀ a ∈ F', a ∈ F
  | [], _, _, r, h => by cases r; cases h
  | kv :: kvs, ds, F, r, h => by
    rw [List.map_cons] at r h
    cases r with
    | @cons _ d0 F1 _ ds0 F2 r1 r2 =>
      unfold dicAt at h
      by_cases e : kv.1 = k
      · rw [if_pos e] at h
        cases h
        exact ⟨kv.2, F1, valV_pos e, r1, fun a z => List.mem_append_left _ z⟩
      · rw [if_neg e] at h
        obtain ⟨v, F', h1, h2, h3⟩ := dicAt_val r2 h
        exact ⟨v, F', (valV_neg e).trans h1, h2, fun a z => List.mem_append_right _ (h3 a z)⟩
def rDix : R2 := fun x y H Q => ∃ a v, x = .ref a ∧ DGet H a y (some v) ∧ Q v H
theorem od_dix : OpD c rDix dixD := od_flat fun H x y dx dy Fx Fy Qd Q ok rx ry q k => by
  unfold dixD at q
  split at q
  · rename_i ks ds
    obtain ⟨k', hk, d, hd, q⟩ := q
    cases rx with
    | @dic a kvs _ F hl ax =>
      obtain ⟨v, F', h1, h2, h3⟩ := dicAt_val ax hd
      have ey : y = kV k' := by
        cases dy with
        | int i => cases hk; exact (Rp.intI ry).1
        | str s => cases hk; exact (Rp.strI ry).1
        | _ => cases hk
      exact ⟨a, v, rfl, by rw [ey, ← h1]; exact DGet.k hl, k _ q v F' h2 fun b z => .inl (List.mem_cons_of_mem _ (h3 b z))⟩
  · exact q.elim
theorem qd_dix {k : Nat} (hr : Room k X.A) (ha : PE X a (tD c va fa)) (hb : PE X b (tD c vb fb)) (hs : NoSl b) : PE X (.Subscript a b pos) (tD c (va ++ vb) (dOp dixD fa fb)) := (pe_dget (hu_of hr) ha hb hs).wk (tOp_of (r := rDix) od_dix)
end
end DL
namespace CY
open PySem L2 DL
abbrev N_own_links : List Str := ["yard", "found", "first", "second", "least", "greatest", "pair"]
def g_own_links : DL.Env → DL.W (Fl × DL.Env) := (sSeq (sSetN 1 (dLcN [6] (fSeq (dOp idxD (dV 0) (dC (.int 0)))) (bName 6) dYes (dLst dNil))) (sSeq (sFor (fSeq (dOp idxD (dV 0) (dC (.int 1)))) (bTup 4 (bCons (bName 2) (bCons (bName 3) (bCons (bName 4) (bCons (bName 5) bNil))))) (sSeq (sAppIx 1 (dV 2) (dTup (dCons (dV 3) (dCons (dV 4) (dCons (dV 5) dNil))))) (sAppIx 1 (dV 3) (dTup (dCons (dV 2) (dCons (dUn negD (dV 5)) (dCons (dUn negD (dV 4)) dNil))))))) (sRetV 1)))
def F_own_links : List D → DL.W D := bodyD 1 N_own_links.length g_own_links
abbrev N_is_between : List Str := ["value", "least", "most"]
def g_is_between : DL.Env → DL.W (Fl × DL.Env) := (sRet (dAnd (dCB (a2 isiD) (dCons (dV 0) (dCons (dC (.ty "int")) dNil))) (dAnd (dNot (dCB (a2 isiD) (dCons (dV 0) (dCons (dC (.ty "bool")) dNil)))) (dChain leD leD (dV 1) (dV 0) (dV 2)))))
def F_is_between : List D → DL.W D := bodyD 3 N_is_between.length g_is_between
abbrev N_is_walls : List Str := ["value", "place"]
def g_is_walls : DL.Env → DL.W (Fl × DL.Env) := (sSeq (sIf (dOrT (dNotT (dB (dCB (a2 isiD) (dCons (dV 0) (dCons (dC (.ty "tuple")) dNil))))) (dB (dOp neS (dCB (a1 lenD) (dCons (dV 0) dNil)) (dC (.int 2))))) (sRet (dC (.bl false))) sNil) (sRet (dAnd (dCB (a1 allD) (dCons (dLc [1] (fSeq (dV 0)) (bName 1) dYes (dCall F_is_between (dCons (dV 1) (dCons (dUn negD (dC (.int 1000000000))) (dCons (dC (.int 1000000000)) dNil))))) dNil)) (dOp leD (dOp idxD (dV 0) (dC (.int 0))) (dOp idxD (dV 0) (dC (.int 1)))))))
def F_is_walls : List D → DL.W D := bodyD 1 N_is_walls.length g_is_walls
abbrev N_is_coupling : List Str := ["value", "many", "first", "second", "least", "greatest"]
def g_is_coupling : DL.Env → DL.W (Fl × DL.Env) := (sSeq (sIf (dOrT (dNotT (dB (dCB (a2 isiD) (dCons (dV 0) (dCons (dC (.ty "tuple")) dNil))))) (dB (dOp neS (dCB (a1 lenD) (dCons (dV 0) dNil)) (dC (.int 4))))) (sRet (dC (.bl false))) sNil) (sSeq (sAsg (dV 0) (bTup 4 (bCons (bName 2) (bCons (bName 3) (bCons (bName 4) (bCons (bName 5) bNil)))))) (sSeq (sIf (dOrT (dNotT (dB (dCall F_is_between (dCons (dV 2) (dCons (dC (.int 0)) (dCons (dOp subD (dV 1) (dC (.int 1))) dNil)))))) (dOrT (dNotT (dB (dCall F_is_between (dCons (dV 3) (dCons (dC (.int 0)) (dCons (dOp subD (dV 1) (dC (.int 1))) dNil)))))) (dB (dOp geD (dV 2) (dV 3))))) (sRet (dC (.bl false))) sNil) (sSeq (sIf (dNotT (dB (dCall F_is_between (dCons (dV 4) (dCons (dUn negD (dC (.int 10000000000))) (dCons (dC (.int 10000000000)) dNil)))))) (sRet (dC (.bl false))) sNil) (sRet (dAnd (dCall F_is_between (dCons (dV 5) (dCons (dUn negD (dC (.int 10000000000))) (dCons (dC (.int 10000000000)) dNil)))) (dOp ltD (dV 4) (dV 5))))))))
def F_is_coupling : List D → DL.W D := bodyD 2 N_is_coupling.length g_is_coupling
abbrev N_couplings_problem : List Str := ["couplings", "many", "labels", "before", "index", "coupling", "one", "other", "label"]
def g_couplings_problem : DL.Env → DL.W (Fl × DL.Env) := (sSeq (sPar 2 3 (listRng (dCons (dV 1) dNil)) (dImm (dTup (dCons (dUn negD (dC (.int 1))) (dCons (dUn negD (dC (.int 1))) dNil))))) (sSeq (sFor (fEn (dCons (dV 0) dNil)) (bTup 2 (bCons (bName 4) (bCons (bName 5) bNil))) (sSeq (sIf (dOrT (dNotT (dB (dCall F_is_coupling (dCons (dV 5) (dCons (dV 1) dNil))))) (dB (dOp leD (dSl (dV 5) dNo (dSo (dC (.int 2)))) (dV 3)))) (sRet (dV 4)) sNil) (sSeq (sSet 3 (dSl (dV 5) dNo (dSo (dC (.int 2))))) (sSeq (sPar 6 7 (dImm (dOp idxD (dV 2) (dOp idxD (dV 3) (dC (.int 0))))) (dImm (dOp idxD (dV 2) (dOp idxD (dV 3) (dC (.int 1)))))) (sSeq (sIf (dB (dOp eqS (dV 6) (dV 7))) (sRet (dV 4)) sNil) (sSetN 2 (dLc [8] (fSeq (dV 2)) (bName 8) dYes (dIf (dB (dOp eqS (dV 8) (dV 7))) (dV 6) (dV 8))))))))) (sRet (dC .non))))
def F_couplings_problem : List D → DL.W D := bodyD 2 N_couplings_problem.length g_couplings_problem
abbrev N_yard_problem : List Str := ["value", "walls", "couplings", "index", "pair"]
def g_yard_problem : DL.Env → DL.W (Fl × DL.Env) := (sSeq (sIf (dOrT (dNotT (dB (dCB (a2 isiD) (dCons (dV 0) (dCons (dC (.ty "tuple")) dNil))))) (dB (dOp neS (dCB (a1 lenD) (dCons (dV 0) dNil)) (dC (.int 2))))) (sRet (dTup (dCons (dC (.str "form")) (dCons (dC .non) dNil)))) sNil) (sSeq (sAsg (dV 0) (bTup 2 (bCons (bName 1) (bCons (bName 2) bNil)))) (sSeq (sIf (dOrT (dNotT (dB (dCB (a2 isiD) (dCons (dV 1) (dCons (dC (.ty "tuple")) dNil))))) (dNotT (dB (dChain leD leD (dC (.int 1)) (dCB (a1 lenD) (dCons (dV 1) dNil)) (dC (.int 40)))))) (sRet (dTup (dCons (dC (.str "walls")) (dCons (dC .non) dNil)))) sNil) (sSeq (sFor (fEn (dCons (dV 1) dNil)) (bTup 2 (bCons (bName 3) (bCons (bName 4) bNil))) (sIf (dNotT (dB (dCall F_is_walls (dCons (dV 4) dNil)))) (sRet (dTup (dCons (dC (.str "walls")) (dCons (dV 3) dNil)))) sNil)) (sSeq (sIf (dNotT (dB (dCB (a2 isiD) (dCons (dV 2) (dCons (dC (.ty "tuple")) dNil))))) (sRet (dTup (dCons (dC (.str "couplings")) (dCons (dC .non) dNil)))) sNil) (sSeq (sSetN 3 (dCall F_couplings_problem (dCons (dV 2) (dCons (dCB (a1 lenD) (dCons (dV 1) dNil)) dNil)))) (sRet (dIf (dB (dOp isND (dV 3) (dC .non))) (dC .non) (dTup (dCons (dC (.str "couplings")) (dCons (dV 3) dNil)))))))))))
def F_yard_problem : List D → DL.W D := bodyD 1 N_yard_problem.length g_yard_problem
abbrev N_validate_yard : List Str := ["yard", "problem"]
def g_validate_yard : DL.Env → DL.W (Fl × DL.Env) := (sSeq (sSetN 1 (dCall F_yard_problem (dCons (dV 0) dNil))) (sIf (dB (dOp isnND (dV 1) (dC .non))) (fun _ => fl) sNil))
def F_validate_yard : List D → DL.W D := bodyD 1 N_validate_yard.length g_validate_yard
abbrev N_arrangement_problem : List Str := ["yard", "value", "wagon", "low", "high", "index", "first", "second", "least", "greatest"]
def g_arrangement_problem : DL.Env → DL.W (Fl × DL.Env) := (sSeq (sIf (dOrT (dNotT (dB (dCB (a2 isiD) (dCons (dV 1) (dCons (dC (.ty "tuple")) dNil))))) (dB (dOp neS (dCB (a1 lenD) (dCons (dV 1) dNil)) (dCB (a1 lenD) (dCons (dOp idxD (dV 0) (dC (.int 0))) dNil))))) (sRet (dTup (dCons (dC (.str "form")) (dCons (dC .non) dNil)))) sNil) (sSeq (sFor (fEn (dCons (dOp idxD (dV 0) (dC (.int 0))) dNil)) (bTup 2 (bCons (bName 2) (bCons (bTup 2 (bCons (bName 3) (bCons (bName 4) bNil))) bNil))) (sIf (dNotT (dB (dCall F_is_between (dCons (dOp idxD (dV 1) (dV 2)) (dCons (dV 3) (dCons (dV 4) dNil)))))) (sRet (dTup (dCons (dC (.str "places")) (dCons (dV 2) dNil)))) sNil)) (sSeq (sFor (fEn (dCons (dOp idxD (dV 0) (dC (.int 1))) dNil)) (bTup 2 (bCons (bName 5) (bCons (bTup 4 (bCons (bName 6) (bCons (bName 7) (bCons (bName 8) (bCons (bName 9) bNil))))) bNil))) (sIf (dNotT (dB (dChain leD leD (dV 8) (dOp subD (dOp idxD (dV 1) (dV 7)) (dOp idxD (dV 1) (dV 6))) (dV 9)))) (sRet (dTup (dCons (dC (.str "couplings")) (dCons (dV 5) dNil)))) sNil)) (sRet (dC .non)))))
def F_arrangement_problem : List D → DL.W D := bodyD 2 N_arrangement_problem.length g_arrangement_problem
abbrev N_need_arrangement : List Str := ["yard", "arrangement", "problem"]
def g_need_arrangement : DL.Env → DL.W (Fl × DL.Env) := (sSeq (sSetN 2 (dCall F_arrangement_problem (dCons (dV 0) (dCons (dV 1) dNil)))) (sIf (dB (dOp isnND (dV 2) (dC .non))) (fun _ => fl) sNil))
def F_need_arrangement : List D → DL.W D := bodyD 2 N_need_arrangement.length g_need_arrangement
abbrev N_validate_arrangement : List Str := ["yard", "arrangement"]
def g_validate_arrangement : DL.Env → DL.W (Fl × DL.Env) := (sSeq (sExpr (dCall F_validate_yard (dCons (dV 0) dNil))) (sExpr (dCall F_need_arrangement (dCons (dV 0) (dCons (dV 1) dNil)))))
def F_validate_arrangement : List D → DL.W D := bodyD 2 N_validate_arrangement.length g_validate_arrangement
abbrev N_holder_of : List Str := ["links", "places", "wagon", "sign", "other", "least", "greatest"]
def g_holder_of : DL.Env → DL.W (Fl × DL.Env) := (sSeq (sFor (fSeq (dOp idxD (dV 0) (dV 2))) (bTup 3 (bCons (bName 4) (bCons (bName 5) (bCons (bName 6) bNil)))) (sIf (dNotT (dB (dChain leD leD (dV 5) (dOp subD (dOp subD (dOp idxD (dV 1) (dV 4)) (dOp idxD (dV 1) (dV 2))) (dV 3)) (dV 6)))) (sRet (dV 4)) sNil)) (sRet (dC .non)))
def F_holder_of : List D → DL.W D := bodyD 4 N_holder_of.length g_holder_of
abbrev N_is_at_wall : List Str := ["yard", "places", "wagon", "sign"]
def g_is_at_wall : DL.Env → DL.W (Fl × DL.Env) := (sRet (dOp eqS (dOp idxD (dV 1) (dV 2)) (dIf (dB (dOp eqS (dV 3) (dC (.int 1)))) (dOp idxD (dOp idxD (dOp idxD (dV 0) (dC (.int 0))) (dV 2)) (dC (.int 1))) (dOp idxD (dOp idxD (dOp idxD (dV 0) (dC (.int 0))) (dV 2)) (dC (.int 0))))))
def F_is_at_wall : List D → DL.W D := bodyD 4 N_is_at_wall.length g_is_at_wall
abbrev N_can_step : List Str := ["yard", "links", "places", "wagon", "sign"]
def g_can_step : DL.Env → DL.W (Fl × DL.Env) := (sRet (dAnd (dNot (dCall F_is_at_wall (dCons (dV 0) (dCons (dV 2) (dCons (dV 3) (dCons (dV 4) dNil)))))) (dOp isND (dCall F_holder_of (dCons (dV 1) (dCons (dV 2) (dCons (dV 3) (dCons (dV 4) dNil))))) (dC .non))))
def F_can_step : List D → DL.W D := bodyD 5 N_can_step.length g_can_step
abbrev N_possible_steps : List Str := ["yard", "arrangement", "links", "found", "wagon", "sign"]
def g_possible_steps : DL.Env → DL.W (Fl × DL.Env) := (sSeq (sExpr (dCall F_validate_arrangement (dCons (dV 0) (dCons (dV 1) dNil)))) (sSeq (sPar 2 3 (dCall F_own_links (dCons (dV 0) dNil)) (dLst dNil)) (sSeq (sFor (fRng1 (dCons (dCB (a1 lenD) (dCons (dV 1) dNil)) dNil)) (bName 4) (sExt 3 (dLc [5] (fSeq (dC (.tup ([(-1), 1].map D.int)))) (bName 5) (dB (dCall F_can_step (dCons (dV 0) (dCons (dV 2) (dCons (dV 1) (dCons (dV 4) (dCons (dV 5) dNil))))))) (dTup (dCons (dV 4) (dCons (dV 5) dNil)))))) (sRet (dCB (a1 tupleD) (dCons (dV 3) dNil))))))
def F_possible_steps : List D → DL.W D := bodyD 2 N_possible_steps.length g_possible_steps
abbrev N_is_step : List Str := ["yard", "value"]
def g_is_step : DL.Env → DL.W (Fl × DL.Env) := (sSeq (sIf (dOrT (dNotT (dB (dCB (a2 isiD) (dCons (dV 1) (dCons (dC (.ty "tuple")) dNil))))) (dB (dOp neS (dCB (a1 lenD) (dCons (dV 1) dNil)) (dC (.int 2))))) (sRet (dC (.bl false))) sNil) (sRet (dAnd (dCall F_is_between (dCons (dOp idxD (dV 1) (dC (.int 0))) (dCons (dC (.int 0)) (dCons (dOp subD (dCB (a1 lenD) (dCons (dOp idxD (dV 0) (dC (.int 0))) dNil)) (dC (.int 1))) dNil)))) (dAnd (dCall F_is_between (dCons (dOp idxD (dV 1) (dC (.int 1))) (dCons (dUn negD (dC (.int 1))) (dCons (dC (.int 1)) dNil)))) (dOp neS (dOp idxD (dV 1) (dC (.int 1))) (dC (.int 0)))))))
def F_is_step : List D → DL.W D := bodyD 2 N_is_step.length g_is_step
abbrev N_validate_step : List Str := ["yard", "step"]
def g_validate_step : DL.Env → DL.W (Fl × DL.Env) := (sIf (dNotT (dB (dCall F_is_step (dCons (dV 0) (dCons (dV 1) dNil))))) (fun _ => fl) sNil)
def F_validate_step : List D → DL.W D := bodyD 2 N_validate_step.length g_validate_step
abbrev N_is_possible : List Str := ["yard", "arrangement", "step"]
def g_is_possible : DL.Env → DL.W (Fl × DL.Env) := (sSeq (sExpr (dCall F_validate_arrangement (dCons (dV 0) (dCons (dV 1) dNil)))) (sSeq (sExpr (dCall F_validate_step (dCons (dV 0) (dCons (dV 2) dNil)))) (sRetN (dCall F_can_step (dCons (dV 0) (dCons (dCall F_own_links (dCons (dV 0) dNil)) (dCons (dV 1) (dCons (dOp idxD (dV 2) (dC (.int 0))) (dCons (dOp idxD (dV 2) (dC (.int 1))) dNil)))))))))
def F_is_possible : List D → DL.W D := bodyD 3 N_is_possible.length g_is_possible
end CY
namespace CY
open PySem L2 DL
theorem chk_true {α : Type} (w : DL.W α) : chk True w = w := chk_pos trivial w
theorem chk_tt {α : Type} (w : DL.W α) : chk (true = true) w = w := chk_pos rfl w
theorem isiT_tt : isiT "tuple" "tuple" = some true := by decide
theorem isiT_ii : isiT "int" "int" = some true := by decide
theorem isiT_ib : isiT "int" "bool" = some false := by decide
theorem and_pu (p q : Bool) : (if p = true then pu (D.bl q) else pu (D.bl false) : DL.W D) = pu (.bl (p && q)) := by cases p <;> rfl
theorem or_pu (p q : Bool) : (if p = true then pu (D.bl true) else pu (D.bl q) : DL.W D) = pu (.bl (p || q)) := by cases p <;> rfl
theorem tand_pu (p q : Bool) : (if p = true then pu q else pu false : DL.W Bool) = pu (p && q) := by cases p <;> rfl
theorem tor_pu (p q : Bool) : (if p = true then pu true else pu q : DL.W Bool) = pu (p || q) := by cases p <;> rfl
theorem if_tt {α : Type} (a b : α) : (if (true : Bool) = true then a else b) = a := rfl
theorem if_ff {α : Type} (a b : α) : (if (false : Bool) = true then a else b) = b := rfl
theorem atI_nat {α : Type} {ds : List α} {k : Nat} {d : α} (h : ds[k]? = some d) : L2.atI ds (k : Int) = some d := by
  have hl : k < ds.length := (List.getElem?_eq_some_iff.mp h).1
  unfold L2.atI L2.ixN
  rw [if_pos (Int.natCast_nonneg k), if_pos (by omega)]
  simpa using h
theorem idx_nat {ds : List D} {k : Nat} {d : D} (h : ds[k]? = some d) : idxL ds (k : Int) = pu d := by
  unfold idxL
  rw [atI_nat h, opt_some]
theorem idx_0 (a : D) (ds : List D) : idxL (a :: ds) 0 = pu a := idx_nat (k := 0) rfl
theorem idx_1 (a b : D) (ds : List D) : idxL (a :: b :: ds) 1 = pu b := idx_nat (k := 1) rfl
theorem nc0 : ((0 : Nat) : Int) = 0 := rfl
theorem nc1 : ((1 : Nat) : Int) = 1 := rfl
theorem nc2 : ((2 : Nat) : Int) = 2 := rfl
theorem nc3 : ((3 : Nat) : Int) = 3 := rfl
theorem nc4 : ((4 : Nat) : Int) = 4 := rfl
theorem eqv_int (a b : Int) : PyData.eqv (.int a) (.int b) = decide (a = b) := by
  by_cases h : a = b
  · subst h; simp [PyData.eqv]
  · simp [PyData.eqv, h]
theorem eq_int (a b : Int) : eqS (.int a) (.int b) = pu (.bl (decide (a = b))) := by
  show eqD (.int a) (.int b) = _
  unfold eqD eqvD
  simp only [D.py, opt_some]
  rw [chk_pos ⟨rfl, rfl⟩, eqv_int]
theorem eq_str (a b : Str) : eqS (.str a) (.str b) = pu (.bl (decide (a = b))) := rfl
theorem ne_str (a b : Str) : neS (.str a) (.str b) = pu (.bl (!decide (a = b))) := rfl
theorem ne_int (a b : Int) : neS (.int a) (.int b) = pu (.bl (decide (a ≠ b))) := by
  show neD (.int a) (.int b) = _
  unfold neD eqvD
  simp only [D.py, opt_some]
  rw [chk_pos ⟨rfl, rfl⟩, eqv_int]
  by_cases h : a = b <;> simp [h]
/-! ### loops -/
theorem forW_cons (h : D → DL.Env → DL.W DL.Env) (g : DL.Env → DL.W (Fl × DL.Env)) (d : D) (ds : List D) (δ : DL.Env) : forW h g (d :: ds) δ = bd (bd (h d δ) g) (again (forW h g ds)) := (bd_bd _ _ _).symm
theorem for_rt {h : D → DL.Env → DL.W DL.Env} {g : DL.Env → DL.W (Fl × DL.Env)} (I : Nat → DL.Env → Prop) (p : Nat → Prop) (r : Nat → D) : ∀ (ds : List D) (δ : DL.Env) (n : Nat), I n δ →
    (∀ i d δ, ds[i]? = some d → I (n + i) δ → (∃ δ', bd (h d δ) g = pu (.nx, δ') ∧ I (n + i + 1) δ' ∧ p (n + i)) ∨ ∃ δ', bd (h d δ) g = pu (.rt (r (n + i)), δ') ∧ ¬ p (n + i)) →
    (∃ δ', forW h g ds δ = pu (.nx, δ') ∧ I (n + ds.length) δ' ∧ ∀ i, i < ds.length → p (n + i)) ∨ ∃ i δ', i < ds.length ∧ forW h g ds δ = pu (.rt (r (n + i)), δ') ∧ ¬ p (n + i) ∧ ∀ j, j < i → p (n + j)
  | [], δ, n, h0, _ => .inl ⟨δ, rfl, h0, fun i hi => absurd hi (Nat.not_lt_zero i)⟩
  | d :: ds, δ, n, h0, st => by
    rcases st 0 d δ rfl h0 with ⟨δ', e, h1, hp⟩ | ⟨δ', e, hp⟩
    · have ih := for_rt I p r ds δ' (n + 1) h1 (fun i d' δ2 q hi => by
        have := st (i + 1) d' δ2 (by simpa using q) (by rw [show n + (i + 1) = n + 1 + i by omega]; exact hi)
        rw [show n + (i + 1) = n + 1 + i by omega] at this
        exact this)
      have e2 : forW h g (d :: ds) δ = forW h g ds δ' := by rw [forW_cons, e, bd_pu]; rfl
      rcases ih with ⟨δ2, e3, h2, h3⟩ | ⟨i, δ2, hi, e3, h3, h4⟩
      · refine .inl ⟨δ2, e2.trans e3, by rw [List.length_cons, show n + (ds.length + 1) = n + 1 + ds.length by omega]; exact h2, fun i hi => ?_⟩
        cases i with
        | zero => exact hp
        | succ i => rw [show n + (i + 1) = n + 1 + i by omega]; exact h3 i (by simpa using hi)
      · refine .inr ⟨i + 1, δ2, by simpa using hi, ?_, ?_, fun j hj => ?_⟩
        · rw [e2, e3, show n + (i + 1) = n + 1 + i by omega]
        · rw [show n + (i + 1) = n + 1 + i by omega]; exact h3
        · cases j with
          | zero => exact hp
          | succ j => rw [show n + (j + 1) = n + 1 + j by omega]; exact h4 j (by omega)
    · refine .inr ⟨0, δ', Nat.succ_pos _, ?_, hp, fun j hj => absurd hj (Nat.not_lt_zero j)⟩
      rw [forW_cons, e, bd_pu]
      rfl
theorem for_ex {h : D → DL.Env → DL.W DL.Env} {g : DL.Env → DL.W (Fl × DL.Env)} {ds : List D} {δ : DL.Env} (I : Nat → DL.Env → Prop) (h0 : I 0 δ) (st : ∀ i d δ, ds[i]? = some d → I i δ → ∃ δ', bd (h d δ) g = pu (.nx, δ') ∧ I (i + 1) δ') :
    ∃ δ', forW h g ds δ = pu (.nx, δ') ∧ I ds.length δ' := by
  rcases for_rt (h := h) (g := g) I (fun _ => True) (fun _ => .non) ds δ 0 h0 (fun i d δ q hi => by
    rw [Nat.zero_add] at hi ⊢
    obtain ⟨δ', e, h1⟩ := st i d δ q hi
    exact .inl ⟨δ', e, h1, trivial⟩) with ⟨δ', e, h1, _⟩ | ⟨_, _, _, _, hn, _⟩
  · exact ⟨δ', e, by rw [Nat.zero_add] at h1; exact h1⟩
  · exact absurd trivial hn
theorem bd_for {α : Type} {h : D → DL.Env → DL.W DL.Env} {g : DL.Env → DL.W (Fl × DL.Env)} {ds : List D} {δ : DL.Env} {k : Fl × DL.Env → DL.W α} {r : DL.W α} (I : Nat → DL.Env → Prop) (h0 : I 0 δ)
    (st : ∀ i d δ, ds[i]? = some d → I i δ → ∃ δ', bd (h d δ) g = pu (.nx, δ') ∧ I (i + 1) δ') (fin : ∀ δ', I ds.length δ' → k (.nx, δ') = r) : bd (forW h g ds δ) k = r := by
  obtain ⟨δ', e, j⟩ := for_ex I h0 st
  rw [e, bd_pu]
  exact fin δ' j
theorem bd_forR {α : Type} {h : D → DL.Env → DL.W DL.Env} {g : DL.Env → DL.W (Fl × DL.Env)} {ds : List D} {δ : DL.Env} {k : Fl × DL.Env → DL.W α} {w : DL.W α} (I : Nat → DL.Env → Prop) (p : Nat → Prop) (r : Nat → D) (h0 : I 0 δ)
    (st : ∀ i d δ, ds[i]? = some d → I i δ → (∃ δ', bd (h d δ) g = pu (.nx, δ') ∧ I (i + 1) δ' ∧ p i) ∨ ∃ δ', bd (h d δ) g = pu (.rt (r i), δ') ∧ ¬ p i)
    (fin : ∀ δ', I ds.length δ' → (∀ i, i < ds.length → p i) → k (.nx, δ') = w) (out : ∀ i δ', i < ds.length → ¬ p i → (∀ j, j < i → p j) → k (.rt (r i), δ') = w) : bd (forW h g ds δ) k = w := by
  rcases for_rt I p r ds δ 0 h0 (fun i d δ q hi => by simpa only [Nat.zero_add] using st i d δ q (by simpa only [Nat.zero_add] using hi)) with ⟨δ', e, j, a⟩ | ⟨i, δ', hi, e, np, bf⟩
  · rw [e, bd_pu]
    exact fin δ' (by simpa only [Nat.zero_add] using j) (fun i hi => by simpa only [Nat.zero_add] using a i hi)
  · rw [e, bd_pu]
    simp only [Nat.zero_add] at np bf ⊢
    exact out i δ' hi np bf
/-- a comprehension that maps and picks -/
theorem lc_pick {h : D → DL.Env → DL.W DL.Env} {t : DL.Env → DL.W Bool} {f : DL.Env → DL.W D} {δ : DL.Env} (p : D → Bool) (m : D → D) : ∀ (ds acc : List D), acc.length + ds.length < sizeLine →
    (∀ d ∈ ds, ∃ δ1, h d δ = pu δ1 ∧ t δ1 = pu (p d) ∧ (p d = true → f δ1 = pu (m d) ∧ (m d).imm = true)) → lcW h t f δ ds acc = pu (acc ++ (ds.filter p).map m)
  | [], acc, _, _ => by simp [lcW]
  | d :: ds, acc, hl, st => by
    obtain ⟨δ1, e1, e2, e3⟩ := st d (by simp)
    have hl' : acc.length + ds.length + 1 < sizeLine := by simpa [Nat.add_assoc] using hl
    show (bd (h d δ) fun δ1 => bd (t δ1) fun b => if b = true then bd (f δ1) fun e => chk (e.imm = true ∧ acc.length < sizeLine) (lcW h t f δ ds (acc ++ [e])) else lcW h t f δ ds acc) = _
    rw [e1, bd_pu, e2, bd_pu]
    by_cases hp : p d = true
    · obtain ⟨e4, im⟩ := e3 hp
      rw [if_pos hp, e4, bd_pu, chk_pos ⟨im, by omega⟩, lc_pick p m ds _ (by simp; omega) (fun d' q => st d' (by simp [q]))]
      simp [hp]
    · rw [if_neg hp, lc_pick p m ds _ (by omega) (fun d' q => st d' (by simp [q]))]
      simp [hp]
theorem lc_map {h : D → DL.Env → DL.W DL.Env} {f : DL.Env → DL.W D} {δ : DL.Env} (m : D → D) (ds : List D) (hl : ds.length < sizeLine) (st : ∀ d ∈ ds, ∃ δ1, h d δ = pu δ1 ∧ f δ1 = pu (m d) ∧ (m d).imm = true) : lcW h dYes f δ ds [] = pu (ds.map m) := by
  rw [lc_pick (fun _ => true) m ds [] (by simpa using hl) (fun d q => by
    obtain ⟨δ1, e1, e2, e3⟩ := st d q
    exact ⟨δ1, e1, rfl, fun _ => ⟨e2, e3⟩⟩), List.filter_eq_self.mpr (fun _ _ => rfl)]
  rfl
/-! ### yards -/
structure Cp where
  i : Nat
  j : Nat
  lo : Int
  hi : Int
def wD (w : Int × Int) : D := .tup [.int w.1, .int w.2]
def cD (c : Cp) : D := .tup [.int c.i, .int c.j, .int c.lo, .int c.hi]
def yD (ws : List (Int × Int)) (cs : List Cp) : D := .tup [.tup (ws.map wD), .tup (cs.map cD)]
def sD (ss : List Int) : D := .tup (ss.map .int)
theorem lenD_lst (ds : List D) : lenD (.lst ds) = pu (.int ds.length) := rfl
theorem lenD_tup (ds : List D) : lenD (.tup ds) = pu (.int ds.length) := rfl
theorem lenD_frz (ds : List D) : lenD (.frz ds) = pu (.int ds.length) := rfl
theorem seq_sD (ss : List Int) : seqOf (sD ss) = some (ss.map D.int) := rfl
theorem len_sD (ss : List Int) : lenD (sD ss) = pu (.int ss.length) := by
  unfold sD
  rw [lenD_tup, List.length_map]
theorem imm_cD (c : Cp) : (cD c).imm = true := rfl
theorem imm_wD (w : Int × Int) : (wD w).imm = true := rfl
structure VY (ws : List (Int × Int)) (cs : List Cp) : Prop where
  n1 : 1 ≤ ws.length
  n40 : ws.length ≤ 40
  wok : ∀ w ∈ ws, -1000000000 ≤ w.1 ∧ w.1 ≤ w.2 ∧ w.2 ≤ 1000000000
  cok : ∀ c ∈ cs, c.i < c.j ∧ c.j < ws.length ∧ -10000000000 ≤ c.lo ∧ c.lo < c.hi ∧ c.hi ≤ 10000000000
  srt : cs.Pairwise (fun a b => a.i < b.i ∨ (a.i = b.i ∧ a.j < b.j))
  cut : ∀ (k : Nat) (c : Cp), cs[k]? = some c → ∃ s : Nat → Bool, s c.i ≠ s c.j ∧ ∀ (l : Nat) (d : Cp), cs[l]? = some d → l ≠ k → s d.i = s d.j
  few : cs.length < ws.length
structure VS (ws : List (Int × Int)) (cs : List Cp) (ss : List Int) : Prop where
  len : ss.length = ws.length
  wal : ∀ v w, ws[v]? = some w → w.1 ≤ ss.getD v 0 ∧ ss.getD v 0 ≤ w.2
  cpl : ∀ c ∈ cs, c.lo ≤ ss.getD c.j 0 - ss.getD c.i 0 ∧ ss.getD c.j 0 - ss.getD c.i 0 ≤ c.hi
/-! ### what is looked at -/
theorem small {n : Nat} (h : n ≤ 1000) : n < sizeLine := Nat.lt_of_le_of_lt h (by decide)
theorem e_is_between (v a b : Int) : F_is_between [.int v, .int a, .int b] = pu (.bl (decide (a ≤ v) && decide (v ≤ b))) := by
  unfold F_is_between g_is_between
  simp (decide := true) (implicitDefEqProofs := false) only [bodyD, env0, sSeq, thenF, sIf, sRet, sRetN, sRetV, sSet, sSetN, sExpr, sNil, sAsg, sPar, resD, dV, dC, dOp, dUn, dNot, dAnd, dOr, dNotT, dAndT, dOrT, dB, dIf, dChain, dTup, dCons, dNil, dLst, dLstB, dCB, dCall, dCallK, dImm, dYes, a1, a2, bTup, bLst, bCons, bNil, bName, fSeq, seqOf, fRng1, fRng2, fEn, fZip, zip2, one1, ints1, ints2, asB, asI, negD, addD, subD, modD, ltD, gtD, geD, leD, isND, isnND, intOp, intOpC, lenD_lst, lenD_tup, lenD_frz, len_sD, tupleD, listD, absD, max2D, min2D, allD, isiD, tyN, isiT_tt, isiT_ii, isiT_ib, idxD, lsA, gw, gt, opt_some, opt_none, bd_pu, bd_fl, bd_bd, chk_true, chk_tt, D.imm, D.imms, D.isN, List.map_cons, List.map_nil, List.length_cons, List.length_nil, List.set_cons_zero, List.set_cons_succ, List.getElem?_cons_zero, List.getElem?_cons_succ, List.getElem?_nil, Option.bind_some, Option.bind_none, Option.join_some, Option.join_none, Option.map_some, Bool.and_true, Bool.true_and, Bool.and_false, Bool.false_and, Bool.not_true, Bool.not_false, Bool.false_eq_true, Bool.true_eq_false, if_true, if_false, ite_true, ite_false, List.cons_append, List.nil_append, List.append_nil, Nat.zero_add, Nat.reduceAdd, Nat.reduceSub, Nat.reduceLeDiff, Int.reduceNeg, List.replicate_succ, List.replicate_zero, true_and, and_true, List.length_map, and_pu, or_pu, tand_pu, tor_pu, idx_0, idx_1, if_tt, if_ff, dSl, dNo, dSo, slD, imm_cD, imm_wD, intsD, sAppIx, sExt, sApp, lsD, sFor, seq_sD, eq_str, ne_str, eq_int, ne_int, nc0, nc1, nc2, nc3, nc4, decide_true, decide_false, ne_eq, not_true_eq_false, Int.reduceEq, not_false_eq_true, Bool.or_false, Bool.or_true, Bool.false_or, Bool.true_or, List.all_cons, List.all_nil, id_eq]
theorem dand {p q : Prop} [Decidable p] [Decidable q] (h1 : p) (h2 : q) : (decide p && decide q) = true := by simp [h1, h2]
theorem e_is_walls {w : Int × Int} (h : -1000000000 ≤ w.1 ∧ w.1 ≤ w.2 ∧ w.2 ≤ 1000000000) : F_is_walls [wD w] = pu (.bl true) := by
  unfold F_is_walls g_is_walls wD
  simp (decide := true) (implicitDefEqProofs := false) only [bodyD, env0, sSeq, thenF, sIf, sRet, sRetN, sRetV, sSet, sSetN, sExpr, sNil, sAsg, sPar, resD, dV, dC, dOp, dUn, dNot, dAnd, dOr, dNotT, dAndT, dOrT, dB, dIf, dChain, dTup, dCons, dNil, dLst, dLstB, dCB, dCall, dCallK, dImm, dYes, a1, a2, bTup, bLst, bCons, bNil, bName, fSeq, seqOf, fRng1, fRng2, fEn, fZip, zip2, one1, ints1, ints2, asB, asI, negD, addD, subD, modD, ltD, gtD, geD, leD, isND, isnND, intOp, intOpC, lenD_lst, lenD_tup, lenD_frz, len_sD, tupleD, listD, absD, max2D, min2D, allD, isiD, tyN, isiT_tt, isiT_ii, isiT_ib, idxD, lsA, gw, gt, opt_some, opt_none, bd_pu, bd_fl, bd_bd, chk_true, chk_tt, D.imm, D.imms, D.isN, List.map_cons, List.map_nil, List.length_cons, List.length_nil, List.set_cons_zero, List.set_cons_succ, List.getElem?_cons_zero, List.getElem?_cons_succ, List.getElem?_nil, Option.bind_some, Option.bind_none, Option.join_some, Option.join_none, Option.map_some, Bool.and_true, Bool.true_and, Bool.and_false, Bool.false_and, Bool.not_true, Bool.not_false, Bool.false_eq_true, Bool.true_eq_false, if_true, if_false, ite_true, ite_false, List.cons_append, List.nil_append, List.append_nil, Nat.zero_add, Nat.reduceAdd, Nat.reduceSub, Nat.reduceLeDiff, Int.reduceNeg, List.replicate_succ, List.replicate_zero, true_and, and_true, List.length_map, and_pu, or_pu, tand_pu, tor_pu, idx_0, idx_1, if_tt, if_ff, dSl, dNo, dSo, slD, imm_cD, imm_wD, intsD, sAppIx, sExt, sApp, lsD, sFor, seq_sD, eq_str, ne_str, eq_int, ne_int, nc0, nc1, nc2, nc3, nc4, decide_true, decide_false, ne_eq, not_true_eq_false, Int.reduceEq, not_false_eq_true, Bool.or_false, Bool.or_true, Bool.false_or, Bool.true_or, List.all_cons, List.all_nil, id_eq, dLc, wipeE]
  rw [lc_map (fun _ => .bl true) [D.int w.1, D.int w.2] (small (show 2 ≤ 1000 by decide)) (fun d q => by
    obtain ⟨v, rfl, h1, h2⟩ : ∃ v, d = .int v ∧ -1000000000 ≤ v ∧ v ≤ 1000000000 := by
      simp at q
      rcases q with rfl | rfl
      · exact ⟨_, rfl, h.1, by omega⟩
      · exact ⟨_, rfl, by omega, h.2.2⟩
    refine ⟨_, by simp (decide := true) (implicitDefEqProofs := false) only [bodyD, env0, sSeq, thenF, sIf, sRet, sRetN, sRetV, sSet, sSetN, sExpr, sNil, sAsg, sPar, resD, dV, dC, dOp, dUn, dNot, dAnd, dOr, dNotT, dAndT, dOrT, dB, dIf, dChain, dTup, dCons, dNil, dLst, dLstB, dCB, dCall, dCallK, dImm, dYes, a1, a2, bTup, bLst, bCons, bNil, bName, fSeq, seqOf, fRng1, fRng2, fEn, fZip, zip2, one1, ints1, ints2, asB, asI, negD, addD, subD, modD, ltD, gtD, geD, leD, isND, isnND, intOp, intOpC, lenD_lst, lenD_tup, lenD_frz, len_sD, tupleD, listD, absD, max2D, min2D, allD, isiD, tyN, isiT_tt, isiT_ii, isiT_ib, idxD, lsA, gw, gt, opt_some, opt_none, bd_pu, bd_fl, bd_bd, chk_true, chk_tt, D.imm, D.imms, D.isN, List.map_cons, List.map_nil, List.length_cons, List.length_nil, List.set_cons_zero, List.set_cons_succ, List.getElem?_cons_zero, List.getElem?_cons_succ, List.getElem?_nil, Option.bind_some, Option.bind_none, Option.join_some, Option.join_none, Option.map_some, Bool.and_true, Bool.true_and, Bool.and_false, Bool.false_and, Bool.not_true, Bool.not_false, Bool.false_eq_true, Bool.true_eq_false, if_true, if_false, ite_true, ite_false, List.cons_append, List.nil_append, List.append_nil, Nat.zero_add, Nat.reduceAdd, Nat.reduceSub, Nat.reduceLeDiff, Int.reduceNeg, List.replicate_succ, List.replicate_zero, true_and, and_true, List.length_map, and_pu, or_pu, tand_pu, tor_pu, idx_0, idx_1, if_tt, if_ff, dSl, dNo, dSo, slD, imm_cD, imm_wD, intsD, sAppIx, sExt, sApp, lsD, sFor, seq_sD, eq_str, ne_str, eq_int, ne_int, nc0, nc1, nc2, nc3, nc4, decide_true, decide_false, ne_eq, not_true_eq_false, Int.reduceEq, not_false_eq_true, Bool.or_false, Bool.or_true, Bool.false_or, Bool.true_or, List.all_cons, List.all_nil, id_eq, chk_pos]; rfl, ?_, rfl⟩
    simp (decide := true) (implicitDefEqProofs := false) only [bodyD, env0, sSeq, thenF, sIf, sRet, sRetN, sRetV, sSet, sSetN, sExpr, sNil, sAsg, sPar, resD, dV, dC, dOp, dUn, dNot, dAnd, dOr, dNotT, dAndT, dOrT, dB, dIf, dChain, dTup, dCons, dNil, dLst, dLstB, dCB, dCall, dCallK, dImm, dYes, a1, a2, bTup, bLst, bCons, bNil, bName, fSeq, seqOf, fRng1, fRng2, fEn, fZip, zip2, one1, ints1, ints2, asB, asI, negD, addD, subD, modD, ltD, gtD, geD, leD, isND, isnND, intOp, intOpC, lenD_lst, lenD_tup, lenD_frz, len_sD, tupleD, listD, absD, max2D, min2D, allD, isiD, tyN, isiT_tt, isiT_ii, isiT_ib, idxD, lsA, gw, gt, opt_some, opt_none, bd_pu, bd_fl, bd_bd, chk_true, chk_tt, D.imm, D.imms, D.isN, List.map_cons, List.map_nil, List.length_cons, List.length_nil, List.set_cons_zero, List.set_cons_succ, List.getElem?_cons_zero, List.getElem?_cons_succ, List.getElem?_nil, Option.bind_some, Option.bind_none, Option.join_some, Option.join_none, Option.map_some, Bool.and_true, Bool.true_and, Bool.and_false, Bool.false_and, Bool.not_true, Bool.not_false, Bool.false_eq_true, Bool.true_eq_false, if_true, if_false, ite_true, ite_false, List.cons_append, List.nil_append, List.append_nil, Nat.zero_add, Nat.reduceAdd, Nat.reduceSub, Nat.reduceLeDiff, Int.reduceNeg, List.replicate_succ, List.replicate_zero, true_and, and_true, List.length_map, and_pu, or_pu, tand_pu, tor_pu, idx_0, idx_1, if_tt, if_ff, dSl, dNo, dSo, slD, imm_cD, imm_wD, intsD, sAppIx, sExt, sApp, lsD, sFor, seq_sD, eq_str, ne_str, eq_int, ne_int, nc0, nc1, nc2, nc3, nc4, decide_true, decide_false, ne_eq, not_true_eq_false, Int.reduceEq, not_false_eq_true, Bool.or_false, Bool.or_true, Bool.false_or, Bool.true_or, List.all_cons, List.all_nil, id_eq, e_is_between]
    rw [dand (by omega) (by omega)])]
  simp (decide := true) (implicitDefEqProofs := false) only [bodyD, env0, sSeq, thenF, sIf, sRet, sRetN, sRetV, sSet, sSetN, sExpr, sNil, sAsg, sPar, resD, dV, dC, dOp, dUn, dNot, dAnd, dOr, dNotT, dAndT, dOrT, dB, dIf, dChain, dTup, dCons, dNil, dLst, dLstB, dCB, dCall, dCallK, dImm, dYes, a1, a2, bTup, bLst, bCons, bNil, bName, fSeq, seqOf, fRng1, fRng2, fEn, fZip, zip2, one1, ints1, ints2, asB, asI, negD, addD, subD, modD, ltD, gtD, geD, leD, isND, isnND, intOp, intOpC, lenD_lst, lenD_tup, lenD_frz, len_sD, tupleD, listD, absD, max2D, min2D, allD, isiD, tyN, isiT_tt, isiT_ii, isiT_ib, idxD, lsA, gw, gt, opt_some, opt_none, bd_pu, bd_fl, bd_bd, chk_true, chk_tt, D.imm, D.imms, D.isN, List.map_cons, List.map_nil, List.length_cons, List.length_nil, List.set_cons_zero, List.set_cons_succ, List.getElem?_cons_zero, List.getElem?_cons_succ, List.getElem?_nil, Option.bind_some, Option.bind_none, Option.join_some, Option.join_none, Option.map_some, Bool.and_true, Bool.true_and, Bool.and_false, Bool.false_and, Bool.not_true, Bool.not_false, Bool.false_eq_true, Bool.true_eq_false, if_true, if_false, ite_true, ite_false, List.cons_append, List.nil_append, List.append_nil, Nat.zero_add, Nat.reduceAdd, Nat.reduceSub, Nat.reduceLeDiff, Int.reduceNeg, List.replicate_succ, List.replicate_zero, true_and, and_true, List.length_map, and_pu, or_pu, tand_pu, tor_pu, idx_0, idx_1, if_tt, if_ff, dSl, dNo, dSo, slD, imm_cD, imm_wD, intsD, sAppIx, sExt, sApp, lsD, sFor, seq_sD, eq_str, ne_str, eq_int, ne_int, nc0, nc1, nc2, nc3, nc4, decide_true, decide_false, ne_eq, not_true_eq_false, Int.reduceEq, not_false_eq_true, Bool.or_false, Bool.or_true, Bool.false_or, Bool.true_or, List.all_cons, List.all_nil, id_eq, bls, leInts]
  simp [h.2.1]
theorem e_is_coupling {c : Cp} {n : Nat} (h : c.i < c.j ∧ c.j < n ∧ -10000000000 ≤ c.lo ∧ c.lo < c.hi ∧ c.hi ≤ 10000000000) : F_is_coupling [cD c, .int n] = pu (.bl true) := by
  unfold F_is_coupling g_is_coupling cD
  obtain ⟨h1, h2, h3, h4, h5⟩ := h
  have b1 : (decide ((0 : Int) ≤ (c.i : Int)) && decide ((c.i : Int) ≤ (n : Int) - 1)) = true := dand (by omega) (by omega)
  have b2 : (decide ((0 : Int) ≤ (c.j : Int)) && decide ((c.j : Int) ≤ (n : Int) - 1)) = true := dand (by omega) (by omega)
  have b3 : (decide ((-10000000000 : Int) ≤ c.lo) && decide (c.lo ≤ 10000000000)) = true := dand (by omega) (by omega)
  have b4 : (decide ((-10000000000 : Int) ≤ c.hi) && decide (c.hi ≤ 10000000000)) = true := dand (by omega) (by omega)
  have b5 : decide ((c.j : Int) ≤ c.i) = false := decide_eq_false (by omega)
  have b6 : decide (c.lo < c.hi) = true := decide_eq_true h4
  simp (decide := true) (implicitDefEqProofs := false) only [bodyD, env0, sSeq, thenF, sIf, sRet, sRetN, sRetV, sSet, sSetN, sExpr, sNil, sAsg, sPar, resD, dV, dC, dOp, dUn, dNot, dAnd, dOr, dNotT, dAndT, dOrT, dB, dIf, dChain, dTup, dCons, dNil, dLst, dLstB, dCB, dCall, dCallK, dImm, dYes, a1, a2, bTup, bLst, bCons, bNil, bName, fSeq, seqOf, fRng1, fRng2, fEn, fZip, zip2, one1, ints1, ints2, asB, asI, negD, addD, subD, modD, ltD, gtD, geD, leD, isND, isnND, intOp, intOpC, lenD_lst, lenD_tup, lenD_frz, len_sD, tupleD, listD, absD, max2D, min2D, allD, isiD, tyN, isiT_tt, isiT_ii, isiT_ib, idxD, lsA, gw, gt, opt_some, opt_none, bd_pu, bd_fl, bd_bd, chk_true, chk_tt, D.imm, D.imms, D.isN, List.map_cons, List.map_nil, List.length_cons, List.length_nil, List.set_cons_zero, List.set_cons_succ, List.getElem?_cons_zero, List.getElem?_cons_succ, List.getElem?_nil, Option.bind_some, Option.bind_none, Option.join_some, Option.join_none, Option.map_some, Bool.and_true, Bool.true_and, Bool.and_false, Bool.false_and, Bool.not_true, Bool.not_false, Bool.false_eq_true, Bool.true_eq_false, if_true, if_false, ite_true, ite_false, List.cons_append, List.nil_append, List.append_nil, Nat.zero_add, Nat.reduceAdd, Nat.reduceSub, Nat.reduceLeDiff, Int.reduceNeg, List.replicate_succ, List.replicate_zero, true_and, and_true, List.length_map, and_pu, or_pu, tand_pu, tor_pu, idx_0, idx_1, if_tt, if_ff, dSl, dNo, dSo, slD, imm_cD, imm_wD, intsD, sAppIx, sExt, sApp, lsD, sFor, seq_sD, eq_str, ne_str, eq_int, ne_int, nc0, nc1, nc2, nc3, nc4, decide_true, decide_false, ne_eq, not_true_eq_false, Int.reduceEq, not_false_eq_true, Bool.or_false, Bool.or_true, Bool.false_or, Bool.true_or, List.all_cons, List.all_nil, id_eq, e_is_between, b1, b2, b3, b4, b5, b6]
theorem getD_at {α : Type} {l : List Int} {k : Nat} (h : k < l.length) : l[k]? = some (l.getD k 0) := by
  rw [List.getElem?_eq_getElem h, List.getD_eq_getElem?_getD, List.getElem?_eq_getElem h]
  rfl
theorem idx_int {l : List Int} {k : Nat} (h : k < l.length) : idxL (l.map D.int) (k : Int) = pu (.int (l.getD k 0)) := by
  refine idx_nat ?_
  rw [List.getElem?_map, getD_at (α := Int) h]
  rfl
theorem getD_map {l : List Int} {k : Nat} (f : Int → Int) (h : k < l.length) : (l.map f).getD k 0 = f (l.getD k 0) := by
  have e := getD_at (α := Int) (l := l.map f) (k := k) (by simpa using h)
  rw [List.getElem?_map, getD_at (α := Int) h] at e
  exact (Option.some.inj e).symm
theorem cut2 (a b c d : D) : DL.cut [a, b, c, d] none (some 2) = [a, b] := rfl
theorem imms_int : ∀ (l : List Int), D.imms (l.map D.int) = true
  | [] => rfl
  | a :: l => by simp only [List.map_cons, D.imms, D.imm, imms_int l]; rfl
theorem imms_cD : ∀ (l : List Cp), D.imms (l.map cD) = true
  | [] => rfl
  | a :: l => by simp only [List.map_cons, D.imms, imms_cD l]; rfl
theorem imms_wD : ∀ (l : List (Int × Int)), D.imms (l.map wD) = true
  | [] => rfl
  | a :: l => by simp only [List.map_cons, D.imms, imms_wD l]; rfl
theorem enD_at {α : Type} (f : α → D) (l : List α) {i : Nat} {d : D} (h : (enD 0 (l.map f))[i]? = some d) : ∃ a, l[i]? = some a ∧ d = .tup [.int i, f a] := by
  have hl : i < l.length := by
    have := (List.getElem?_eq_some_iff.mp h).1
    rw [enD_len, List.length_map] at this
    exact this
  have e := enD_get (l.map f) 0 i (f l[i]) (by rw [List.getElem?_map, List.getElem?_eq_getElem hl]; rfl)
  rw [e, Nat.zero_add] at h
  exact ⟨l[i], List.getElem?_eq_getElem hl, (Option.some.inj h).symm⟩
def relab (one other : Int) (v : Int) : Int := if v = other then one else v
/-- labels alike: on one side of every cut that spares the first i couplings -/
def Lab (cs : List Cp) (n i : Nat) (ls : List Int) : Prop := ls.length = n ∧ ∀ s : Nat → Bool, (∀ (l : Nat) (d : Cp), l < i → cs[l]? = some d → s d.i = s d.j) → ∀ p q, p < n → q < n → ls.getD p 0 = ls.getD q 0 → s p = s q
theorem Lab.next {cs : List Cp} {n i : Nat} {ls : List Int} {c : Cp} (h : Lab cs n i ls) (hc : cs[i]? = some c) (hi : c.i < n) (hj : c.j < n) : Lab cs n (i + 1) (ls.map (relab (ls.getD c.i 0) (ls.getD c.j 0))) := by
  refine ⟨by rw [List.length_map]; exact h.1, fun s hs p q hp hq e => ?_⟩
  have k := h.2 s (fun l d hl hd => hs l d (by omega) hd)
  have sc := hs i c (by omega) hc
  rw [getD_map _ (h.1 ▸ hp), getD_map _ (h.1 ▸ hq)] at e
  unfold relab at e
  by_cases h1 : ls.getD p 0 = ls.getD c.j 0
  · by_cases h2 : ls.getD q 0 = ls.getD c.j 0
    · exact k p q hp hq (h1.trans h2.symm)
    · rw [if_pos h1, if_neg h2] at e
      exact (k p c.j hp hj h1).trans (sc.symm.trans (k c.i q hi hq e))
  · by_cases h2 : ls.getD q 0 = ls.getD c.j 0
    · rw [if_neg h1, if_pos h2] at e
      exact (k p c.i hp hi e).trans (sc.trans (k q c.j hq hj h2).symm)
    · rw [if_neg h1, if_neg h2] at e
      exact k p q hp hq e
theorem e_couplings {ws : List (Int × Int)} {cs : List Cp} (V : VY ws cs) : F_couplings_problem [.tup (cs.map cD), .int (ws.length : Nat)] = pu .non := by
  unfold F_couplings_problem g_couplings_problem
  have hn : ((ws.length : Nat) : Int) ≤ 16777216 ∧ (0 : Int) ≤ (ws.length : Nat) := ⟨by have := V.n40; omega, by omega⟩
  have hr : rngD 0 ((ws.length : Nat) : Int).toNat = ((List.range ws.length).map fun i => ((i : Nat) : Int)).map D.int := by
    unfold rngD
    rw [List.map_map]
    simp
  simp (decide := true) (implicitDefEqProofs := false) only [bodyD, env0, sSeq, thenF, sIf, sRet, sRetN, sRetV, sSet, sSetN, sExpr, sNil, sAsg, sPar, resD, dV, dC, dOp, dUn, dNot, dAnd, dOr, dNotT, dAndT, dOrT, dB, dIf, dChain, dTup, dCons, dNil, dLst, dLstB, dCB, dCall, dCallK, dImm, dYes, a1, a2, bTup, bLst, bCons, bNil, bName, fSeq, seqOf, fRng1, fRng2, fEn, fZip, zip2, one1, ints1, ints2, asB, asI, negD, addD, subD, modD, ltD, gtD, geD, leD, isND, isnND, intOp, intOpC, lenD_lst, lenD_tup, lenD_frz, len_sD, tupleD, listD, absD, max2D, min2D, allD, isiD, tyN, isiT_tt, isiT_ii, isiT_ib, idxD, lsA, gw, gt, opt_some, opt_none, bd_pu, bd_fl, bd_bd, chk_true, chk_tt, D.imm, D.imms, D.isN, List.map_cons, List.map_nil, List.length_cons, List.length_nil, List.set_cons_zero, List.set_cons_succ, List.getElem?_cons_zero, List.getElem?_cons_succ, List.getElem?_nil, Option.bind_some, Option.bind_none, Option.join_some, Option.join_none, Option.map_some, Bool.and_true, Bool.true_and, Bool.and_false, Bool.false_and, Bool.not_true, Bool.not_false, Bool.false_eq_true, Bool.true_eq_false, if_true, if_false, ite_true, ite_false, List.cons_append, List.nil_append, List.append_nil, Nat.zero_add, Nat.reduceAdd, Nat.reduceSub, Nat.reduceLeDiff, Int.reduceNeg, List.replicate_succ, List.replicate_zero, true_and, and_true, List.length_map, and_pu, or_pu, tand_pu, tor_pu, idx_0, idx_1, if_tt, if_ff, dSl, dNo, dSo, slD, imm_cD, imm_wD, intsD, sAppIx, sExt, sApp, lsD, sFor, seq_sD, eq_str, ne_str, eq_int, ne_int, nc0, nc1, nc2, nc3, nc4, decide_true, decide_false, ne_eq, not_true_eq_false, Int.reduceEq, not_false_eq_true, Bool.or_false, Bool.or_true, Bool.false_or, Bool.true_or, List.all_cons, List.all_nil, id_eq, listRng, chk_pos hn, hr, sFor, imms_cD]
  refine bd_for (fun i δ => ∃ (ls : List Int) (a b : Int) (x y z w u : Option D), δ = [some (D.tup (cs.map cD)), some (D.int (ws.length : Nat)), some (.lst (ls.map D.int)), some (.tup [.int a, .int b]), x, y, z, w, u] ∧ Lab cs ws.length i ls ∧ ∀ c : Cp, cs[i]? = some c → a < c.i ∨ (a = c.i ∧ b < c.j)) ?_ ?_ ?_
  · refine ⟨_, -1, -1, none, none, none, none, none, rfl, ⟨by simp, fun s _ p q hp hq e => ?_⟩, fun c _ => .inl (by omega)⟩
    have g : ∀ {p}, p < ws.length → ((List.range ws.length).map fun i => ((i : Nat) : Int)).getD p 0 = p := fun {p} hp => by simp [List.getD_eq_getElem?_getD, hp]
    rw [g hp, g hq] at e
    rw [show p = q by omega]
  · rintro i d δ hd ⟨ls, a, b, x, y, z, w, u, rfl, L, bf⟩
    obtain ⟨c, hc, rfl⟩ := enD_at cD cs hd
    obtain ⟨c1, c2, c3⟩ := V.cok c (List.mem_of_getElem? hc)
    have hi : c.i < ws.length := by omega
    have e1 : leInts [(c.i : Int), c.j] [a, b] = false := by
      unfold leInts
      rcases bf c hc with q | ⟨q, q2⟩
      · rw [if_neg (by omega)]
        exact decide_eq_false (by omega)
      · rw [if_pos q.symm]
        unfold leInts
        rw [if_neg (by omega)]
        exact decide_eq_false (by omega)
    have e2 : decide (ls.getD c.i 0 = ls.getD c.j 0) = false := by
      refine decide_eq_false fun q => ?_
      obtain ⟨s, s1, s2⟩ := V.cut i c hc
      exact s1 (L.2 s (fun l d hl hd => s2 l d hd (by omega)) _ _ hi c2 q)
    simp (decide := true) (implicitDefEqProofs := false) only [bodyD, env0, sSeq, thenF, sIf, sRet, sRetN, sRetV, sSet, sSetN, sExpr, sNil, sAsg, sPar, resD, dV, dC, dOp, dUn, dNot, dAnd, dOr, dNotT, dAndT, dOrT, dB, dIf, dChain, dTup, dCons, dNil, dLst, dLstB, dCB, dCall, dCallK, dImm, dYes, a1, a2, bTup, bLst, bCons, bNil, bName, fSeq, seqOf, fRng1, fRng2, fEn, fZip, zip2, one1, ints1, ints2, asB, asI, negD, addD, subD, modD, ltD, gtD, geD, leD, isND, isnND, intOp, intOpC, lenD_lst, lenD_tup, lenD_frz, len_sD, tupleD, listD, absD, max2D, min2D, allD, isiD, tyN, isiT_tt, isiT_ii, isiT_ib, idxD, lsA, gw, gt, opt_some, opt_none, bd_pu, bd_fl, bd_bd, chk_true, chk_tt, D.imm, D.imms, D.isN, List.map_cons, List.map_nil, List.length_cons, List.length_nil, List.set_cons_zero, List.set_cons_succ, List.getElem?_cons_zero, List.getElem?_cons_succ, List.getElem?_nil, Option.bind_some, Option.bind_none, Option.join_some, Option.join_none, Option.map_some, Bool.and_true, Bool.true_and, Bool.and_false, Bool.false_and, Bool.not_true, Bool.not_false, Bool.false_eq_true, Bool.true_eq_false, if_true, if_false, ite_true, ite_false, List.cons_append, List.nil_append, List.append_nil, Nat.zero_add, Nat.reduceAdd, Nat.reduceSub, Nat.reduceLeDiff, Int.reduceNeg, List.replicate_succ, List.replicate_zero, true_and, and_true, List.length_map, and_pu, or_pu, tand_pu, tor_pu, idx_0, idx_1, if_tt, if_ff, dSl, dNo, dSo, slD, imm_cD, imm_wD, intsD, sAppIx, sExt, sApp, lsD, sFor, seq_sD, eq_str, ne_str, eq_int, ne_int, nc0, nc1, nc2, nc3, nc4, decide_true, decide_false, ne_eq, not_true_eq_false, Int.reduceEq, not_false_eq_true, Bool.or_false, Bool.or_true, Bool.false_or, Bool.true_or, List.all_cons, List.all_nil, id_eq, e_is_coupling ⟨c1, c2, c3⟩]
    simp (decide := true) (implicitDefEqProofs := false) only [bodyD, env0, sSeq, thenF, sIf, sRet, sRetN, sRetV, sSet, sSetN, sExpr, sNil, sAsg, sPar, resD, dV, dC, dOp, dUn, dNot, dAnd, dOr, dNotT, dAndT, dOrT, dB, dIf, dChain, dTup, dCons, dNil, dLst, dLstB, dCB, dCall, dCallK, dImm, dYes, a1, a2, bTup, bLst, bCons, bNil, bName, fSeq, seqOf, fRng1, fRng2, fEn, fZip, zip2, one1, ints1, ints2, asB, asI, negD, addD, subD, modD, ltD, gtD, geD, leD, isND, isnND, intOp, intOpC, lenD_lst, lenD_tup, lenD_frz, len_sD, tupleD, listD, absD, max2D, min2D, allD, isiD, tyN, isiT_tt, isiT_ii, isiT_ib, idxD, lsA, gw, gt, opt_some, opt_none, bd_pu, bd_fl, bd_bd, chk_true, chk_tt, D.imm, D.imms, D.isN, List.map_cons, List.map_nil, List.length_cons, List.length_nil, List.set_cons_zero, List.set_cons_succ, List.getElem?_cons_zero, List.getElem?_cons_succ, List.getElem?_nil, Option.bind_some, Option.bind_none, Option.join_some, Option.join_none, Option.map_some, Bool.and_true, Bool.true_and, Bool.and_false, Bool.false_and, Bool.not_true, Bool.not_false, Bool.false_eq_true, Bool.true_eq_false, if_true, if_false, ite_true, ite_false, List.cons_append, List.nil_append, List.append_nil, Nat.zero_add, Nat.reduceAdd, Nat.reduceSub, Nat.reduceLeDiff, Int.reduceNeg, List.replicate_succ, List.replicate_zero, true_and, and_true, List.length_map, and_pu, or_pu, tand_pu, tor_pu, idx_0, idx_1, if_tt, if_ff, dSl, dNo, dSo, slD, imm_cD, imm_wD, intsD, sAppIx, sExt, sApp, lsD, sFor, seq_sD, eq_str, ne_str, eq_int, ne_int, nc0, nc1, nc2, nc3, nc4, decide_true, decide_false, ne_eq, not_true_eq_false, Int.reduceEq, not_false_eq_true, Bool.or_false, Bool.or_true, Bool.false_or, Bool.true_or, List.all_cons, List.all_nil, id_eq, cD, cut2, e1, idx_int (l := ls) (k := c.i) (by rw [L.1]; exact hi), idx_int (l := ls) (k := c.j) (by rw [L.1]; exact c2), eq_int, e2, dLc, wipeE, imms_int]
    rw [lc_map (fun d => match d with | .int v => .int (relab (ls.getD c.i 0) (ls.getD c.j 0) v) | d => d) (ls.map D.int) (by rw [List.length_map, L.1]; exact small (by have := V.n40; omega)) (fun d q => by
      obtain ⟨v, _, rfl⟩ := List.mem_map.mp q
      refine ⟨_, by simp (decide := true) (implicitDefEqProofs := false) only [bodyD, env0, sSeq, thenF, sIf, sRet, sRetN, sRetV, sSet, sSetN, sExpr, sNil, sAsg, sPar, resD, dV, dC, dOp, dUn, dNot, dAnd, dOr, dNotT, dAndT, dOrT, dB, dIf, dChain, dTup, dCons, dNil, dLst, dLstB, dCB, dCall, dCallK, dImm, dYes, a1, a2, bTup, bLst, bCons, bNil, bName, fSeq, seqOf, fRng1, fRng2, fEn, fZip, zip2, one1, ints1, ints2, asB, asI, negD, addD, subD, modD, ltD, gtD, geD, leD, isND, isnND, intOp, intOpC, lenD_lst, lenD_tup, lenD_frz, len_sD, tupleD, listD, absD, max2D, min2D, allD, isiD, tyN, isiT_tt, isiT_ii, isiT_ib, idxD, lsA, gw, gt, opt_some, opt_none, bd_pu, bd_fl, bd_bd, chk_true, chk_tt, D.imm, D.imms, D.isN, List.map_cons, List.map_nil, List.length_cons, List.length_nil, List.set_cons_zero, List.set_cons_succ, List.getElem?_cons_zero, List.getElem?_cons_succ, List.getElem?_nil, Option.bind_some, Option.bind_none, Option.join_some, Option.join_none, Option.map_some, Bool.and_true, Bool.true_and, Bool.and_false, Bool.false_and, Bool.not_true, Bool.not_false, Bool.false_eq_true, Bool.true_eq_false, if_true, if_false, ite_true, ite_false, List.cons_append, List.nil_append, List.append_nil, Nat.zero_add, Nat.reduceAdd, Nat.reduceSub, Nat.reduceLeDiff, Int.reduceNeg, List.replicate_succ, List.replicate_zero, true_and, and_true, List.length_map, and_pu, or_pu, tand_pu, tor_pu, idx_0, idx_1, if_tt, if_ff, dSl, dNo, dSo, slD, imm_cD, imm_wD, intsD, sAppIx, sExt, sApp, lsD, sFor, seq_sD, eq_str, ne_str, eq_int, ne_int, nc0, nc1, nc2, nc3, nc4, decide_true, decide_false, ne_eq, not_true_eq_false, Int.reduceEq, not_false_eq_true, Bool.or_false, Bool.or_true, Bool.false_or, Bool.true_or, List.all_cons, List.all_nil, id_eq]; rfl, ?_, rfl⟩
      simp (decide := true) (implicitDefEqProofs := false) only [bodyD, env0, sSeq, thenF, sIf, sRet, sRetN, sRetV, sSet, sSetN, sExpr, sNil, sAsg, sPar, resD, dV, dC, dOp, dUn, dNot, dAnd, dOr, dNotT, dAndT, dOrT, dB, dIf, dChain, dTup, dCons, dNil, dLst, dLstB, dCB, dCall, dCallK, dImm, dYes, a1, a2, bTup, bLst, bCons, bNil, bName, fSeq, seqOf, fRng1, fRng2, fEn, fZip, zip2, one1, ints1, ints2, asB, asI, negD, addD, subD, modD, ltD, gtD, geD, leD, isND, isnND, intOp, intOpC, lenD_lst, lenD_tup, lenD_frz, len_sD, tupleD, listD, absD, max2D, min2D, allD, isiD, tyN, isiT_tt, isiT_ii, isiT_ib, idxD, lsA, gw, gt, opt_some, opt_none, bd_pu, bd_fl, bd_bd, chk_true, chk_tt, D.imm, D.imms, D.isN, List.map_cons, List.map_nil, List.length_cons, List.length_nil, List.set_cons_zero, List.set_cons_succ, List.getElem?_cons_zero, List.getElem?_cons_succ, List.getElem?_nil, Option.bind_some, Option.bind_none, Option.join_some, Option.join_none, Option.map_some, Bool.and_true, Bool.true_and, Bool.and_false, Bool.false_and, Bool.not_true, Bool.not_false, Bool.false_eq_true, Bool.true_eq_false, if_true, if_false, ite_true, ite_false, List.cons_append, List.nil_append, List.append_nil, Nat.zero_add, Nat.reduceAdd, Nat.reduceSub, Nat.reduceLeDiff, Int.reduceNeg, List.replicate_succ, List.replicate_zero, true_and, and_true, List.length_map, and_pu, or_pu, tand_pu, tor_pu, idx_0, idx_1, if_tt, if_ff, dSl, dNo, dSo, slD, imm_cD, imm_wD, intsD, sAppIx, sExt, sApp, lsD, sFor, seq_sD, eq_str, ne_str, eq_int, ne_int, nc0, nc1, nc2, nc3, nc4, decide_true, decide_false, ne_eq, not_true_eq_false, Int.reduceEq, not_false_eq_true, Bool.or_false, Bool.or_true, Bool.false_or, Bool.true_or, List.all_cons, List.all_nil, id_eq, eq_int]
      unfold relab
      by_cases hv : v = ls.getD c.j 0
      · rw [if_pos (decide_eq_true hv), if_pos hv]
      · rw [if_neg (by simpa using hv), if_neg hv])]
    simp (decide := true) (implicitDefEqProofs := false) only [bodyD, env0, sSeq, thenF, sIf, sRet, sRetN, sRetV, sSet, sSetN, sExpr, sNil, sAsg, sPar, resD, dV, dC, dOp, dUn, dNot, dAnd, dOr, dNotT, dAndT, dOrT, dB, dIf, dChain, dTup, dCons, dNil, dLst, dLstB, dCB, dCall, dCallK, dImm, dYes, a1, a2, bTup, bLst, bCons, bNil, bName, fSeq, seqOf, fRng1, fRng2, fEn, fZip, zip2, one1, ints1, ints2, asB, asI, negD, addD, subD, modD, ltD, gtD, geD, leD, isND, isnND, intOp, intOpC, lenD_lst, lenD_tup, lenD_frz, len_sD, tupleD, listD, absD, max2D, min2D, allD, isiD, tyN, isiT_tt, isiT_ii, isiT_ib, idxD, lsA, gw, gt, opt_some, opt_none, bd_pu, bd_fl, bd_bd, chk_true, chk_tt, D.imm, D.imms, D.isN, List.map_cons, List.map_nil, List.length_cons, List.length_nil, List.set_cons_zero, List.set_cons_succ, List.getElem?_cons_zero, List.getElem?_cons_succ, List.getElem?_nil, Option.bind_some, Option.bind_none, Option.join_some, Option.join_none, Option.map_some, Bool.and_true, Bool.true_and, Bool.and_false, Bool.false_and, Bool.not_true, Bool.not_false, Bool.false_eq_true, Bool.true_eq_false, if_true, if_false, ite_true, ite_false, List.cons_append, List.nil_append, List.append_nil, Nat.zero_add, Nat.reduceAdd, Nat.reduceSub, Nat.reduceLeDiff, Int.reduceNeg, List.replicate_succ, List.replicate_zero, true_and, and_true, List.length_map, and_pu, or_pu, tand_pu, tor_pu, idx_0, idx_1, if_tt, if_ff, dSl, dNo, dSo, slD, imm_cD, imm_wD, intsD, sAppIx, sExt, sApp, lsD, sFor, seq_sD, eq_str, ne_str, eq_int, ne_int, nc0, nc1, nc2, nc3, nc4, decide_true, decide_false, ne_eq, not_true_eq_false, Int.reduceEq, not_false_eq_true, Bool.or_false, Bool.or_true, Bool.false_or, Bool.true_or, List.all_cons, List.all_nil, id_eq]
    have em : (ls.map D.int).map (fun d => match d with | .int v => .int (relab (ls.getD c.i 0) (ls.getD c.j 0) v) | d => d) = (ls.map (relab (ls.getD c.i 0) (ls.getD c.j 0))).map D.int := by
      rw [List.map_map, List.map_map]
      rfl
    rw [em]
    refine ⟨_, rfl, _, _, _, _, _, _, _, _, rfl, L.next hc hi c2, fun c' hc' => ?_⟩
    · have := List.pairwise_iff_getElem.mp V.srt i (i + 1) (List.getElem?_eq_some_iff.mp hc).1 (List.getElem?_eq_some_iff.mp hc').1 (by omega)
      rw [(List.getElem?_eq_some_iff.mp hc).2, (List.getElem?_eq_some_iff.mp hc').2] at this
      omega
  · rintro δ' ⟨ls, a, b, x, y, z, w, u, rfl, _⟩
    simp (decide := true) (implicitDefEqProofs := false) only [bodyD, env0, sSeq, thenF, sIf, sRet, sRetN, sRetV, sSet, sSetN, sExpr, sNil, sAsg, sPar, resD, dV, dC, dOp, dUn, dNot, dAnd, dOr, dNotT, dAndT, dOrT, dB, dIf, dChain, dTup, dCons, dNil, dLst, dLstB, dCB, dCall, dCallK, dImm, dYes, a1, a2, bTup, bLst, bCons, bNil, bName, fSeq, seqOf, fRng1, fRng2, fEn, fZip, zip2, one1, ints1, ints2, asB, asI, negD, addD, subD, modD, ltD, gtD, geD, leD, isND, isnND, intOp, intOpC, lenD_lst, lenD_tup, lenD_frz, len_sD, tupleD, listD, absD, max2D, min2D, allD, isiD, tyN, isiT_tt, isiT_ii, isiT_ib, idxD, lsA, gw, gt, opt_some, opt_none, bd_pu, bd_fl, bd_bd, chk_true, chk_tt, D.imm, D.imms, D.isN, List.map_cons, List.map_nil, List.length_cons, List.length_nil, List.set_cons_zero, List.set_cons_succ, List.getElem?_cons_zero, List.getElem?_cons_succ, List.getElem?_nil, Option.bind_some, Option.bind_none, Option.join_some, Option.join_none, Option.map_some, Bool.and_true, Bool.true_and, Bool.and_false, Bool.false_and, Bool.not_true, Bool.not_false, Bool.false_eq_true, Bool.true_eq_false, if_true, if_false, ite_true, ite_false, List.cons_append, List.nil_append, List.append_nil, Nat.zero_add, Nat.reduceAdd, Nat.reduceSub, Nat.reduceLeDiff, Int.reduceNeg, List.replicate_succ, List.replicate_zero, true_and, and_true, List.length_map, and_pu, or_pu, tand_pu, tor_pu, idx_0, idx_1, if_tt, if_ff, dSl, dNo, dSo, slD, imm_cD, imm_wD, intsD, sAppIx, sExt, sApp, lsD, sFor, seq_sD, eq_str, ne_str, eq_int, ne_int, nc0, nc1, nc2, nc3, nc4, decide_true, decide_false, ne_eq, not_true_eq_false, Int.reduceEq, not_false_eq_true, Bool.or_false, Bool.or_true, Bool.false_or, Bool.true_or, List.all_cons, List.all_nil, id_eq]
end CY
namespace CY
open PySem L2 DL
theorem isN_non : D.isN .non = true := rfl
theorem e_yard_problem {ws : List (Int × Int)} {cs : List Cp} (V : VY ws cs) : F_yard_problem [yD ws cs] = pu .non := by
  unfold F_yard_problem g_yard_problem yD
  have b1 : (decide ((1 : Int) ≤ (ws.length : Nat)) && decide (((ws.length : Nat) : Int) ≤ 40)) = true := dand (by have := V.n1; omega) (by have := V.n40; omega)
  simp (decide := true) (implicitDefEqProofs := false) only [bodyD, env0, sSeq, thenF, sIf, sRet, sRetN, sRetV, sSet, sSetN, sExpr, sNil, sAsg, sPar, resD, dV, dC, dOp, dUn, dNot, dAnd, dOr, dNotT, dAndT, dOrT, dB, dIf, dChain, dTup, dCons, dNil, dLst, dLstB, dCB, dCall, dCallK, dImm, dYes, a1, a2, bTup, bLst, bCons, bNil, bName, fSeq, seqOf, fRng1, fRng2, fEn, fZip, zip2, one1, ints1, ints2, asB, asI, negD, addD, subD, modD, ltD, gtD, geD, leD, isND, isnND, intOp, intOpC, lenD_lst, lenD_tup, lenD_frz, len_sD, tupleD, listD, absD, max2D, min2D, allD, isiD, tyN, isiT_tt, isiT_ii, isiT_ib, idxD, lsA, gw, gt, opt_some, opt_none, bd_pu, bd_fl, bd_bd, chk_true, chk_tt, D.imm, D.imms, D.isN, List.map_cons, List.map_nil, List.length_cons, List.length_nil, List.set_cons_zero, List.set_cons_succ, List.getElem?_cons_zero, List.getElem?_cons_succ, List.getElem?_nil, Option.bind_some, Option.bind_none, Option.join_some, Option.join_none, Option.map_some, Bool.and_true, Bool.true_and, Bool.and_false, Bool.false_and, Bool.not_true, Bool.not_false, Bool.false_eq_true, Bool.true_eq_false, if_true, if_false, ite_true, ite_false, List.cons_append, List.nil_append, List.append_nil, Nat.zero_add, Nat.reduceAdd, Nat.reduceSub, Nat.reduceLeDiff, Int.reduceNeg, List.replicate_succ, List.replicate_zero, true_and, and_true, List.length_map, and_pu, or_pu, tand_pu, tor_pu, idx_0, idx_1, if_tt, if_ff, dSl, dNo, dSo, slD, imm_cD, imm_wD, intsD, sAppIx, sExt, sApp, lsD, sFor, seq_sD, eq_str, ne_str, eq_int, ne_int, nc0, nc1, nc2, nc3, nc4, decide_true, decide_false, ne_eq, not_true_eq_false, Int.reduceEq, not_false_eq_true, Bool.or_false, Bool.or_true, Bool.false_or, Bool.true_or, List.all_cons, List.all_nil, id_eq, imms_wD, imms_cD, b1, sFor]
  refine bd_for (fun i δ => ∃ x y z : Option D, δ = [some (D.tup [.tup (ws.map wD), .tup (cs.map cD)]), some (.tup (ws.map wD)), some (.tup (cs.map cD)), y, z]) ⟨none, _, _, rfl⟩ ?_ ?_
  · rintro i d δ hd ⟨x, y, z, rfl⟩
    obtain ⟨w, hw, rfl⟩ := enD_at wD ws hd
    simp (decide := true) (implicitDefEqProofs := false) only [bodyD, env0, sSeq, thenF, sIf, sRet, sRetN, sRetV, sSet, sSetN, sExpr, sNil, sAsg, sPar, resD, dV, dC, dOp, dUn, dNot, dAnd, dOr, dNotT, dAndT, dOrT, dB, dIf, dChain, dTup, dCons, dNil, dLst, dLstB, dCB, dCall, dCallK, dImm, dYes, a1, a2, bTup, bLst, bCons, bNil, bName, fSeq, seqOf, fRng1, fRng2, fEn, fZip, zip2, one1, ints1, ints2, asB, asI, negD, addD, subD, modD, ltD, gtD, geD, leD, isND, isnND, intOp, intOpC, lenD_lst, lenD_tup, lenD_frz, len_sD, tupleD, listD, absD, max2D, min2D, allD, isiD, tyN, isiT_tt, isiT_ii, isiT_ib, idxD, lsA, gw, gt, opt_some, opt_none, bd_pu, bd_fl, bd_bd, chk_true, chk_tt, D.imm, D.imms, D.isN, List.map_cons, List.map_nil, List.length_cons, List.length_nil, List.set_cons_zero, List.set_cons_succ, List.getElem?_cons_zero, List.getElem?_cons_succ, List.getElem?_nil, Option.bind_some, Option.bind_none, Option.join_some, Option.join_none, Option.map_some, Bool.and_true, Bool.true_and, Bool.and_false, Bool.false_and, Bool.not_true, Bool.not_false, Bool.false_eq_true, Bool.true_eq_false, if_true, if_false, ite_true, ite_false, List.cons_append, List.nil_append, List.append_nil, Nat.zero_add, Nat.reduceAdd, Nat.reduceSub, Nat.reduceLeDiff, Int.reduceNeg, List.replicate_succ, List.replicate_zero, true_and, and_true, List.length_map, and_pu, or_pu, tand_pu, tor_pu, idx_0, idx_1, if_tt, if_ff, dSl, dNo, dSo, slD, imm_cD, imm_wD, intsD, sAppIx, sExt, sApp, lsD, sFor, seq_sD, eq_str, ne_str, eq_int, ne_int, nc0, nc1, nc2, nc3, nc4, decide_true, decide_false, ne_eq, not_true_eq_false, Int.reduceEq, not_false_eq_true, Bool.or_false, Bool.or_true, Bool.false_or, Bool.true_or, List.all_cons, List.all_nil, id_eq, e_is_walls (V.wok w (List.mem_of_getElem? hw))]
    exact ⟨_, rfl, none, _, _, rfl⟩
  · rintro δ' ⟨x, y, z, rfl⟩
    simp (decide := true) (implicitDefEqProofs := false) only [bodyD, env0, sSeq, thenF, sIf, sRet, sRetN, sRetV, sSet, sSetN, sExpr, sNil, sAsg, sPar, resD, dV, dC, dOp, dUn, dNot, dAnd, dOr, dNotT, dAndT, dOrT, dB, dIf, dChain, dTup, dCons, dNil, dLst, dLstB, dCB, dCall, dCallK, dImm, dYes, a1, a2, bTup, bLst, bCons, bNil, bName, fSeq, seqOf, fRng1, fRng2, fEn, fZip, zip2, one1, ints1, ints2, asB, asI, negD, addD, subD, modD, ltD, gtD, geD, leD, isND, isnND, intOp, intOpC, lenD_lst, lenD_tup, lenD_frz, len_sD, tupleD, listD, absD, max2D, min2D, allD, isiD, tyN, isiT_tt, isiT_ii, isiT_ib, idxD, lsA, gw, gt, opt_some, opt_none, bd_pu, bd_fl, bd_bd, chk_true, chk_tt, D.imm, D.imms, D.isN, List.map_cons, List.map_nil, List.length_cons, List.length_nil, List.set_cons_zero, List.set_cons_succ, List.getElem?_cons_zero, List.getElem?_cons_succ, List.getElem?_nil, Option.bind_some, Option.bind_none, Option.join_some, Option.join_none, Option.map_some, Bool.and_true, Bool.true_and, Bool.and_false, Bool.false_and, Bool.not_true, Bool.not_false, Bool.false_eq_true, Bool.true_eq_false, if_true, if_false, ite_true, ite_false, List.cons_append, List.nil_append, List.append_nil, Nat.zero_add, Nat.reduceAdd, Nat.reduceSub, Nat.reduceLeDiff, Int.reduceNeg, List.replicate_succ, List.replicate_zero, true_and, and_true, List.length_map, and_pu, or_pu, tand_pu, tor_pu, idx_0, idx_1, if_tt, if_ff, dSl, dNo, dSo, slD, imm_cD, imm_wD, intsD, sAppIx, sExt, sApp, lsD, sFor, seq_sD, eq_str, ne_str, eq_int, ne_int, nc0, nc1, nc2, nc3, nc4, decide_true, decide_false, ne_eq, not_true_eq_false, Int.reduceEq, not_false_eq_true, Bool.or_false, Bool.or_true, Bool.false_or, Bool.true_or, List.all_cons, List.all_nil, id_eq, e_couplings V]
theorem e_validate_yard {ws : List (Int × Int)} {cs : List Cp} (V : VY ws cs) : F_validate_yard [yD ws cs] = pu .non := by
  unfold F_validate_yard g_validate_yard
  simp (decide := true) (implicitDefEqProofs := false) only [bodyD, env0, sSeq, thenF, sIf, sRet, sRetN, sRetV, sSet, sSetN, sExpr, sNil, sAsg, sPar, resD, dV, dC, dOp, dUn, dNot, dAnd, dOr, dNotT, dAndT, dOrT, dB, dIf, dChain, dTup, dCons, dNil, dLst, dLstB, dCB, dCall, dCallK, dImm, dYes, a1, a2, bTup, bLst, bCons, bNil, bName, fSeq, seqOf, fRng1, fRng2, fEn, fZip, zip2, one1, ints1, ints2, asB, asI, negD, addD, subD, modD, ltD, gtD, geD, leD, isND, isnND, intOp, intOpC, lenD_lst, lenD_tup, lenD_frz, len_sD, tupleD, listD, absD, max2D, min2D, allD, isiD, tyN, isiT_tt, isiT_ii, isiT_ib, idxD, lsA, gw, gt, opt_some, opt_none, bd_pu, bd_fl, bd_bd, chk_true, chk_tt, D.imm, D.imms, D.isN, List.map_cons, List.map_nil, List.length_cons, List.length_nil, List.set_cons_zero, List.set_cons_succ, List.getElem?_cons_zero, List.getElem?_cons_succ, List.getElem?_nil, Option.bind_some, Option.bind_none, Option.join_some, Option.join_none, Option.map_some, Bool.and_true, Bool.true_and, Bool.and_false, Bool.false_and, Bool.not_true, Bool.not_false, Bool.false_eq_true, Bool.true_eq_false, if_true, if_false, ite_true, ite_false, List.cons_append, List.nil_append, List.append_nil, Nat.zero_add, Nat.reduceAdd, Nat.reduceSub, Nat.reduceLeDiff, Int.reduceNeg, List.replicate_succ, List.replicate_zero, true_and, and_true, List.length_map, and_pu, or_pu, tand_pu, tor_pu, idx_0, idx_1, if_tt, if_ff, dSl, dNo, dSo, slD, imm_cD, imm_wD, intsD, sAppIx, sExt, sApp, lsD, sFor, seq_sD, eq_str, ne_str, eq_int, ne_int, nc0, nc1, nc2, nc3, nc4, decide_true, decide_false, ne_eq, not_true_eq_false, Int.reduceEq, not_false_eq_true, Bool.or_false, Bool.or_true, Bool.false_or, Bool.true_or, List.all_cons, List.all_nil, id_eq, e_yard_problem V]
theorem imm_yD (ws : List (Int × Int)) (cs : List Cp) : (yD ws cs).imm = true := by
  unfold yD
  simp only [D.imm, D.imms, imms_wD, imms_cD, Bool.and_true]
theorem imm_sD (ss : List Int) : (sD ss).imm = true := by
  unfold sD
  simp only [D.imm, imms_int]
theorem map_at {α : Type} (f : α → D) (l : List α) {i : Nat} {d : D} (h : (l.map f)[i]? = some d) : ∃ a, l[i]? = some a ∧ d = f a := by
  rw [List.getElem?_map] at h
  cases e : l[i]? with
  | none => rw [e] at h; cases h
  | some a => rw [e] at h; exact ⟨a, rfl, (Option.some.inj h).symm⟩
theorem e_arrangement_problem {ws : List (Int × Int)} {cs : List Cp} {ss : List Int} (V : VY ws cs) (S : VS ws cs ss) : F_arrangement_problem [yD ws cs, sD ss] = pu .non := by
  unfold F_arrangement_problem g_arrangement_problem yD sD
  have b1 : decide (¬ ((ss.length : Nat) : Int) = (ws.length : Nat)) = false := decide_eq_false (by rw [S.len]; simp)
  simp (decide := true) (implicitDefEqProofs := false) only [bodyD, env0, sSeq, thenF, sIf, sRet, sRetN, sRetV, sSet, sSetN, sExpr, sNil, sAsg, sPar, resD, dV, dC, dOp, dUn, dNot, dAnd, dOr, dNotT, dAndT, dOrT, dB, dIf, dChain, dTup, dCons, dNil, dLst, dLstB, dCB, dCall, dCallK, dImm, dYes, a1, a2, bTup, bLst, bCons, bNil, bName, fSeq, seqOf, fRng1, fRng2, fEn, fZip, zip2, one1, ints1, ints2, asB, asI, negD, addD, subD, modD, ltD, gtD, geD, leD, isND, isnND, intOp, intOpC, lenD_lst, lenD_tup, lenD_frz, len_sD, tupleD, listD, absD, max2D, min2D, allD, isiD, tyN, isiT_tt, isiT_ii, isiT_ib, idxD, lsA, gw, gt, opt_some, opt_none, bd_pu, bd_fl, bd_bd, chk_true, chk_tt, D.imm, D.imms, D.isN, List.map_cons, List.map_nil, List.length_cons, List.length_nil, List.set_cons_zero, List.set_cons_succ, List.getElem?_cons_zero, List.getElem?_cons_succ, List.getElem?_nil, Option.bind_some, Option.bind_none, Option.join_some, Option.join_none, Option.map_some, Bool.and_true, Bool.true_and, Bool.and_false, Bool.false_and, Bool.not_true, Bool.not_false, Bool.false_eq_true, Bool.true_eq_false, if_true, if_false, ite_true, ite_false, List.cons_append, List.nil_append, List.append_nil, Nat.zero_add, Nat.reduceAdd, Nat.reduceSub, Nat.reduceLeDiff, Int.reduceNeg, List.replicate_succ, List.replicate_zero, true_and, and_true, List.length_map, and_pu, or_pu, tand_pu, tor_pu, idx_0, idx_1, if_tt, if_ff, dSl, dNo, dSo, slD, imm_cD, imm_wD, intsD, sAppIx, sExt, sApp, lsD, sFor, seq_sD, eq_str, ne_str, eq_int, ne_int, nc0, nc1, nc2, nc3, nc4, decide_true, decide_false, ne_eq, not_true_eq_false, Int.reduceEq, not_false_eq_true, Bool.or_false, Bool.or_true, Bool.false_or, Bool.true_or, List.all_cons, List.all_nil, id_eq, imms_wD, imms_cD, imms_int, b1, sFor]
  refine bd_for (fun i δ => ∃ x y z a b c d e : Option D, δ = [some (D.tup [.tup (ws.map wD), .tup (cs.map cD)]), some (.tup (ss.map D.int)), x, y, z, a, b, c, d, e]) ⟨_, _, _, _, _, _, _, _, rfl⟩ ?_ ?_
  · rintro i d δ hd ⟨x, y, z, a, b, c, d, e, rfl⟩
    obtain ⟨w, hw, rfl⟩ := enD_at wD ws hd
    have hi : i < ss.length := by rw [S.len]; exact (List.getElem?_eq_some_iff.mp hw).1
    obtain ⟨h1, h2⟩ := S.wal i w hw
    have b2 : (decide (w.1 ≤ ss.getD i 0) && decide (ss.getD i 0 ≤ w.2)) = true := dand h1 h2
    simp (decide := true) (implicitDefEqProofs := false) only [bodyD, env0, sSeq, thenF, sIf, sRet, sRetN, sRetV, sSet, sSetN, sExpr, sNil, sAsg, sPar, resD, dV, dC, dOp, dUn, dNot, dAnd, dOr, dNotT, dAndT, dOrT, dB, dIf, dChain, dTup, dCons, dNil, dLst, dLstB, dCB, dCall, dCallK, dImm, dYes, a1, a2, bTup, bLst, bCons, bNil, bName, fSeq, seqOf, fRng1, fRng2, fEn, fZip, zip2, one1, ints1, ints2, asB, asI, negD, addD, subD, modD, ltD, gtD, geD, leD, isND, isnND, intOp, intOpC, lenD_lst, lenD_tup, lenD_frz, len_sD, tupleD, listD, absD, max2D, min2D, allD, isiD, tyN, isiT_tt, isiT_ii, isiT_ib, idxD, lsA, gw, gt, opt_some, opt_none, bd_pu, bd_fl, bd_bd, chk_true, chk_tt, D.imm, D.imms, D.isN, List.map_cons, List.map_nil, List.length_cons, List.length_nil, List.set_cons_zero, List.set_cons_succ, List.getElem?_cons_zero, List.getElem?_cons_succ, List.getElem?_nil, Option.bind_some, Option.bind_none, Option.join_some, Option.join_none, Option.map_some, Bool.and_true, Bool.true_and, Bool.and_false, Bool.false_and, Bool.not_true, Bool.not_false, Bool.false_eq_true, Bool.true_eq_false, if_true, if_false, ite_true, ite_false, List.cons_append, List.nil_append, List.append_nil, Nat.zero_add, Nat.reduceAdd, Nat.reduceSub, Nat.reduceLeDiff, Int.reduceNeg, List.replicate_succ, List.replicate_zero, true_and, and_true, List.length_map, and_pu, or_pu, tand_pu, tor_pu, idx_0, idx_1, if_tt, if_ff, dSl, dNo, dSo, slD, imm_cD, imm_wD, intsD, sAppIx, sExt, sApp, lsD, sFor, seq_sD, eq_str, ne_str, eq_int, ne_int, nc0, nc1, nc2, nc3, nc4, decide_true, decide_false, ne_eq, not_true_eq_false, Int.reduceEq, not_false_eq_true, Bool.or_false, Bool.or_true, Bool.false_or, Bool.true_or, List.all_cons, List.all_nil, id_eq, imm_wD]
    simp (decide := true) (implicitDefEqProofs := false) only [bodyD, env0, sSeq, thenF, sIf, sRet, sRetN, sRetV, sSet, sSetN, sExpr, sNil, sAsg, sPar, resD, dV, dC, dOp, dUn, dNot, dAnd, dOr, dNotT, dAndT, dOrT, dB, dIf, dChain, dTup, dCons, dNil, dLst, dLstB, dCB, dCall, dCallK, dImm, dYes, a1, a2, bTup, bLst, bCons, bNil, bName, fSeq, seqOf, fRng1, fRng2, fEn, fZip, zip2, one1, ints1, ints2, asB, asI, negD, addD, subD, modD, ltD, gtD, geD, leD, isND, isnND, intOp, intOpC, lenD_lst, lenD_tup, lenD_frz, len_sD, tupleD, listD, absD, max2D, min2D, allD, isiD, tyN, isiT_tt, isiT_ii, isiT_ib, idxD, lsA, gw, gt, opt_some, opt_none, bd_pu, bd_fl, bd_bd, chk_true, chk_tt, D.imm, D.imms, D.isN, List.map_cons, List.map_nil, List.length_cons, List.length_nil, List.set_cons_zero, List.set_cons_succ, List.getElem?_cons_zero, List.getElem?_cons_succ, List.getElem?_nil, Option.bind_some, Option.bind_none, Option.join_some, Option.join_none, Option.map_some, Bool.and_true, Bool.true_and, Bool.and_false, Bool.false_and, Bool.not_true, Bool.not_false, Bool.false_eq_true, Bool.true_eq_false, if_true, if_false, ite_true, ite_false, List.cons_append, List.nil_append, List.append_nil, Nat.zero_add, Nat.reduceAdd, Nat.reduceSub, Nat.reduceLeDiff, Int.reduceNeg, List.replicate_succ, List.replicate_zero, true_and, and_true, List.length_map, and_pu, or_pu, tand_pu, tor_pu, idx_0, idx_1, if_tt, if_ff, dSl, dNo, dSo, slD, imm_cD, imm_wD, intsD, sAppIx, sExt, sApp, lsD, sFor, seq_sD, eq_str, ne_str, eq_int, ne_int, nc0, nc1, nc2, nc3, nc4, decide_true, decide_false, ne_eq, not_true_eq_false, Int.reduceEq, not_false_eq_true, Bool.or_false, Bool.or_true, Bool.false_or, Bool.true_or, List.all_cons, List.all_nil, id_eq, wD, idx_int hi, e_is_between, b2]
    exact ⟨_, rfl, _, _, _, _, _, _, _, _, rfl⟩
  · rintro δ' ⟨x, y, z, a, b, c, d, e, rfl⟩
    simp (decide := true) (implicitDefEqProofs := false) only [bodyD, env0, sSeq, thenF, sIf, sRet, sRetN, sRetV, sSet, sSetN, sExpr, sNil, sAsg, sPar, resD, dV, dC, dOp, dUn, dNot, dAnd, dOr, dNotT, dAndT, dOrT, dB, dIf, dChain, dTup, dCons, dNil, dLst, dLstB, dCB, dCall, dCallK, dImm, dYes, a1, a2, bTup, bLst, bCons, bNil, bName, fSeq, seqOf, fRng1, fRng2, fEn, fZip, zip2, one1, ints1, ints2, asB, asI, negD, addD, subD, modD, ltD, gtD, geD, leD, isND, isnND, intOp, intOpC, lenD_lst, lenD_tup, lenD_frz, len_sD, tupleD, listD, absD, max2D, min2D, allD, isiD, tyN, isiT_tt, isiT_ii, isiT_ib, idxD, lsA, gw, gt, opt_some, opt_none, bd_pu, bd_fl, bd_bd, chk_true, chk_tt, D.imm, D.imms, D.isN, List.map_cons, List.map_nil, List.length_cons, List.length_nil, List.set_cons_zero, List.set_cons_succ, List.getElem?_cons_zero, List.getElem?_cons_succ, List.getElem?_nil, Option.bind_some, Option.bind_none, Option.join_some, Option.join_none, Option.map_some, Bool.and_true, Bool.true_and, Bool.and_false, Bool.false_and, Bool.not_true, Bool.not_false, Bool.false_eq_true, Bool.true_eq_false, if_true, if_false, ite_true, ite_false, List.cons_append, List.nil_append, List.append_nil, Nat.zero_add, Nat.reduceAdd, Nat.reduceSub, Nat.reduceLeDiff, Int.reduceNeg, List.replicate_succ, List.replicate_zero, true_and, and_true, List.length_map, and_pu, or_pu, tand_pu, tor_pu, idx_0, idx_1, if_tt, if_ff, dSl, dNo, dSo, slD, imm_cD, imm_wD, intsD, sAppIx, sExt, sApp, lsD, sFor, seq_sD, eq_str, ne_str, eq_int, ne_int, nc0, nc1, nc2, nc3, nc4, decide_true, decide_false, ne_eq, not_true_eq_false, Int.reduceEq, not_false_eq_true, Bool.or_false, Bool.or_true, Bool.false_or, Bool.true_or, List.all_cons, List.all_nil, id_eq, imms_wD, imms_cD, imms_int]
    refine bd_for (fun i δ => ∃ x y z a b c d e : Option D, δ = [some (D.tup [.tup (ws.map wD), .tup (cs.map cD)]), some (.tup (ss.map D.int)), x, y, z, a, b, c, d, e]) ⟨_, _, _, _, _, _, _, _, rfl⟩ ?_ ?_
    · rintro i d δ hd ⟨x, y, z, a, b, c, d, e, rfl⟩
      obtain ⟨c, hc, rfl⟩ := enD_at cD cs hd
      have hm := List.mem_of_getElem? hc
      obtain ⟨c1, c2, _⟩ := V.cok c hm
      obtain ⟨h1, h2⟩ := S.cpl c hm
      have hi : c.i < ss.length := by rw [S.len]; omega
      have hj : c.j < ss.length := by rw [S.len]; omega
      have b2 : (decide (c.lo ≤ ss.getD c.j 0 - ss.getD c.i 0) && decide (ss.getD c.j 0 - ss.getD c.i 0 ≤ c.hi)) = true := dand h1 h2
      simp (decide := true) (implicitDefEqProofs := false) only [bodyD, env0, sSeq, thenF, sIf, sRet, sRetN, sRetV, sSet, sSetN, sExpr, sNil, sAsg, sPar, resD, dV, dC, dOp, dUn, dNot, dAnd, dOr, dNotT, dAndT, dOrT, dB, dIf, dChain, dTup, dCons, dNil, dLst, dLstB, dCB, dCall, dCallK, dImm, dYes, a1, a2, bTup, bLst, bCons, bNil, bName, fSeq, seqOf, fRng1, fRng2, fEn, fZip, zip2, one1, ints1, ints2, asB, asI, negD, addD, subD, modD, ltD, gtD, geD, leD, isND, isnND, intOp, intOpC, lenD_lst, lenD_tup, lenD_frz, len_sD, tupleD, listD, absD, max2D, min2D, allD, isiD, tyN, isiT_tt, isiT_ii, isiT_ib, idxD, lsA, gw, gt, opt_some, opt_none, bd_pu, bd_fl, bd_bd, chk_true, chk_tt, D.imm, D.imms, D.isN, List.map_cons, List.map_nil, List.length_cons, List.length_nil, List.set_cons_zero, List.set_cons_succ, List.getElem?_cons_zero, List.getElem?_cons_succ, List.getElem?_nil, Option.bind_some, Option.bind_none, Option.join_some, Option.join_none, Option.map_some, Bool.and_true, Bool.true_and, Bool.and_false, Bool.false_and, Bool.not_true, Bool.not_false, Bool.false_eq_true, Bool.true_eq_false, if_true, if_false, ite_true, ite_false, List.cons_append, List.nil_append, List.append_nil, Nat.zero_add, Nat.reduceAdd, Nat.reduceSub, Nat.reduceLeDiff, Int.reduceNeg, List.replicate_succ, List.replicate_zero, true_and, and_true, List.length_map, and_pu, or_pu, tand_pu, tor_pu, idx_0, idx_1, if_tt, if_ff, dSl, dNo, dSo, slD, imm_cD, imm_wD, intsD, sAppIx, sExt, sApp, lsD, sFor, seq_sD, eq_str, ne_str, eq_int, ne_int, nc0, nc1, nc2, nc3, nc4, decide_true, decide_false, ne_eq, not_true_eq_false, Int.reduceEq, not_false_eq_true, Bool.or_false, Bool.or_true, Bool.false_or, Bool.true_or, List.all_cons, List.all_nil, id_eq, imm_cD]
      simp (decide := true) (implicitDefEqProofs := false) only [bodyD, env0, sSeq, thenF, sIf, sRet, sRetN, sRetV, sSet, sSetN, sExpr, sNil, sAsg, sPar, resD, dV, dC, dOp, dUn, dNot, dAnd, dOr, dNotT, dAndT, dOrT, dB, dIf, dChain, dTup, dCons, dNil, dLst, dLstB, dCB, dCall, dCallK, dImm, dYes, a1, a2, bTup, bLst, bCons, bNil, bName, fSeq, seqOf, fRng1, fRng2, fEn, fZip, zip2, one1, ints1, ints2, asB, asI, negD, addD, subD, modD, ltD, gtD, geD, leD, isND, isnND, intOp, intOpC, lenD_lst, lenD_tup, lenD_frz, len_sD, tupleD, listD, absD, max2D, min2D, allD, isiD, tyN, isiT_tt, isiT_ii, isiT_ib, idxD, lsA, gw, gt, opt_some, opt_none, bd_pu, bd_fl, bd_bd, chk_true, chk_tt, D.imm, D.imms, D.isN, List.map_cons, List.map_nil, List.length_cons, List.length_nil, List.set_cons_zero, List.set_cons_succ, List.getElem?_cons_zero, List.getElem?_cons_succ, List.getElem?_nil, Option.bind_some, Option.bind_none, Option.join_some, Option.join_none, Option.map_some, Bool.and_true, Bool.true_and, Bool.and_false, Bool.false_and, Bool.not_true, Bool.not_false, Bool.false_eq_true, Bool.true_eq_false, if_true, if_false, ite_true, ite_false, List.cons_append, List.nil_append, List.append_nil, Nat.zero_add, Nat.reduceAdd, Nat.reduceSub, Nat.reduceLeDiff, Int.reduceNeg, List.replicate_succ, List.replicate_zero, true_and, and_true, List.length_map, and_pu, or_pu, tand_pu, tor_pu, idx_0, idx_1, if_tt, if_ff, dSl, dNo, dSo, slD, imm_cD, imm_wD, intsD, sAppIx, sExt, sApp, lsD, sFor, seq_sD, eq_str, ne_str, eq_int, ne_int, nc0, nc1, nc2, nc3, nc4, decide_true, decide_false, ne_eq, not_true_eq_false, Int.reduceEq, not_false_eq_true, Bool.or_false, Bool.or_true, Bool.false_or, Bool.true_or, List.all_cons, List.all_nil, id_eq, cD, idx_int hi, idx_int hj, b2]
      exact ⟨_, rfl, _, _, _, _, _, _, _, _, rfl⟩
    · rintro δ' ⟨x, y, z, a, b, c, d, e, rfl⟩
      simp (decide := true) (implicitDefEqProofs := false) only [bodyD, env0, sSeq, thenF, sIf, sRet, sRetN, sRetV, sSet, sSetN, sExpr, sNil, sAsg, sPar, resD, dV, dC, dOp, dUn, dNot, dAnd, dOr, dNotT, dAndT, dOrT, dB, dIf, dChain, dTup, dCons, dNil, dLst, dLstB, dCB, dCall, dCallK, dImm, dYes, a1, a2, bTup, bLst, bCons, bNil, bName, fSeq, seqOf, fRng1, fRng2, fEn, fZip, zip2, one1, ints1, ints2, asB, asI, negD, addD, subD, modD, ltD, gtD, geD, leD, isND, isnND, intOp, intOpC, lenD_lst, lenD_tup, lenD_frz, len_sD, tupleD, listD, absD, max2D, min2D, allD, isiD, tyN, isiT_tt, isiT_ii, isiT_ib, idxD, lsA, gw, gt, opt_some, opt_none, bd_pu, bd_fl, bd_bd, chk_true, chk_tt, D.imm, D.imms, D.isN, List.map_cons, List.map_nil, List.length_cons, List.length_nil, List.set_cons_zero, List.set_cons_succ, List.getElem?_cons_zero, List.getElem?_cons_succ, List.getElem?_nil, Option.bind_some, Option.bind_none, Option.join_some, Option.join_none, Option.map_some, Bool.and_true, Bool.true_and, Bool.and_false, Bool.false_and, Bool.not_true, Bool.not_false, Bool.false_eq_true, Bool.true_eq_false, if_true, if_false, ite_true, ite_false, List.cons_append, List.nil_append, List.append_nil, Nat.zero_add, Nat.reduceAdd, Nat.reduceSub, Nat.reduceLeDiff, Int.reduceNeg, List.replicate_succ, List.replicate_zero, true_and, and_true, List.length_map, and_pu, or_pu, tand_pu, tor_pu, idx_0, idx_1, if_tt, if_ff, dSl, dNo, dSo, slD, imm_cD, imm_wD, intsD, sAppIx, sExt, sApp, lsD, sFor, seq_sD, eq_str, ne_str, eq_int, ne_int, nc0, nc1, nc2, nc3, nc4, decide_true, decide_false, ne_eq, not_true_eq_false, Int.reduceEq, not_false_eq_true, Bool.or_false, Bool.or_true, Bool.false_or, Bool.true_or, List.all_cons, List.all_nil, id_eq]
theorem e_need_arrangement {ws : List (Int × Int)} {cs : List Cp} {ss : List Int} (V : VY ws cs) (S : VS ws cs ss) : F_need_arrangement [yD ws cs, sD ss] = pu .non := by
  unfold F_need_arrangement g_need_arrangement
  simp (decide := true) (implicitDefEqProofs := false) only [bodyD, env0, sSeq, thenF, sIf, sRet, sRetN, sRetV, sSet, sSetN, sExpr, sNil, sAsg, sPar, resD, dV, dC, dOp, dUn, dNot, dAnd, dOr, dNotT, dAndT, dOrT, dB, dIf, dChain, dTup, dCons, dNil, dLst, dLstB, dCB, dCall, dCallK, dImm, dYes, a1, a2, bTup, bLst, bCons, bNil, bName, fSeq, seqOf, fRng1, fRng2, fEn, fZip, zip2, one1, ints1, ints2, asB, asI, negD, addD, subD, modD, ltD, gtD, geD, leD, isND, isnND, intOp, intOpC, lenD_lst, lenD_tup, lenD_frz, len_sD, tupleD, listD, absD, max2D, min2D, allD, isiD, tyN, isiT_tt, isiT_ii, isiT_ib, idxD, lsA, gw, gt, opt_some, opt_none, bd_pu, bd_fl, bd_bd, chk_true, chk_tt, D.imm, D.imms, D.isN, List.map_cons, List.map_nil, List.length_cons, List.length_nil, List.set_cons_zero, List.set_cons_succ, List.getElem?_cons_zero, List.getElem?_cons_succ, List.getElem?_nil, Option.bind_some, Option.bind_none, Option.join_some, Option.join_none, Option.map_some, Bool.and_true, Bool.true_and, Bool.and_false, Bool.false_and, Bool.not_true, Bool.not_false, Bool.false_eq_true, Bool.true_eq_false, if_true, if_false, ite_true, ite_false, List.cons_append, List.nil_append, List.append_nil, Nat.zero_add, Nat.reduceAdd, Nat.reduceSub, Nat.reduceLeDiff, Int.reduceNeg, List.replicate_succ, List.replicate_zero, true_and, and_true, List.length_map, and_pu, or_pu, tand_pu, tor_pu, idx_0, idx_1, if_tt, if_ff, dSl, dNo, dSo, slD, imm_cD, imm_wD, intsD, sAppIx, sExt, sApp, lsD, sFor, seq_sD, eq_str, ne_str, eq_int, ne_int, nc0, nc1, nc2, nc3, nc4, decide_true, decide_false, ne_eq, not_true_eq_false, Int.reduceEq, not_false_eq_true, Bool.or_false, Bool.or_true, Bool.false_or, Bool.true_or, List.all_cons, List.all_nil, id_eq, e_arrangement_problem V S]
theorem e_validate_arrangement {ws : List (Int × Int)} {cs : List Cp} {ss : List Int} (V : VY ws cs) (S : VS ws cs ss) : F_validate_arrangement [yD ws cs, sD ss] = pu .non := by
  unfold F_validate_arrangement g_validate_arrangement
  simp (decide := true) (implicitDefEqProofs := false) only [bodyD, env0, sSeq, thenF, sIf, sRet, sRetN, sRetV, sSet, sSetN, sExpr, sNil, sAsg, sPar, resD, dV, dC, dOp, dUn, dNot, dAnd, dOr, dNotT, dAndT, dOrT, dB, dIf, dChain, dTup, dCons, dNil, dLst, dLstB, dCB, dCall, dCallK, dImm, dYes, a1, a2, bTup, bLst, bCons, bNil, bName, fSeq, seqOf, fRng1, fRng2, fEn, fZip, zip2, one1, ints1, ints2, asB, asI, negD, addD, subD, modD, ltD, gtD, geD, leD, isND, isnND, intOp, intOpC, lenD_lst, lenD_tup, lenD_frz, len_sD, tupleD, listD, absD, max2D, min2D, allD, isiD, tyN, isiT_tt, isiT_ii, isiT_ib, idxD, lsA, gw, gt, opt_some, opt_none, bd_pu, bd_fl, bd_bd, chk_true, chk_tt, D.imm, D.imms, D.isN, List.map_cons, List.map_nil, List.length_cons, List.length_nil, List.set_cons_zero, List.set_cons_succ, List.getElem?_cons_zero, List.getElem?_cons_succ, List.getElem?_nil, Option.bind_some, Option.bind_none, Option.join_some, Option.join_none, Option.map_some, Bool.and_true, Bool.true_and, Bool.and_false, Bool.false_and, Bool.not_true, Bool.not_false, Bool.false_eq_true, Bool.true_eq_false, if_true, if_false, ite_true, ite_false, List.cons_append, List.nil_append, List.append_nil, Nat.zero_add, Nat.reduceAdd, Nat.reduceSub, Nat.reduceLeDiff, Int.reduceNeg, List.replicate_succ, List.replicate_zero, true_and, and_true, List.length_map, and_pu, or_pu, tand_pu, tor_pu, idx_0, idx_1, if_tt, if_ff, dSl, dNo, dSo, slD, imm_cD, imm_wD, intsD, sAppIx, sExt, sApp, lsD, sFor, seq_sD, eq_str, ne_str, eq_int, ne_int, nc0, nc1, nc2, nc3, nc4, decide_true, decide_false, ne_eq, not_true_eq_false, Int.reduceEq, not_false_eq_true, Bool.or_false, Bool.or_true, Bool.false_or, Bool.true_or, List.all_cons, List.all_nil, id_eq, e_validate_yard V, e_need_arrangement V S]
/-! ### links -/
structure Lk where
  o : Nat
  lo : Int
  hi : Int
def kD (k : Lk) : D := .tup [.int k.o, .int k.lo, .int k.hi]
def lksD (ls : List (List Lk)) : D := .lst (ls.map fun l => .lst (l.map kD))
/-- the links of wagon v by the first couplings -/
def lks (v : Nat) : List Cp → List Lk
  | [] => []
  | c :: cs => (if c.i = v then [⟨c.j, c.lo, c.hi⟩] else []) ++ (if c.j = v then [⟨c.i, -c.hi, -c.lo⟩] else []) ++ lks v cs
def lkAll (n : Nat) (cs : List Cp) : List (List Lk) := (List.range n).map fun v => lks v cs
theorem lks_app (v : Nat) : ∀ (cs cs' : List Cp), lks v (cs ++ cs') = lks v cs ++ lks v cs'
  | [], cs' => rfl
  | c :: cs, cs' => by simp only [List.cons_append, lks, lks_app v cs cs', List.append_assoc]
theorem imms_kD : ∀ (l : List Lk), D.imms (l.map kD) = true
  | [] => rfl
  | a :: l => by simp only [List.map_cons, D.imms, imms_kD l]; rfl
end CY
namespace CY
open PySem L2 DL
theorem ixN_nat {n k : Nat} (h : k < n) : L2.ixN n (k : Int) = some k := by
  unfold L2.ixN
  rw [if_pos (Int.natCast_nonneg k), if_pos (by omega)]
  simp
theorem lcN_map {h : D → DL.Env → DL.W DL.Env} {f : DL.Env → DL.W D} {δ : DL.Env} (m : D → D) : ∀ (ds acc : List D), acc.length + ds.length < sizeLine → (∀ d ∈ ds, ∃ δ1, h d δ = pu δ1 ∧ f δ1 = pu (m d)) → lcWN h dYes f δ ds acc = pu (acc ++ ds.map m)
  | [], acc, _, _ => by rw [List.map_nil, List.append_nil]; rfl
  | d :: ds, acc, hl, st => by
    obtain ⟨δ1, e1, e2⟩ := st d List.mem_cons_self
    have hl' : acc.length + ds.length + 1 < sizeLine := by simpa [Nat.add_assoc] using hl
    show (bd (h d δ) fun δ1 => bd (pu true) fun b => if b = true then bd (f δ1) fun e => chk (acc.length < sizeLine) (lcWN h dYes f δ ds (acc ++ [e])) else lcWN h dYes f δ ds acc) = _
    rw [e1, bd_pu, bd_pu, if_pos rfl, e2, bd_pu, chk_pos (by omega), lcN_map m ds _ (by rw [List.length_append, List.length_singleton]; omega) (fun d' q => st d' (List.mem_cons_of_mem _ q)), List.map_cons, List.append_assoc]
    rfl
theorem set_rng {α : Type} (F : Nat → α) (n a : Nat) (x : α) : ((List.range n).map F).set a x = (List.range n).map fun v => if v = a then x else F v := by
  refine List.ext_getElem (by simp) fun i h1 h2 => ?_
  rw [List.getElem_set]
  simp only [List.getElem_map, List.getElem_range]
  by_cases h : a = i
  · rw [if_pos h, if_pos h.symm]
  · rw [if_neg h, if_neg fun z => h z.symm]
theorem rng_at {α : Type} (F : Nat → α) {n a : Nat} (h : a < n) : ((List.range n).map F)[a]? = some (F a) := by
  rw [List.getElem?_map, List.getElem?_range h]
  rfl
def lkV (n : Nat) (cs : List Cp) : List D := (List.range n).map fun v => .lst ((lks v cs).map kD)
theorem lkV_len (n : Nat) (cs : List Cp) : (lkV n cs).length = n := by simp [lkV]
theorem lkV_next (n : Nat) (cs : List Cp) (c : Cp) (hc : c.i ≠ c.j) :
    ((lkV n cs).set c.i (.lst ((lks c.i cs).map kD ++ [.tup [.int c.j, .int c.lo, .int c.hi]]))).set c.j (.lst ((lks c.j cs).map kD ++ [.tup [.int c.i, .int (-c.hi), .int (-c.lo)]])) = lkV n (cs ++ [c]) := by
  unfold lkV
  rw [set_rng, set_rng]
  refine List.map_congr_left fun v _ => ?_
  rw [lks_app]
  simp only [lks, List.append_nil]
  by_cases h1 : c.j = v
  · subst h1
    rw [if_pos rfl, if_neg hc, if_pos rfl]
    simp [kD]
  · rw [if_neg (fun z => h1 z.symm), if_neg (show ¬ c.j = v from h1)]
    by_cases h2 : c.i = v
    · subst h2
      rw [if_pos rfl, if_pos rfl]
      simp [kD]
    · rw [if_neg (fun z => h2 z.symm), if_neg h2]
      simp
theorem lks_len (v : Nat) : ∀ cs : List Cp, (lks v cs).length ≤ 2 * cs.length
  | [] => Nat.le_refl _
  | c :: cs => by
    have := lks_len v cs
    simp only [lks, List.length_append, List.length_cons]
    split <;> split <;> simp <;> omega
theorem e_own_links {ws : List (Int × Int)} {cs : List Cp} (V : VY ws cs) : F_own_links [yD ws cs] = pu (.lst (lkV ws.length cs)) := by
  unfold F_own_links g_own_links yD
  simp (decide := true) (implicitDefEqProofs := false) only [bodyD, env0, sSeq, thenF, sIf, sRet, sRetN, sRetV, sSet, sSetN, sExpr, sNil, sAsg, sPar, resD, dV, dC, dOp, dUn, dNot, dAnd, dOr, dNotT, dAndT, dOrT, dB, dIf, dChain, dTup, dCons, dNil, dLst, dLstB, dCB, dCall, dCallK, dImm, dYes, a1, a2, bTup, bLst, bCons, bNil, bName, fSeq, seqOf, fRng1, fRng2, fEn, fZip, zip2, one1, ints1, ints2, asB, asI, negD, addD, subD, modD, ltD, gtD, geD, leD, isND, isnND, intOp, intOpC, lenD_lst, lenD_tup, lenD_frz, len_sD, tupleD, listD, absD, max2D, min2D, allD, isiD, tyN, isiT_tt, isiT_ii, isiT_ib, idxD, lsA, gw, gt, opt_some, opt_none, bd_pu, bd_fl, bd_bd, chk_true, chk_tt, D.imm, D.imms, D.isN, List.map_cons, List.map_nil, List.length_cons, List.length_nil, List.set_cons_zero, List.set_cons_succ, List.getElem?_cons_zero, List.getElem?_cons_succ, List.getElem?_nil, Option.bind_some, Option.bind_none, Option.join_some, Option.join_none, Option.map_some, Bool.and_true, Bool.true_and, Bool.and_false, Bool.false_and, Bool.not_true, Bool.not_false, Bool.false_eq_true, Bool.true_eq_false, if_true, if_false, ite_true, ite_false, List.cons_append, List.nil_append, List.append_nil, Nat.zero_add, Nat.reduceAdd, Nat.reduceSub, Nat.reduceLeDiff, Int.reduceNeg, List.replicate_succ, List.replicate_zero, true_and, and_true, List.length_map, and_pu, or_pu, tand_pu, tor_pu, idx_0, idx_1, if_tt, if_ff, dSl, dNo, dSo, slD, imm_cD, imm_wD, intsD, sAppIx, sExt, sApp, lsD, sFor, seq_sD, eq_str, ne_str, eq_int, ne_int, nc0, nc1, nc2, nc3, nc4, decide_true, decide_false, ne_eq, not_true_eq_false, Int.reduceEq, not_false_eq_true, Bool.or_false, Bool.or_true, Bool.false_or, Bool.true_or, List.all_cons, List.all_nil, id_eq, dLcN, wipeE, imms_wD, imms_cD]
  rw [lcN_map (fun _ => .lst []) _ _ (by rw [List.length_nil, List.length_map]; exact small (by have := V.n40; omega)) (fun d q => by
    obtain ⟨w, _, rfl⟩ := List.mem_map.mp q
    refine ⟨_, by simp (decide := true) (implicitDefEqProofs := false) only [bodyD, env0, sSeq, thenF, sIf, sRet, sRetN, sRetV, sSet, sSetN, sExpr, sNil, sAsg, sPar, resD, dV, dC, dOp, dUn, dNot, dAnd, dOr, dNotT, dAndT, dOrT, dB, dIf, dChain, dTup, dCons, dNil, dLst, dLstB, dCB, dCall, dCallK, dImm, dYes, a1, a2, bTup, bLst, bCons, bNil, bName, fSeq, seqOf, fRng1, fRng2, fEn, fZip, zip2, one1, ints1, ints2, asB, asI, negD, addD, subD, modD, ltD, gtD, geD, leD, isND, isnND, intOp, intOpC, lenD_lst, lenD_tup, lenD_frz, len_sD, tupleD, listD, absD, max2D, min2D, allD, isiD, tyN, isiT_tt, isiT_ii, isiT_ib, idxD, lsA, gw, gt, opt_some, opt_none, bd_pu, bd_fl, bd_bd, chk_true, chk_tt, D.imm, D.imms, D.isN, List.map_cons, List.map_nil, List.length_cons, List.length_nil, List.set_cons_zero, List.set_cons_succ, List.getElem?_cons_zero, List.getElem?_cons_succ, List.getElem?_nil, Option.bind_some, Option.bind_none, Option.join_some, Option.join_none, Option.map_some, Bool.and_true, Bool.true_and, Bool.and_false, Bool.false_and, Bool.not_true, Bool.not_false, Bool.false_eq_true, Bool.true_eq_false, if_true, if_false, ite_true, ite_false, List.cons_append, List.nil_append, List.append_nil, Nat.zero_add, Nat.reduceAdd, Nat.reduceSub, Nat.reduceLeDiff, Int.reduceNeg, List.replicate_succ, List.replicate_zero, true_and, and_true, List.length_map, and_pu, or_pu, tand_pu, tor_pu, idx_0, idx_1, if_tt, if_ff, dSl, dNo, dSo, slD, imm_cD, imm_wD, intsD, sAppIx, sExt, sApp, lsD, sFor, seq_sD, eq_str, ne_str, eq_int, ne_int, nc0, nc1, nc2, nc3, nc4, decide_true, decide_false, ne_eq, not_true_eq_false, Int.reduceEq, not_false_eq_true, Bool.or_false, Bool.or_true, Bool.false_or, Bool.true_or, List.all_cons, List.all_nil, id_eq]; rfl, ?_⟩
    simp (decide := true) (implicitDefEqProofs := false) only [bodyD, env0, sSeq, thenF, sIf, sRet, sRetN, sRetV, sSet, sSetN, sExpr, sNil, sAsg, sPar, resD, dV, dC, dOp, dUn, dNot, dAnd, dOr, dNotT, dAndT, dOrT, dB, dIf, dChain, dTup, dCons, dNil, dLst, dLstB, dCB, dCall, dCallK, dImm, dYes, a1, a2, bTup, bLst, bCons, bNil, bName, fSeq, seqOf, fRng1, fRng2, fEn, fZip, zip2, one1, ints1, ints2, asB, asI, negD, addD, subD, modD, ltD, gtD, geD, leD, isND, isnND, intOp, intOpC, lenD_lst, lenD_tup, lenD_frz, len_sD, tupleD, listD, absD, max2D, min2D, allD, isiD, tyN, isiT_tt, isiT_ii, isiT_ib, idxD, lsA, gw, gt, opt_some, opt_none, bd_pu, bd_fl, bd_bd, chk_true, chk_tt, D.imm, D.imms, D.isN, List.map_cons, List.map_nil, List.length_cons, List.length_nil, List.set_cons_zero, List.set_cons_succ, List.getElem?_cons_zero, List.getElem?_cons_succ, List.getElem?_nil, Option.bind_some, Option.bind_none, Option.join_some, Option.join_none, Option.map_some, Bool.and_true, Bool.true_and, Bool.and_false, Bool.false_and, Bool.not_true, Bool.not_false, Bool.false_eq_true, Bool.true_eq_false, if_true, if_false, ite_true, ite_false, List.cons_append, List.nil_append, List.append_nil, Nat.zero_add, Nat.reduceAdd, Nat.reduceSub, Nat.reduceLeDiff, Int.reduceNeg, List.replicate_succ, List.replicate_zero, true_and, and_true, List.length_map, and_pu, or_pu, tand_pu, tor_pu, idx_0, idx_1, if_tt, if_ff, dSl, dNo, dSo, slD, imm_cD, imm_wD, intsD, sAppIx, sExt, sApp, lsD, sFor, seq_sD, eq_str, ne_str, eq_int, ne_int, nc0, nc1, nc2, nc3, nc4, decide_true, decide_false, ne_eq, not_true_eq_false, Int.reduceEq, not_false_eq_true, Bool.or_false, Bool.or_true, Bool.false_or, Bool.true_or, List.all_cons, List.all_nil, id_eq])]
  simp (decide := true) (implicitDefEqProofs := false) only [bodyD, env0, sSeq, thenF, sIf, sRet, sRetN, sRetV, sSet, sSetN, sExpr, sNil, sAsg, sPar, resD, dV, dC, dOp, dUn, dNot, dAnd, dOr, dNotT, dAndT, dOrT, dB, dIf, dChain, dTup, dCons, dNil, dLst, dLstB, dCB, dCall, dCallK, dImm, dYes, a1, a2, bTup, bLst, bCons, bNil, bName, fSeq, seqOf, fRng1, fRng2, fEn, fZip, zip2, one1, ints1, ints2, asB, asI, negD, addD, subD, modD, ltD, gtD, geD, leD, isND, isnND, intOp, intOpC, lenD_lst, lenD_tup, lenD_frz, len_sD, tupleD, listD, absD, max2D, min2D, allD, isiD, tyN, isiT_tt, isiT_ii, isiT_ib, idxD, lsA, gw, gt, opt_some, opt_none, bd_pu, bd_fl, bd_bd, chk_true, chk_tt, D.imm, D.imms, D.isN, List.map_cons, List.map_nil, List.length_cons, List.length_nil, List.set_cons_zero, List.set_cons_succ, List.getElem?_cons_zero, List.getElem?_cons_succ, List.getElem?_nil, Option.bind_some, Option.bind_none, Option.join_some, Option.join_none, Option.map_some, Bool.and_true, Bool.true_and, Bool.and_false, Bool.false_and, Bool.not_true, Bool.not_false, Bool.false_eq_true, Bool.true_eq_false, if_true, if_false, ite_true, ite_false, List.cons_append, List.nil_append, List.append_nil, Nat.zero_add, Nat.reduceAdd, Nat.reduceSub, Nat.reduceLeDiff, Int.reduceNeg, List.replicate_succ, List.replicate_zero, true_and, and_true, List.length_map, and_pu, or_pu, tand_pu, tor_pu, idx_0, idx_1, if_tt, if_ff, dSl, dNo, dSo, slD, imm_cD, imm_wD, intsD, sAppIx, sExt, sApp, lsD, sFor, seq_sD, eq_str, ne_str, eq_int, ne_int, nc0, nc1, nc2, nc3, nc4, decide_true, decide_false, ne_eq, not_true_eq_false, Int.reduceEq, not_false_eq_true, Bool.or_false, Bool.or_true, Bool.false_or, Bool.true_or, List.all_cons, List.all_nil, id_eq, imms_cD]
  refine bd_for (fun i δ => ∃ x y z a b : Option D, δ = [some (D.tup [.tup (ws.map wD), .tup (cs.map cD)]), some (.lst (lkV ws.length (cs.take i))), x, y, z, a, b]) ⟨none, none, none, none, none, ?_⟩ ?_ ?_
  · have e : (ws.map wD).map (fun _ => D.lst []) = lkV ws.length (cs.take 0) := by
      unfold lkV
      refine List.ext_getElem (by simp) fun i h1 h2 => ?_
      simp [lks]
    rw [e]
  · rintro i d δ hd ⟨x, y, z, a, b, rfl⟩
    obtain ⟨c, hc, rfl⟩ := map_at cD cs hd
    obtain ⟨c1, c2, _⟩ := V.cok c (List.mem_of_getElem? hc)
    have hi : c.i < ws.length := by omega
    have bd1 : ∀ v, (lks v (cs.take i)).length < sizeLine := fun v => by
      have h1 := lks_len v (cs.take i)
      have h2 := V.few
      have h40 := V.n40
      have h3 : (cs.take i).length ≤ cs.length := by simp; omega
      exact Nat.lt_of_le_of_lt (show _ ≤ 2000 by omega) (by decide)
    have k1 : (lkV ws.length (cs.take i))[c.i]? = some (.lst ((lks c.i (cs.take i)).map kD)) := rng_at _ hi
    have k2 : ((lkV ws.length (cs.take i)).set c.i (.lst ((lks c.i (cs.take i)).map kD ++ [.tup [.int c.j, .int c.lo, .int c.hi]])))[c.j]? = some (.lst ((lks c.j (cs.take i)).map kD)) := by
      rw [List.getElem?_set_ne (by omega)]
      exact rng_at _ c2
    simp (decide := true) (implicitDefEqProofs := false) only [bodyD, env0, sSeq, thenF, sIf, sRet, sRetN, sRetV, sSet, sSetN, sExpr, sNil, sAsg, sPar, resD, dV, dC, dOp, dUn, dNot, dAnd, dOr, dNotT, dAndT, dOrT, dB, dIf, dChain, dTup, dCons, dNil, dLst, dLstB, dCB, dCall, dCallK, dImm, dYes, a1, a2, bTup, bLst, bCons, bNil, bName, fSeq, seqOf, fRng1, fRng2, fEn, fZip, zip2, one1, ints1, ints2, asB, asI, negD, addD, subD, modD, ltD, gtD, geD, leD, isND, isnND, intOp, intOpC, lenD_lst, lenD_tup, lenD_frz, len_sD, tupleD, listD, absD, max2D, min2D, allD, isiD, tyN, isiT_tt, isiT_ii, isiT_ib, idxD, lsA, gw, gt, opt_some, opt_none, bd_pu, bd_fl, bd_bd, chk_true, chk_tt, D.imm, D.imms, D.isN, List.map_cons, List.map_nil, List.length_cons, List.length_nil, List.set_cons_zero, List.set_cons_succ, List.getElem?_cons_zero, List.getElem?_cons_succ, List.getElem?_nil, Option.bind_some, Option.bind_none, Option.join_some, Option.join_none, Option.map_some, Bool.and_true, Bool.true_and, Bool.and_false, Bool.false_and, Bool.not_true, Bool.not_false, Bool.false_eq_true, Bool.true_eq_false, if_true, if_false, ite_true, ite_false, List.cons_append, List.nil_append, List.append_nil, Nat.zero_add, Nat.reduceAdd, Nat.reduceSub, Nat.reduceLeDiff, Int.reduceNeg, List.replicate_succ, List.replicate_zero, true_and, and_true, List.length_map, and_pu, or_pu, tand_pu, tor_pu, idx_0, idx_1, if_tt, if_ff, dSl, dNo, dSo, slD, imm_cD, imm_wD, intsD, sAppIx, sExt, sApp, lsD, sFor, seq_sD, eq_str, ne_str, eq_int, ne_int, nc0, nc1, nc2, nc3, nc4, decide_true, decide_false, ne_eq, not_true_eq_false, Int.reduceEq, not_false_eq_true, Bool.or_false, Bool.or_true, Bool.false_or, Bool.true_or, List.all_cons, List.all_nil, id_eq, cD, ixN_nat (lkV_len ws.length (cs.take i) ▸ hi), k1, imms_kD, bd1]
    simp (decide := true) (implicitDefEqProofs := false) only [bodyD, env0, sSeq, thenF, sIf, sRet, sRetN, sRetV, sSet, sSetN, sExpr, sNil, sAsg, sPar, resD, dV, dC, dOp, dUn, dNot, dAnd, dOr, dNotT, dAndT, dOrT, dB, dIf, dChain, dTup, dCons, dNil, dLst, dLstB, dCB, dCall, dCallK, dImm, dYes, a1, a2, bTup, bLst, bCons, bNil, bName, fSeq, seqOf, fRng1, fRng2, fEn, fZip, zip2, one1, ints1, ints2, asB, asI, negD, addD, subD, modD, ltD, gtD, geD, leD, isND, isnND, intOp, intOpC, lenD_lst, lenD_tup, lenD_frz, len_sD, tupleD, listD, absD, max2D, min2D, allD, isiD, tyN, isiT_tt, isiT_ii, isiT_ib, idxD, lsA, gw, gt, opt_some, opt_none, bd_pu, bd_fl, bd_bd, chk_true, chk_tt, D.imm, D.imms, D.isN, List.map_cons, List.map_nil, List.length_cons, List.length_nil, List.set_cons_zero, List.set_cons_succ, List.getElem?_cons_zero, List.getElem?_cons_succ, List.getElem?_nil, Option.bind_some, Option.bind_none, Option.join_some, Option.join_none, Option.map_some, Bool.and_true, Bool.true_and, Bool.and_false, Bool.false_and, Bool.not_true, Bool.not_false, Bool.false_eq_true, Bool.true_eq_false, if_true, if_false, ite_true, ite_false, List.cons_append, List.nil_append, List.append_nil, Nat.zero_add, Nat.reduceAdd, Nat.reduceSub, Nat.reduceLeDiff, Int.reduceNeg, List.replicate_succ, List.replicate_zero, true_and, and_true, List.length_map, and_pu, or_pu, tand_pu, tor_pu, idx_0, idx_1, if_tt, if_ff, dSl, dNo, dSo, slD, imm_cD, imm_wD, intsD, sAppIx, sExt, sApp, lsD, sFor, seq_sD, eq_str, ne_str, eq_int, ne_int, nc0, nc1, nc2, nc3, nc4, decide_true, decide_false, ne_eq, not_true_eq_false, Int.reduceEq, not_false_eq_true, Bool.or_false, Bool.or_true, Bool.false_or, Bool.true_or, List.all_cons, List.all_nil, id_eq, List.length_set, ixN_nat (lkV_len ws.length (cs.take i) ▸ c2), k2, imms_kD, bd1]
    rw [lkV_next _ _ _ (by omega), show cs.take i ++ [c] = cs.take (i + 1) by rw [List.take_succ, hc]; rfl]
    exact ⟨_, rfl, _, _, _, _, _, rfl⟩
  · rintro δ' ⟨x, y, z, a, b, rfl⟩
    simp (decide := true) (implicitDefEqProofs := false) only [bodyD, env0, sSeq, thenF, sIf, sRet, sRetN, sRetV, sSet, sSetN, sExpr, sNil, sAsg, sPar, resD, dV, dC, dOp, dUn, dNot, dAnd, dOr, dNotT, dAndT, dOrT, dB, dIf, dChain, dTup, dCons, dNil, dLst, dLstB, dCB, dCall, dCallK, dImm, dYes, a1, a2, bTup, bLst, bCons, bNil, bName, fSeq, seqOf, fRng1, fRng2, fEn, fZip, zip2, one1, ints1, ints2, asB, asI, negD, addD, subD, modD, ltD, gtD, geD, leD, isND, isnND, intOp, intOpC, lenD_lst, lenD_tup, lenD_frz, len_sD, tupleD, listD, absD, max2D, min2D, allD, isiD, tyN, isiT_tt, isiT_ii, isiT_ib, idxD, lsA, gw, gt, opt_some, opt_none, bd_pu, bd_fl, bd_bd, chk_true, chk_tt, D.imm, D.imms, D.isN, List.map_cons, List.map_nil, List.length_cons, List.length_nil, List.set_cons_zero, List.set_cons_succ, List.getElem?_cons_zero, List.getElem?_cons_succ, List.getElem?_nil, Option.bind_some, Option.bind_none, Option.join_some, Option.join_none, Option.map_some, Bool.and_true, Bool.true_and, Bool.and_false, Bool.false_and, Bool.not_true, Bool.not_false, Bool.false_eq_true, Bool.true_eq_false, if_true, if_false, ite_true, ite_false, List.cons_append, List.nil_append, List.append_nil, Nat.zero_add, Nat.reduceAdd, Nat.reduceSub, Nat.reduceLeDiff, Int.reduceNeg, List.replicate_succ, List.replicate_zero, true_and, and_true, List.length_map, and_pu, or_pu, tand_pu, tor_pu, idx_0, idx_1, if_tt, if_ff, dSl, dNo, dSo, slD, imm_cD, imm_wD, intsD, sAppIx, sExt, sApp, lsD, sFor, seq_sD, eq_str, ne_str, eq_int, ne_int, nc0, nc1, nc2, nc3, nc4, decide_true, decide_false, ne_eq, not_true_eq_false, Int.reduceEq, not_false_eq_true, Bool.or_false, Bool.or_true, Bool.false_or, Bool.true_or, List.all_cons, List.all_nil, id_eq, List.take_length]
/-! ### steps -/
/-- a link lets w move by g -/
def okL (ss : List Int) (w : Nat) (g : Int) (k : Lk) : Bool := decide (k.lo ≤ ss.getD k.o 0 - ss.getD w 0 - g) && decide (ss.getD k.o 0 - ss.getD w 0 - g ≤ k.hi)
def holdD : Option Lk → D
  | none => .non
  | some k => .int k.o
theorem find_first {α : Type} {p : α → Bool} {l : List α} {i : Nat} {a : α} (h : l[i]? = some a) (ha : p a = true) (hb : ∀ j, j < i → ∀ b, l[j]? = some b → p b = false) : l.find? p = some a := by
  induction l generalizing i with
  | nil => simp at h
  | cons x l ih =>
    cases i with
    | zero =>
      have e : x = a := by simpa using h
      subst e
      rw [List.find?_cons_of_pos ha]
    | succ i =>
      rw [List.find?_cons_of_neg (by rw [hb 0 (Nat.succ_pos _) x rfl]; exact Bool.false_ne_true)]
      exact ih (by simpa using h) fun j hj b q => hb (j + 1) (by omega) b (by simpa using q)
theorem lks_lt {cs : List Cp} {n v : Nat} (h : ∀ c ∈ cs, c.i < c.j ∧ c.j < n) : ∀ k ∈ lks v cs, k.o < n := by
  induction cs with
  | nil => intro k hk; cases hk
  | cons c cs ih =>
    intro k hk
    obtain ⟨c1, c2⟩ := h c List.mem_cons_self
    simp only [lks, List.mem_append] at hk
    rcases hk with (hk | hk) | hk
    · split at hk
      · rw [List.mem_singleton.mp hk]; exact c2
      · cases hk
    · split at hk
      · rw [List.mem_singleton.mp hk]; show c.i < n; omega
      · cases hk
    · exact ih (fun c hc => h c (List.mem_cons_of_mem _ hc)) k hk
theorem VY.lt {ws : List (Int × Int)} {cs : List Cp} (V : VY ws cs) {v : Nat} : ∀ k ∈ lks v cs, k.o < ws.length := lks_lt fun c hc => ⟨(V.cok c hc).1, (V.cok c hc).2.1⟩
theorem e_holder_of {ws : List (Int × Int)} {cs : List Cp} {ss : List Int} {w : Nat} {g : Int} (V : VY ws cs) (S : ss.length = ws.length) (hw : w < ws.length) :
    F_holder_of [.lst (lkV ws.length cs), sD ss, .int w, .int g] = pu (holdD ((lks w cs).find? fun k => !okL ss w g k)) := by
  unfold F_holder_of g_holder_of sD
  have k1 : (lkV ws.length cs)[w]? = some (.lst ((lks w cs).map kD)) := rng_at _ hw
  have hw' : w < ss.length := by rw [S]; exact hw
  simp (decide := true) (implicitDefEqProofs := false) only [bodyD, env0, sSeq, thenF, sIf, sRet, sRetN, sRetV, sSet, sSetN, sExpr, sNil, sAsg, sPar, resD, dV, dC, dOp, dUn, dNot, dAnd, dOr, dNotT, dAndT, dOrT, dB, dIf, dChain, dTup, dCons, dNil, dLst, dLstB, dCB, dCall, dCallK, dImm, dYes, a1, a2, bTup, bLst, bCons, bNil, bName, fSeq, seqOf, fRng1, fRng2, fEn, fZip, zip2, one1, ints1, ints2, asB, asI, negD, addD, subD, modD, ltD, gtD, geD, leD, isND, isnND, intOp, intOpC, lenD_lst, lenD_tup, lenD_frz, len_sD, tupleD, listD, absD, max2D, min2D, allD, isiD, tyN, isiT_tt, isiT_ii, isiT_ib, idxD, lsA, gw, gt, opt_some, opt_none, bd_pu, bd_fl, bd_bd, chk_true, chk_tt, D.imm, D.imms, D.isN, List.map_cons, List.map_nil, List.length_cons, List.length_nil, List.set_cons_zero, List.set_cons_succ, List.getElem?_cons_zero, List.getElem?_cons_succ, List.getElem?_nil, Option.bind_some, Option.bind_none, Option.join_some, Option.join_none, Option.map_some, Bool.and_true, Bool.true_and, Bool.and_false, Bool.false_and, Bool.not_true, Bool.not_false, Bool.false_eq_true, Bool.true_eq_false, if_true, if_false, ite_true, ite_false, List.cons_append, List.nil_append, List.append_nil, Nat.zero_add, Nat.reduceAdd, Nat.reduceSub, Nat.reduceLeDiff, Int.reduceNeg, List.replicate_succ, List.replicate_zero, true_and, and_true, List.length_map, and_pu, or_pu, tand_pu, tor_pu, idx_0, idx_1, if_tt, if_ff, dSl, dNo, dSo, slD, imm_cD, imm_wD, intsD, sAppIx, sExt, sApp, lsD, sFor, seq_sD, eq_str, ne_str, eq_int, ne_int, nc0, nc1, nc2, nc3, nc4, decide_true, decide_false, ne_eq, not_true_eq_false, Int.reduceEq, not_false_eq_true, Bool.or_false, Bool.or_true, Bool.false_or, Bool.true_or, List.all_cons, List.all_nil, id_eq, idx_nat k1, imms_kD]
  refine bd_forR (fun i δ => ∃ x y z : Option D, δ = [some (.lst (lkV ws.length cs)), some (.tup (ss.map D.int)), some (.int w), some (.int g), x, y, z]) (fun i => ∃ k, (lks w cs)[i]? = some k ∧ okL ss w g k = true) (fun i => match (lks w cs)[i]? with | some k => .int k.o | none => .non) ⟨none, none, none, rfl⟩ ?_ ?_ ?_
  · rintro i d δ hd ⟨x, y, z, rfl⟩
    obtain ⟨k, hk, rfl⟩ := map_at kD _ hd
    have ho : k.o < ss.length := by rw [S]; exact V.lt k (List.mem_of_getElem? hk)
    cases e : okL ss w g k with
    | true =>
      refine .inl ?_
      unfold okL at e
      simp (decide := true) (implicitDefEqProofs := false) only [bodyD, env0, sSeq, thenF, sIf, sRet, sRetN, sRetV, sSet, sSetN, sExpr, sNil, sAsg, sPar, resD, dV, dC, dOp, dUn, dNot, dAnd, dOr, dNotT, dAndT, dOrT, dB, dIf, dChain, dTup, dCons, dNil, dLst, dLstB, dCB, dCall, dCallK, dImm, dYes, a1, a2, bTup, bLst, bCons, bNil, bName, fSeq, seqOf, fRng1, fRng2, fEn, fZip, zip2, one1, ints1, ints2, asB, asI, negD, addD, subD, modD, ltD, gtD, geD, leD, isND, isnND, intOp, intOpC, lenD_lst, lenD_tup, lenD_frz, len_sD, tupleD, listD, absD, max2D, min2D, allD, isiD, tyN, isiT_tt, isiT_ii, isiT_ib, idxD, lsA, gw, gt, opt_some, opt_none, bd_pu, bd_fl, bd_bd, chk_true, chk_tt, D.imm, D.imms, D.isN, List.map_cons, List.map_nil, List.length_cons, List.length_nil, List.set_cons_zero, List.set_cons_succ, List.getElem?_cons_zero, List.getElem?_cons_succ, List.getElem?_nil, Option.bind_some, Option.bind_none, Option.join_some, Option.join_none, Option.map_some, Bool.and_true, Bool.true_and, Bool.and_false, Bool.false_and, Bool.not_true, Bool.not_false, Bool.false_eq_true, Bool.true_eq_false, if_true, if_false, ite_true, ite_false, List.cons_append, List.nil_append, List.append_nil, Nat.zero_add, Nat.reduceAdd, Nat.reduceSub, Nat.reduceLeDiff, Int.reduceNeg, List.replicate_succ, List.replicate_zero, true_and, and_true, List.length_map, and_pu, or_pu, tand_pu, tor_pu, idx_0, idx_1, if_tt, if_ff, dSl, dNo, dSo, slD, imm_cD, imm_wD, intsD, sAppIx, sExt, sApp, lsD, sFor, seq_sD, eq_str, ne_str, eq_int, ne_int, nc0, nc1, nc2, nc3, nc4, decide_true, decide_false, ne_eq, not_true_eq_false, Int.reduceEq, not_false_eq_true, Bool.or_false, Bool.or_true, Bool.false_or, Bool.true_or, List.all_cons, List.all_nil, id_eq, kD, idx_int ho, idx_int hw', e]
      exact ⟨_, rfl, ⟨_, _, _, rfl⟩, k, hk, e⟩
    | false =>
      refine .inr ?_
      rw [hk]
      unfold okL at e
      simp (decide := true) (implicitDefEqProofs := false) only [bodyD, env0, sSeq, thenF, sIf, sRet, sRetN, sRetV, sSet, sSetN, sExpr, sNil, sAsg, sPar, resD, dV, dC, dOp, dUn, dNot, dAnd, dOr, dNotT, dAndT, dOrT, dB, dIf, dChain, dTup, dCons, dNil, dLst, dLstB, dCB, dCall, dCallK, dImm, dYes, a1, a2, bTup, bLst, bCons, bNil, bName, fSeq, seqOf, fRng1, fRng2, fEn, fZip, zip2, one1, ints1, ints2, asB, asI, negD, addD, subD, modD, ltD, gtD, geD, leD, isND, isnND, intOp, intOpC, lenD_lst, lenD_tup, lenD_frz, len_sD, tupleD, listD, absD, max2D, min2D, allD, isiD, tyN, isiT_tt, isiT_ii, isiT_ib, idxD, lsA, gw, gt, opt_some, opt_none, bd_pu, bd_fl, bd_bd, chk_true, chk_tt, D.imm, D.imms, D.isN, List.map_cons, List.map_nil, List.length_cons, List.length_nil, List.set_cons_zero, List.set_cons_succ, List.getElem?_cons_zero, List.getElem?_cons_succ, List.getElem?_nil, Option.bind_some, Option.bind_none, Option.join_some, Option.join_none, Option.map_some, Bool.and_true, Bool.true_and, Bool.and_false, Bool.false_and, Bool.not_true, Bool.not_false, Bool.false_eq_true, Bool.true_eq_false, if_true, if_false, ite_true, ite_false, List.cons_append, List.nil_append, List.append_nil, Nat.zero_add, Nat.reduceAdd, Nat.reduceSub, Nat.reduceLeDiff, Int.reduceNeg, List.replicate_succ, List.replicate_zero, true_and, and_true, List.length_map, and_pu, or_pu, tand_pu, tor_pu, idx_0, idx_1, if_tt, if_ff, dSl, dNo, dSo, slD, imm_cD, imm_wD, intsD, sAppIx, sExt, sApp, lsD, sFor, seq_sD, eq_str, ne_str, eq_int, ne_int, nc0, nc1, nc2, nc3, nc4, decide_true, decide_false, ne_eq, not_true_eq_false, Int.reduceEq, not_false_eq_true, Bool.or_false, Bool.or_true, Bool.false_or, Bool.true_or, List.all_cons, List.all_nil, id_eq, kD, idx_int ho, idx_int hw', e]
      exact ⟨_, rfl, fun ⟨k', hk', e'⟩ => by
        cases hk'
        unfold okL at e'
        rw [e] at e'
        cases e'⟩
  · rintro δ' ⟨x, y, z, rfl⟩ h
    simp (decide := true) (implicitDefEqProofs := false) only [bodyD, env0, sSeq, thenF, sIf, sRet, sRetN, sRetV, sSet, sSetN, sExpr, sNil, sAsg, sPar, resD, dV, dC, dOp, dUn, dNot, dAnd, dOr, dNotT, dAndT, dOrT, dB, dIf, dChain, dTup, dCons, dNil, dLst, dLstB, dCB, dCall, dCallK, dImm, dYes, a1, a2, bTup, bLst, bCons, bNil, bName, fSeq, seqOf, fRng1, fRng2, fEn, fZip, zip2, one1, ints1, ints2, asB, asI, negD, addD, subD, modD, ltD, gtD, geD, leD, isND, isnND, intOp, intOpC, lenD_lst, lenD_tup, lenD_frz, len_sD, tupleD, listD, absD, max2D, min2D, allD, isiD, tyN, isiT_tt, isiT_ii, isiT_ib, idxD, lsA, gw, gt, opt_some, opt_none, bd_pu, bd_fl, bd_bd, chk_true, chk_tt, D.imm, D.imms, D.isN, List.map_cons, List.map_nil, List.length_cons, List.length_nil, List.set_cons_zero, List.set_cons_succ, List.getElem?_cons_zero, List.getElem?_cons_succ, List.getElem?_nil, Option.bind_some, Option.bind_none, Option.join_some, Option.join_none, Option.map_some, Bool.and_true, Bool.true_and, Bool.and_false, Bool.false_and, Bool.not_true, Bool.not_false, Bool.false_eq_true, Bool.true_eq_false, if_true, if_false, ite_true, ite_false, List.cons_append, List.nil_append, List.append_nil, Nat.zero_add, Nat.reduceAdd, Nat.reduceSub, Nat.reduceLeDiff, Int.reduceNeg, List.replicate_succ, List.replicate_zero, true_and, and_true, List.length_map, and_pu, or_pu, tand_pu, tor_pu, idx_0, idx_1, if_tt, if_ff, dSl, dNo, dSo, slD, imm_cD, imm_wD, intsD, sAppIx, sExt, sApp, lsD, sFor, seq_sD, eq_str, ne_str, eq_int, ne_int, nc0, nc1, nc2, nc3, nc4, decide_true, decide_false, ne_eq, not_true_eq_false, Int.reduceEq, not_false_eq_true, Bool.or_false, Bool.or_true, Bool.false_or, Bool.true_or, List.all_cons, List.all_nil, id_eq]
    have e : (lks w cs).find? (fun k => !okL ss w g k) = none := by
      refine List.find?_eq_none.mpr fun k hk => ?_
      obtain ⟨i, hi⟩ := List.mem_iff_getElem?.mp hk
      obtain ⟨k', hk', e⟩ := h i (by rw [List.length_map]; exact (List.getElem?_eq_some_iff.mp hi).1)
      rw [hi] at hk'
      cases hk'
      simp [e]
    rw [e]
    rfl
  · intro i δ' hi np bf
    have hi' : i < (lks w cs).length := by simpa using hi
    have hk := List.getElem?_eq_getElem hi'
    rw [hk]
    simp (decide := true) (implicitDefEqProofs := false) only [bodyD, env0, sSeq, thenF, sIf, sRet, sRetN, sRetV, sSet, sSetN, sExpr, sNil, sAsg, sPar, resD, dV, dC, dOp, dUn, dNot, dAnd, dOr, dNotT, dAndT, dOrT, dB, dIf, dChain, dTup, dCons, dNil, dLst, dLstB, dCB, dCall, dCallK, dImm, dYes, a1, a2, bTup, bLst, bCons, bNil, bName, fSeq, seqOf, fRng1, fRng2, fEn, fZip, zip2, one1, ints1, ints2, asB, asI, negD, addD, subD, modD, ltD, gtD, geD, leD, isND, isnND, intOp, intOpC, lenD_lst, lenD_tup, lenD_frz, len_sD, tupleD, listD, absD, max2D, min2D, allD, isiD, tyN, isiT_tt, isiT_ii, isiT_ib, idxD, lsA, gw, gt, opt_some, opt_none, bd_pu, bd_fl, bd_bd, chk_true, chk_tt, D.imm, D.imms, D.isN, List.map_cons, List.map_nil, List.length_cons, List.length_nil, List.set_cons_zero, List.set_cons_succ, List.getElem?_cons_zero, List.getElem?_cons_succ, List.getElem?_nil, Option.bind_some, Option.bind_none, Option.join_some, Option.join_none, Option.map_some, Bool.and_true, Bool.true_and, Bool.and_false, Bool.false_and, Bool.not_true, Bool.not_false, Bool.false_eq_true, Bool.true_eq_false, if_true, if_false, ite_true, ite_false, List.cons_append, List.nil_append, List.append_nil, Nat.zero_add, Nat.reduceAdd, Nat.reduceSub, Nat.reduceLeDiff, Int.reduceNeg, List.replicate_succ, List.replicate_zero, true_and, and_true, List.length_map, and_pu, or_pu, tand_pu, tor_pu, idx_0, idx_1, if_tt, if_ff, dSl, dNo, dSo, slD, imm_cD, imm_wD, intsD, sAppIx, sExt, sApp, lsD, sFor, seq_sD, eq_str, ne_str, eq_int, ne_int, nc0, nc1, nc2, nc3, nc4, decide_true, decide_false, ne_eq, not_true_eq_false, Int.reduceEq, not_false_eq_true, Bool.or_false, Bool.or_true, Bool.false_or, Bool.true_or, List.all_cons, List.all_nil, id_eq]
    have e1 : okL ss w g (lks w cs)[i] = false := by
      cases e : okL ss w g (lks w cs)[i] with
      | true => exact absurd ⟨_, hk, e⟩ np
      | false => rfl
    rw [find_first hk (by simp [e1]) fun j hj b hb => by
      obtain ⟨k', hk', e⟩ := bf j hj
      rw [hb] at hk'
      cases hk'
      simp [e]]
    rfl
end CY
namespace CY
open PySem L2 DL
/-- the far end for g -/
def wallOf (w : Int × Int) (g : Int) : Int := if g = 1 then w.2 else w.1
/-- w may step by g -/
def canB (ws : List (Int × Int)) (cs : List Cp) (ss : List Int) (w : Nat) (g : Int) : Bool := (!decide (ss.getD w 0 = wallOf (ws.getD w (0, 0)) g)) && (lks w cs).all (okL ss w g)
theorem getW {ws : List (Int × Int)} {w : Nat} (h : w < ws.length) : ws[w]? = some (ws.getD w (0, 0)) := by
  rw [List.getElem?_eq_getElem h, List.getD_eq_getElem?_getD, List.getElem?_eq_getElem h]
  rfl
theorem idx_w {ws : List (Int × Int)} {w : Nat} (h : w < ws.length) : idxL (ws.map wD) (w : Int) = pu (wD (ws.getD w (0, 0))) := by
  refine idx_nat ?_
  rw [List.getElem?_map, getW h]
  rfl
theorem e_is_at_wall {ws : List (Int × Int)} {cs : List Cp} {ss : List Int} {w : Nat} {g : Int} (S : ss.length = ws.length) (hw : w < ws.length) : F_is_at_wall [yD ws cs, sD ss, .int w, .int g] = pu (.bl (decide (ss.getD w 0 = wallOf (ws.getD w (0, 0)) g))) := by
  unfold F_is_at_wall g_is_at_wall yD sD
  have hw' : w < ss.length := by rw [S]; exact hw
  simp (decide := true) (implicitDefEqProofs := false) only [bodyD, env0, sSeq, thenF, sIf, sRet, sRetN, sRetV, sSet, sSetN, sExpr, sNil, sAsg, sPar, resD, dV, dC, dOp, dUn, dNot, dAnd, dOr, dNotT, dAndT, dOrT, dB, dIf, dChain, dTup, dCons, dNil, dLst, dLstB, dCB, dCall, dCallK, dImm, dYes, a1, a2, bTup, bLst, bCons, bNil, bName, fSeq, seqOf, fRng1, fRng2, fEn, fZip, zip2, one1, ints1, ints2, asB, asI, negD, addD, subD, modD, ltD, gtD, geD, leD, isND, isnND, intOp, intOpC, lenD_lst, lenD_tup, lenD_frz, len_sD, tupleD, listD, absD, max2D, min2D, allD, isiD, tyN, isiT_tt, isiT_ii, isiT_ib, idxD, lsA, gw, gt, opt_some, opt_none, bd_pu, bd_fl, bd_bd, chk_true, chk_tt, D.imm, D.imms, D.isN, List.map_cons, List.map_nil, List.length_cons, List.length_nil, List.set_cons_zero, List.set_cons_succ, List.getElem?_cons_zero, List.getElem?_cons_succ, List.getElem?_nil, Option.bind_some, Option.bind_none, Option.join_some, Option.join_none, Option.map_some, Bool.and_true, Bool.true_and, Bool.and_false, Bool.false_and, Bool.not_true, Bool.not_false, Bool.false_eq_true, Bool.true_eq_false, if_true, if_false, ite_true, ite_false, List.cons_append, List.nil_append, List.append_nil, Nat.zero_add, Nat.reduceAdd, Nat.reduceSub, Nat.reduceLeDiff, Int.reduceNeg, List.replicate_succ, List.replicate_zero, true_and, and_true, List.length_map, and_pu, or_pu, tand_pu, tor_pu, idx_0, idx_1, if_tt, if_ff, dSl, dNo, dSo, slD, imm_cD, imm_wD, intsD, sAppIx, sExt, sApp, lsD, sFor, seq_sD, eq_str, ne_str, eq_int, ne_int, nc0, nc1, nc2, nc3, nc4, decide_true, decide_false, ne_eq, not_true_eq_false, Int.reduceEq, not_false_eq_true, Bool.or_false, Bool.or_true, Bool.false_or, Bool.true_or, List.all_cons, List.all_nil, id_eq, idx_int hw', idx_w hw]
  unfold wallOf
  by_cases h : g = 1
  · rw [if_pos h, if_pos (decide_eq_true h)]
    simp (decide := true) (implicitDefEqProofs := false) only [bodyD, env0, sSeq, thenF, sIf, sRet, sRetN, sRetV, sSet, sSetN, sExpr, sNil, sAsg, sPar, resD, dV, dC, dOp, dUn, dNot, dAnd, dOr, dNotT, dAndT, dOrT, dB, dIf, dChain, dTup, dCons, dNil, dLst, dLstB, dCB, dCall, dCallK, dImm, dYes, a1, a2, bTup, bLst, bCons, bNil, bName, fSeq, seqOf, fRng1, fRng2, fEn, fZip, zip2, one1, ints1, ints2, asB, asI, negD, addD, subD, modD, ltD, gtD, geD, leD, isND, isnND, intOp, intOpC, lenD_lst, lenD_tup, lenD_frz, len_sD, tupleD, listD, absD, max2D, min2D, allD, isiD, tyN, isiT_tt, isiT_ii, isiT_ib, idxD, lsA, gw, gt, opt_some, opt_none, bd_pu, bd_fl, bd_bd, chk_true, chk_tt, D.imm, D.imms, D.isN, List.map_cons, List.map_nil, List.length_cons, List.length_nil, List.set_cons_zero, List.set_cons_succ, List.getElem?_cons_zero, List.getElem?_cons_succ, List.getElem?_nil, Option.bind_some, Option.bind_none, Option.join_some, Option.join_none, Option.map_some, Bool.and_true, Bool.true_and, Bool.and_false, Bool.false_and, Bool.not_true, Bool.not_false, Bool.false_eq_true, Bool.true_eq_false, if_true, if_false, ite_true, ite_false, List.cons_append, List.nil_append, List.append_nil, Nat.zero_add, Nat.reduceAdd, Nat.reduceSub, Nat.reduceLeDiff, Int.reduceNeg, List.replicate_succ, List.replicate_zero, true_and, and_true, List.length_map, and_pu, or_pu, tand_pu, tor_pu, idx_0, idx_1, if_tt, if_ff, dSl, dNo, dSo, slD, imm_cD, imm_wD, intsD, sAppIx, sExt, sApp, lsD, sFor, seq_sD, eq_str, ne_str, eq_int, ne_int, nc0, nc1, nc2, nc3, nc4, decide_true, decide_false, ne_eq, not_true_eq_false, Int.reduceEq, not_false_eq_true, Bool.or_false, Bool.or_true, Bool.false_or, Bool.true_or, List.all_cons, List.all_nil, id_eq, wD]
  · rw [if_neg h, if_neg (by simpa using h)]
    simp (decide := true) (implicitDefEqProofs := false) only [bodyD, env0, sSeq, thenF, sIf, sRet, sRetN, sRetV, sSet, sSetN, sExpr, sNil, sAsg, sPar, resD, dV, dC, dOp, dUn, dNot, dAnd, dOr, dNotT, dAndT, dOrT, dB, dIf, dChain, dTup, dCons, dNil, dLst, dLstB, dCB, dCall, dCallK, dImm, dYes, a1, a2, bTup, bLst, bCons, bNil, bName, fSeq, seqOf, fRng1, fRng2, fEn, fZip, zip2, one1, ints1, ints2, asB, asI, negD, addD, subD, modD, ltD, gtD, geD, leD, isND, isnND, intOp, intOpC, lenD_lst, lenD_tup, lenD_frz, len_sD, tupleD, listD, absD, max2D, min2D, allD, isiD, tyN, isiT_tt, isiT_ii, isiT_ib, idxD, lsA, gw, gt, opt_some, opt_none, bd_pu, bd_fl, bd_bd, chk_true, chk_tt, D.imm, D.imms, D.isN, List.map_cons, List.map_nil, List.length_cons, List.length_nil, List.set_cons_zero, List.set_cons_succ, List.getElem?_cons_zero, List.getElem?_cons_succ, List.getElem?_nil, Option.bind_some, Option.bind_none, Option.join_some, Option.join_none, Option.map_some, Bool.and_true, Bool.true_and, Bool.and_false, Bool.false_and, Bool.not_true, Bool.not_false, Bool.false_eq_true, Bool.true_eq_false, if_true, if_false, ite_true, ite_false, List.cons_append, List.nil_append, List.append_nil, Nat.zero_add, Nat.reduceAdd, Nat.reduceSub, Nat.reduceLeDiff, Int.reduceNeg, List.replicate_succ, List.replicate_zero, true_and, and_true, List.length_map, and_pu, or_pu, tand_pu, tor_pu, idx_0, idx_1, if_tt, if_ff, dSl, dNo, dSo, slD, imm_cD, imm_wD, intsD, sAppIx, sExt, sApp, lsD, sFor, seq_sD, eq_str, ne_str, eq_int, ne_int, nc0, nc1, nc2, nc3, nc4, decide_true, decide_false, ne_eq, not_true_eq_false, Int.reduceEq, not_false_eq_true, Bool.or_false, Bool.or_true, Bool.false_or, Bool.true_or, List.all_cons, List.all_nil, id_eq, wD]
theorem hold_isN (o : Option Lk) : (holdD o).isN = o.isNone := by cases o <;> rfl
theorem find_all {α : Type} (p : α → Bool) : ∀ l : List α, (l.find? fun k => !p k).isNone = l.all p
  | [] => rfl
  | a :: l => by
    rw [List.all_cons, ← find_all p l]
    cases e : p a with
    | true => rw [List.find?_cons_of_neg (by simp [e])]; simp
    | false => rw [List.find?_cons_of_pos (by simp [e])]; simp
theorem e_can_step {ws : List (Int × Int)} {cs : List Cp} {ss : List Int} {w : Nat} {g : Int} (V : VY ws cs) (S : ss.length = ws.length) (hw : w < ws.length) : F_can_step [yD ws cs, .lst (lkV ws.length cs), sD ss, .int w, .int g] = pu (.bl (canB ws cs ss w g)) := by
  unfold F_can_step g_can_step
  simp (decide := true) (implicitDefEqProofs := false) only [bodyD, env0, sSeq, thenF, sIf, sRet, sRetN, sRetV, sSet, sSetN, sExpr, sNil, sAsg, sPar, resD, dV, dC, dOp, dUn, dNot, dAnd, dOr, dNotT, dAndT, dOrT, dB, dIf, dChain, dTup, dCons, dNil, dLst, dLstB, dCB, dCall, dCallK, dImm, dYes, a1, a2, bTup, bLst, bCons, bNil, bName, fSeq, seqOf, fRng1, fRng2, fEn, fZip, zip2, one1, ints1, ints2, asB, asI, negD, addD, subD, modD, ltD, gtD, geD, leD, isND, isnND, intOp, intOpC, lenD_lst, lenD_tup, lenD_frz, len_sD, tupleD, listD, absD, max2D, min2D, allD, isiD, tyN, isiT_tt, isiT_ii, isiT_ib, idxD, lsA, gw, gt, opt_some, opt_none, bd_pu, bd_fl, bd_bd, chk_true, chk_tt, D.imm, D.imms, D.isN, List.map_cons, List.map_nil, List.length_cons, List.length_nil, List.set_cons_zero, List.set_cons_succ, List.getElem?_cons_zero, List.getElem?_cons_succ, List.getElem?_nil, Option.bind_some, Option.bind_none, Option.join_some, Option.join_none, Option.map_some, Bool.and_true, Bool.true_and, Bool.and_false, Bool.false_and, Bool.not_true, Bool.not_false, Bool.false_eq_true, Bool.true_eq_false, if_true, if_false, ite_true, ite_false, List.cons_append, List.nil_append, List.append_nil, Nat.zero_add, Nat.reduceAdd, Nat.reduceSub, Nat.reduceLeDiff, Int.reduceNeg, List.replicate_succ, List.replicate_zero, true_and, and_true, List.length_map, and_pu, or_pu, tand_pu, tor_pu, idx_0, idx_1, if_tt, if_ff, dSl, dNo, dSo, slD, imm_cD, imm_wD, intsD, sAppIx, sExt, sApp, lsD, sFor, seq_sD, eq_str, ne_str, eq_int, ne_int, nc0, nc1, nc2, nc3, nc4, decide_true, decide_false, ne_eq, not_true_eq_false, Int.reduceEq, not_false_eq_true, Bool.or_false, Bool.or_true, Bool.false_or, Bool.true_or, List.all_cons, List.all_nil, id_eq, e_is_at_wall S hw, e_holder_of V S hw]
  unfold canB
  cases e : (lks w cs).find? fun k => !okL ss w g k with
  | none =>
    have e2 := find_all (okL ss w g) (lks w cs)
    rw [e] at e2
    simp (decide := true) (implicitDefEqProofs := false) only [bodyD, env0, sSeq, thenF, sIf, sRet, sRetN, sRetV, sSet, sSetN, sExpr, sNil, sAsg, sPar, resD, dV, dC, dOp, dUn, dNot, dAnd, dOr, dNotT, dAndT, dOrT, dB, dIf, dChain, dTup, dCons, dNil, dLst, dLstB, dCB, dCall, dCallK, dImm, dYes, a1, a2, bTup, bLst, bCons, bNil, bName, fSeq, seqOf, fRng1, fRng2, fEn, fZip, zip2, one1, ints1, ints2, asB, asI, negD, addD, subD, modD, ltD, gtD, geD, leD, isND, isnND, intOp, intOpC, lenD_lst, lenD_tup, lenD_frz, len_sD, tupleD, listD, absD, max2D, min2D, allD, isiD, tyN, isiT_tt, isiT_ii, isiT_ib, idxD, lsA, gw, gt, opt_some, opt_none, bd_pu, bd_fl, bd_bd, chk_true, chk_tt, D.imm, D.imms, D.isN, List.map_cons, List.map_nil, List.length_cons, List.length_nil, List.set_cons_zero, List.set_cons_succ, List.getElem?_cons_zero, List.getElem?_cons_succ, List.getElem?_nil, Option.bind_some, Option.bind_none, Option.join_some, Option.join_none, Option.map_some, Bool.and_true, Bool.true_and, Bool.and_false, Bool.false_and, Bool.not_true, Bool.not_false, Bool.false_eq_true, Bool.true_eq_false, if_true, if_false, ite_true, ite_false, List.cons_append, List.nil_append, List.append_nil, Nat.zero_add, Nat.reduceAdd, Nat.reduceSub, Nat.reduceLeDiff, Int.reduceNeg, List.replicate_succ, List.replicate_zero, true_and, and_true, List.length_map, and_pu, or_pu, tand_pu, tor_pu, idx_0, idx_1, if_tt, if_ff, dSl, dNo, dSo, slD, imm_cD, imm_wD, intsD, sAppIx, sExt, sApp, lsD, sFor, seq_sD, eq_str, ne_str, eq_int, ne_int, nc0, nc1, nc2, nc3, nc4, decide_true, decide_false, ne_eq, not_true_eq_false, Int.reduceEq, not_false_eq_true, Bool.or_false, Bool.or_true, Bool.false_or, Bool.true_or, List.all_cons, List.all_nil, id_eq, holdD, ← e2, Option.isNone_none]
  | some k =>
    have e2 := find_all (okL ss w g) (lks w cs)
    rw [e] at e2
    simp (decide := true) (implicitDefEqProofs := false) only [bodyD, env0, sSeq, thenF, sIf, sRet, sRetN, sRetV, sSet, sSetN, sExpr, sNil, sAsg, sPar, resD, dV, dC, dOp, dUn, dNot, dAnd, dOr, dNotT, dAndT, dOrT, dB, dIf, dChain, dTup, dCons, dNil, dLst, dLstB, dCB, dCall, dCallK, dImm, dYes, a1, a2, bTup, bLst, bCons, bNil, bName, fSeq, seqOf, fRng1, fRng2, fEn, fZip, zip2, one1, ints1, ints2, asB, asI, negD, addD, subD, modD, ltD, gtD, geD, leD, isND, isnND, intOp, intOpC, lenD_lst, lenD_tup, lenD_frz, len_sD, tupleD, listD, absD, max2D, min2D, allD, isiD, tyN, isiT_tt, isiT_ii, isiT_ib, idxD, lsA, gw, gt, opt_some, opt_none, bd_pu, bd_fl, bd_bd, chk_true, chk_tt, D.imm, D.imms, D.isN, List.map_cons, List.map_nil, List.length_cons, List.length_nil, List.set_cons_zero, List.set_cons_succ, List.getElem?_cons_zero, List.getElem?_cons_succ, List.getElem?_nil, Option.bind_some, Option.bind_none, Option.join_some, Option.join_none, Option.map_some, Bool.and_true, Bool.true_and, Bool.and_false, Bool.false_and, Bool.not_true, Bool.not_false, Bool.false_eq_true, Bool.true_eq_false, if_true, if_false, ite_true, ite_false, List.cons_append, List.nil_append, List.append_nil, Nat.zero_add, Nat.reduceAdd, Nat.reduceSub, Nat.reduceLeDiff, Int.reduceNeg, List.replicate_succ, List.replicate_zero, true_and, and_true, List.length_map, and_pu, or_pu, tand_pu, tor_pu, idx_0, idx_1, if_tt, if_ff, dSl, dNo, dSo, slD, imm_cD, imm_wD, intsD, sAppIx, sExt, sApp, lsD, sFor, seq_sD, eq_str, ne_str, eq_int, ne_int, nc0, nc1, nc2, nc3, nc4, decide_true, decide_false, ne_eq, not_true_eq_false, Int.reduceEq, not_false_eq_true, Bool.or_false, Bool.or_true, Bool.false_or, Bool.true_or, List.all_cons, List.all_nil, id_eq, holdD, ← e2, Option.isNone_some]
def pD (p : Nat × Int) : D := .tup [.int p.1, .int p.2]
theorem imms_pD : ∀ (l : List (Nat × Int)), D.imms (l.map pD) = true
  | [] => rfl
  | a :: l => by simp only [List.map_cons, D.imms, imms_pD l]; rfl
/-- the steps of w that f allows -/
def stW (f : Nat → Int → Bool) (w : Nat) : List (Nat × Int) := ([-1, 1].filter (f w)).map fun g => (w, g)
def stA (f : Nat → Int → Bool) (n : Nat) : List (Nat × Int) := ((List.range n).map (stW f)).flatten
theorem stA_succ (f : Nat → Int → Bool) (n : Nat) : stA f (n + 1) = stA f n ++ stW f n := by
  unfold stA
  rw [List.range_succ, List.map_append, List.flatten_append]
  simp
theorem stW_len (f : Nat → Int → Bool) (w : Nat) : (stW f w).length ≤ 2 := by
  unfold stW
  rw [List.length_map]
  exact List.length_filter_le _ _
theorem stA_len (f : Nat → Int → Bool) : ∀ n, (stA f n).length ≤ 2 * n
  | 0 => Nat.le_refl _
  | n + 1 => by
    rw [stA_succ, List.length_append]
    have := stA_len f n
    have := stW_len f n
    omega
theorem rngD_at {n i : Nat} {d : D} (h : (rngD 0 n)[i]? = some d) : i < n ∧ d = .int i := by
  unfold rngD at h
  rw [List.getElem?_map] at h
  by_cases hi : i < n
  · rw [List.getElem?_range hi] at h
    have := Option.some.inj h
    rw [← this]
    exact ⟨hi, by simp⟩
  · rw [List.getElem?_eq_none (by simpa using hi)] at h
    cases h
theorem rngD_len {n : Nat} : (rngD 0 n).length = n := by simp [rngD]
def onI (p : Int → Bool) : D → Bool
  | .int g => p g
  | _ => false
theorem onI_int (p : Int → Bool) (g : Int) : onI p (.int g) = p g := rfl
theorem stW_D (f : Nat → Int → Bool) (w : Nat) : (([D.int (-1), D.int 1].filter (onI (f w))).map fun d => D.tup [.int (w : Nat), d]) = (stW f w).map pD := by
  unfold stW
  cases h1 : f w (-1) <;> cases h2 : f w 1 <;> simp [h1, h2, pD, onI]
theorem e_possible_steps {ws : List (Int × Int)} {cs : List Cp} {ss : List Int} (V : VY ws cs) (S : VS ws cs ss) : F_possible_steps [yD ws cs, sD ss] = pu (.tup ((stA (canB ws cs ss) ws.length).map pD)) := by
  unfold F_possible_steps g_possible_steps
  have hn : -(2 ^ 62) ≤ ((ws.length : Nat) : Int) ∧ ((ws.length : Nat) : Int) < 2 ^ 62 := by have := V.n40; omega
  simp (decide := true) (implicitDefEqProofs := false) only [bodyD, env0, sSeq, thenF, sIf, sRet, sRetN, sRetV, sSet, sSetN, sExpr, sNil, sAsg, sPar, resD, dV, dC, dOp, dUn, dNot, dAnd, dOr, dNotT, dAndT, dOrT, dB, dIf, dChain, dTup, dCons, dNil, dLst, dLstB, dCB, dCall, dCallK, dImm, dYes, a1, a2, bTup, bLst, bCons, bNil, bName, fSeq, seqOf, fRng1, fRng2, fEn, fZip, zip2, one1, ints1, ints2, asB, asI, negD, addD, subD, modD, ltD, gtD, geD, leD, isND, isnND, intOp, intOpC, lenD_lst, lenD_tup, lenD_frz, len_sD, tupleD, listD, absD, max2D, min2D, allD, isiD, tyN, isiT_tt, isiT_ii, isiT_ib, idxD, lsA, gw, gt, opt_some, opt_none, bd_pu, bd_fl, bd_bd, chk_true, chk_tt, D.imm, D.imms, D.isN, List.map_cons, List.map_nil, List.length_cons, List.length_nil, List.set_cons_zero, List.set_cons_succ, List.getElem?_cons_zero, List.getElem?_cons_succ, List.getElem?_nil, Option.bind_some, Option.bind_none, Option.join_some, Option.join_none, Option.map_some, Bool.and_true, Bool.true_and, Bool.and_false, Bool.false_and, Bool.not_true, Bool.not_false, Bool.false_eq_true, Bool.true_eq_false, if_true, if_false, ite_true, ite_false, List.cons_append, List.nil_append, List.append_nil, Nat.zero_add, Nat.reduceAdd, Nat.reduceSub, Nat.reduceLeDiff, Int.reduceNeg, List.replicate_succ, List.replicate_zero, true_and, and_true, List.length_map, and_pu, or_pu, tand_pu, tor_pu, idx_0, idx_1, if_tt, if_ff, dSl, dNo, dSo, slD, imm_cD, imm_wD, intsD, sAppIx, sExt, sApp, lsD, sFor, seq_sD, eq_str, ne_str, eq_int, ne_int, nc0, nc1, nc2, nc3, nc4, decide_true, decide_false, ne_eq, not_true_eq_false, Int.reduceEq, not_false_eq_true, Bool.or_false, Bool.or_true, Bool.false_or, Bool.true_or, List.all_cons, List.all_nil, id_eq, e_validate_arrangement V S, e_own_links V]
  simp (decide := true) (implicitDefEqProofs := false) only [bodyD, env0, sSeq, thenF, sIf, sRet, sRetN, sRetV, sSet, sSetN, sExpr, sNil, sAsg, sPar, resD, dV, dC, dOp, dUn, dNot, dAnd, dOr, dNotT, dAndT, dOrT, dB, dIf, dChain, dTup, dCons, dNil, dLst, dLstB, dCB, dCall, dCallK, dImm, dYes, a1, a2, bTup, bLst, bCons, bNil, bName, fSeq, seqOf, fRng1, fRng2, fEn, fZip, zip2, one1, ints1, ints2, asB, asI, negD, addD, subD, modD, ltD, gtD, geD, leD, isND, isnND, intOp, intOpC, lenD_lst, lenD_tup, lenD_frz, len_sD, tupleD, listD, absD, max2D, min2D, allD, isiD, tyN, isiT_tt, isiT_ii, isiT_ib, idxD, lsA, gw, gt, opt_some, opt_none, bd_pu, bd_fl, bd_bd, chk_true, chk_tt, D.imm, D.imms, D.isN, List.map_cons, List.map_nil, List.length_cons, List.length_nil, List.set_cons_zero, List.set_cons_succ, List.getElem?_cons_zero, List.getElem?_cons_succ, List.getElem?_nil, Option.bind_some, Option.bind_none, Option.join_some, Option.join_none, Option.map_some, Bool.and_true, Bool.true_and, Bool.and_false, Bool.false_and, Bool.not_true, Bool.not_false, Bool.false_eq_true, Bool.true_eq_false, if_true, if_false, ite_true, ite_false, List.cons_append, List.nil_append, List.append_nil, Nat.zero_add, Nat.reduceAdd, Nat.reduceSub, Nat.reduceLeDiff, Int.reduceNeg, List.replicate_succ, List.replicate_zero, true_and, and_true, List.length_map, and_pu, or_pu, tand_pu, tor_pu, idx_0, idx_1, if_tt, if_ff, dSl, dNo, dSo, slD, imm_cD, imm_wD, intsD, sAppIx, sExt, sApp, lsD, sFor, seq_sD, eq_str, ne_str, eq_int, ne_int, nc0, nc1, nc2, nc3, nc4, decide_true, decide_false, ne_eq, not_true_eq_false, Int.reduceEq, not_false_eq_true, Bool.or_false, Bool.or_true, Bool.false_or, Bool.true_or, List.all_cons, List.all_nil, id_eq, chk_pos hn, Int.toNat_natCast, S.len]
  refine bd_for (fun i δ => ∃ x y : Option D, δ = [some (yD ws cs), some (sD ss), some (.lst (lkV ws.length cs)), some (.lst ((stA (canB ws cs ss) i).map pD)), x, y]) ⟨none, none, rfl⟩ ?_ ?_
  · rintro i d δ hd ⟨x, y, rfl⟩
    obtain ⟨hi, rfl⟩ := rngD_at hd
    simp (decide := true) (implicitDefEqProofs := false) only [bodyD, env0, sSeq, thenF, sIf, sRet, sRetN, sRetV, sSet, sSetN, sExpr, sNil, sAsg, sPar, resD, dV, dC, dOp, dUn, dNot, dAnd, dOr, dNotT, dAndT, dOrT, dB, dIf, dChain, dTup, dCons, dNil, dLst, dLstB, dCB, dCall, dCallK, dImm, dYes, a1, a2, bTup, bLst, bCons, bNil, bName, fSeq, seqOf, fRng1, fRng2, fEn, fZip, zip2, one1, ints1, ints2, asB, asI, negD, addD, subD, modD, ltD, gtD, geD, leD, isND, isnND, intOp, intOpC, lenD_lst, lenD_tup, lenD_frz, len_sD, tupleD, listD, absD, max2D, min2D, allD, isiD, tyN, isiT_tt, isiT_ii, isiT_ib, idxD, lsA, gw, gt, opt_some, opt_none, bd_pu, bd_fl, bd_bd, chk_true, chk_tt, D.imm, D.imms, D.isN, List.map_cons, List.map_nil, List.length_cons, List.length_nil, List.set_cons_zero, List.set_cons_succ, List.getElem?_cons_zero, List.getElem?_cons_succ, List.getElem?_nil, Option.bind_some, Option.bind_none, Option.join_some, Option.join_none, Option.map_some, Bool.and_true, Bool.true_and, Bool.and_false, Bool.false_and, Bool.not_true, Bool.not_false, Bool.false_eq_true, Bool.true_eq_false, if_true, if_false, ite_true, ite_false, List.cons_append, List.nil_append, List.append_nil, Nat.zero_add, Nat.reduceAdd, Nat.reduceSub, Nat.reduceLeDiff, Int.reduceNeg, List.replicate_succ, List.replicate_zero, true_and, and_true, List.length_map, and_pu, or_pu, tand_pu, tor_pu, idx_0, idx_1, if_tt, if_ff, dSl, dNo, dSo, slD, imm_cD, imm_wD, intsD, sAppIx, sExt, sApp, lsD, sFor, seq_sD, eq_str, ne_str, eq_int, ne_int, nc0, nc1, nc2, nc3, nc4, decide_true, decide_false, ne_eq, not_true_eq_false, Int.reduceEq, not_false_eq_true, Bool.or_false, Bool.or_true, Bool.false_or, Bool.true_or, List.all_cons, List.all_nil, id_eq, dLc, wipeE]
    rw [lc_pick (onI (canB ws cs ss i)) (fun d => .tup [.int i, d]) [D.int (-1), D.int 1] [] (by exact small (show 0 + 2 ≤ 1000 by decide)) (fun d q => by
      obtain ⟨g, rfl⟩ : ∃ g, d = .int g := by
        simp only [List.mem_cons, List.not_mem_nil, or_false] at q
        rcases q with rfl | rfl
        · exact ⟨_, rfl⟩
        · exact ⟨_, rfl⟩
      refine ⟨_, by simp (decide := true) (implicitDefEqProofs := false) only [bodyD, env0, sSeq, thenF, sIf, sRet, sRetN, sRetV, sSet, sSetN, sExpr, sNil, sAsg, sPar, resD, dV, dC, dOp, dUn, dNot, dAnd, dOr, dNotT, dAndT, dOrT, dB, dIf, dChain, dTup, dCons, dNil, dLst, dLstB, dCB, dCall, dCallK, dImm, dYes, a1, a2, bTup, bLst, bCons, bNil, bName, fSeq, seqOf, fRng1, fRng2, fEn, fZip, zip2, one1, ints1, ints2, asB, asI, negD, addD, subD, modD, ltD, gtD, geD, leD, isND, isnND, intOp, intOpC, lenD_lst, lenD_tup, lenD_frz, len_sD, tupleD, listD, absD, max2D, min2D, allD, isiD, tyN, isiT_tt, isiT_ii, isiT_ib, idxD, lsA, gw, gt, opt_some, opt_none, bd_pu, bd_fl, bd_bd, chk_true, chk_tt, D.imm, D.imms, D.isN, List.map_cons, List.map_nil, List.length_cons, List.length_nil, List.set_cons_zero, List.set_cons_succ, List.getElem?_cons_zero, List.getElem?_cons_succ, List.getElem?_nil, Option.bind_some, Option.bind_none, Option.join_some, Option.join_none, Option.map_some, Bool.and_true, Bool.true_and, Bool.and_false, Bool.false_and, Bool.not_true, Bool.not_false, Bool.false_eq_true, Bool.true_eq_false, if_true, if_false, ite_true, ite_false, List.cons_append, List.nil_append, List.append_nil, Nat.zero_add, Nat.reduceAdd, Nat.reduceSub, Nat.reduceLeDiff, Int.reduceNeg, List.replicate_succ, List.replicate_zero, true_and, and_true, List.length_map, and_pu, or_pu, tand_pu, tor_pu, idx_0, idx_1, if_tt, if_ff, dSl, dNo, dSo, slD, imm_cD, imm_wD, intsD, sAppIx, sExt, sApp, lsD, sFor, seq_sD, eq_str, ne_str, eq_int, ne_int, nc0, nc1, nc2, nc3, nc4, decide_true, decide_false, ne_eq, not_true_eq_false, Int.reduceEq, not_false_eq_true, Bool.or_false, Bool.or_true, Bool.false_or, Bool.true_or, List.all_cons, List.all_nil, id_eq]; rfl, ?_, fun _ => ⟨?_, rfl⟩⟩
      · simp (decide := true) (implicitDefEqProofs := false) only [bodyD, env0, sSeq, thenF, sIf, sRet, sRetN, sRetV, sSet, sSetN, sExpr, sNil, sAsg, sPar, resD, dV, dC, dOp, dUn, dNot, dAnd, dOr, dNotT, dAndT, dOrT, dB, dIf, dChain, dTup, dCons, dNil, dLst, dLstB, dCB, dCall, dCallK, dImm, dYes, a1, a2, bTup, bLst, bCons, bNil, bName, fSeq, seqOf, fRng1, fRng2, fEn, fZip, zip2, one1, ints1, ints2, asB, asI, negD, addD, subD, modD, ltD, gtD, geD, leD, isND, isnND, intOp, intOpC, lenD_lst, lenD_tup, lenD_frz, len_sD, tupleD, listD, absD, max2D, min2D, allD, isiD, tyN, isiT_tt, isiT_ii, isiT_ib, idxD, lsA, gw, gt, opt_some, opt_none, bd_pu, bd_fl, bd_bd, chk_true, chk_tt, D.imm, D.imms, D.isN, List.map_cons, List.map_nil, List.length_cons, List.length_nil, List.set_cons_zero, List.set_cons_succ, List.getElem?_cons_zero, List.getElem?_cons_succ, List.getElem?_nil, Option.bind_some, Option.bind_none, Option.join_some, Option.join_none, Option.map_some, Bool.and_true, Bool.true_and, Bool.and_false, Bool.false_and, Bool.not_true, Bool.not_false, Bool.false_eq_true, Bool.true_eq_false, if_true, if_false, ite_true, ite_false, List.cons_append, List.nil_append, List.append_nil, Nat.zero_add, Nat.reduceAdd, Nat.reduceSub, Nat.reduceLeDiff, Int.reduceNeg, List.replicate_succ, List.replicate_zero, true_and, and_true, List.length_map, and_pu, or_pu, tand_pu, tor_pu, idx_0, idx_1, if_tt, if_ff, dSl, dNo, dSo, slD, imm_cD, imm_wD, intsD, sAppIx, sExt, sApp, lsD, sFor, seq_sD, eq_str, ne_str, eq_int, ne_int, nc0, nc1, nc2, nc3, nc4, decide_true, decide_false, ne_eq, not_true_eq_false, Int.reduceEq, not_false_eq_true, Bool.or_false, Bool.or_true, Bool.false_or, Bool.true_or, List.all_cons, List.all_nil, id_eq, e_can_step V S.len hi, onI_int]
      · simp (decide := true) (implicitDefEqProofs := false) only [bodyD, env0, sSeq, thenF, sIf, sRet, sRetN, sRetV, sSet, sSetN, sExpr, sNil, sAsg, sPar, resD, dV, dC, dOp, dUn, dNot, dAnd, dOr, dNotT, dAndT, dOrT, dB, dIf, dChain, dTup, dCons, dNil, dLst, dLstB, dCB, dCall, dCallK, dImm, dYes, a1, a2, bTup, bLst, bCons, bNil, bName, fSeq, seqOf, fRng1, fRng2, fEn, fZip, zip2, one1, ints1, ints2, asB, asI, negD, addD, subD, modD, ltD, gtD, geD, leD, isND, isnND, intOp, intOpC, lenD_lst, lenD_tup, lenD_frz, len_sD, tupleD, listD, absD, max2D, min2D, allD, isiD, tyN, isiT_tt, isiT_ii, isiT_ib, idxD, lsA, gw, gt, opt_some, opt_none, bd_pu, bd_fl, bd_bd, chk_true, chk_tt, D.imm, D.imms, D.isN, List.map_cons, List.map_nil, List.length_cons, List.length_nil, List.set_cons_zero, List.set_cons_succ, List.getElem?_cons_zero, List.getElem?_cons_succ, List.getElem?_nil, Option.bind_some, Option.bind_none, Option.join_some, Option.join_none, Option.map_some, Bool.and_true, Bool.true_and, Bool.and_false, Bool.false_and, Bool.not_true, Bool.not_false, Bool.false_eq_true, Bool.true_eq_false, if_true, if_false, ite_true, ite_false, List.cons_append, List.nil_append, List.append_nil, Nat.zero_add, Nat.reduceAdd, Nat.reduceSub, Nat.reduceLeDiff, Int.reduceNeg, List.replicate_succ, List.replicate_zero, true_and, and_true, List.length_map, and_pu, or_pu, tand_pu, tor_pu, idx_0, idx_1, if_tt, if_ff, dSl, dNo, dSo, slD, imm_cD, imm_wD, intsD, sAppIx, sExt, sApp, lsD, sFor, seq_sD, eq_str, ne_str, eq_int, ne_int, nc0, nc1, nc2, nc3, nc4, decide_true, decide_false, ne_eq, not_true_eq_false, Int.reduceEq, not_false_eq_true, Bool.or_false, Bool.or_true, Bool.false_or, Bool.true_or, List.all_cons, List.all_nil, id_eq])]
    rw [stW_D (canB ws cs ss) i]
    have hl : (stA (canB ws cs ss) i).length + (stW (canB ws cs ss) i).length ≤ sizeLine := by
      have h1 := stA_len (canB ws cs ss) i
      have h2 := stW_len (canB ws cs ss) i
      have h3 := V.n40
      exact Nat.le_trans (show _ ≤ 1000 by omega) (by decide)
    simp (decide := true) (implicitDefEqProofs := false) only [bodyD, env0, sSeq, thenF, sIf, sRet, sRetN, sRetV, sSet, sSetN, sExpr, sNil, sAsg, sPar, resD, dV, dC, dOp, dUn, dNot, dAnd, dOr, dNotT, dAndT, dOrT, dB, dIf, dChain, dTup, dCons, dNil, dLst, dLstB, dCB, dCall, dCallK, dImm, dYes, a1, a2, bTup, bLst, bCons, bNil, bName, fSeq, seqOf, fRng1, fRng2, fEn, fZip, zip2, one1, ints1, ints2, asB, asI, negD, addD, subD, modD, ltD, gtD, geD, leD, isND, isnND, intOp, intOpC, lenD_lst, lenD_tup, lenD_frz, len_sD, tupleD, listD, absD, max2D, min2D, allD, isiD, tyN, isiT_tt, isiT_ii, isiT_ib, idxD, lsA, gw, gt, opt_some, opt_none, bd_pu, bd_fl, bd_bd, chk_true, chk_tt, D.imm, D.imms, D.isN, List.map_cons, List.map_nil, List.length_cons, List.length_nil, List.set_cons_zero, List.set_cons_succ, List.getElem?_cons_zero, List.getElem?_cons_succ, List.getElem?_nil, Option.bind_some, Option.bind_none, Option.join_some, Option.join_none, Option.map_some, Bool.and_true, Bool.true_and, Bool.and_false, Bool.false_and, Bool.not_true, Bool.not_false, Bool.false_eq_true, Bool.true_eq_false, if_true, if_false, ite_true, ite_false, List.cons_append, List.nil_append, List.append_nil, Nat.zero_add, Nat.reduceAdd, Nat.reduceSub, Nat.reduceLeDiff, Int.reduceNeg, List.replicate_succ, List.replicate_zero, true_and, and_true, List.length_map, and_pu, or_pu, tand_pu, tor_pu, idx_0, idx_1, if_tt, if_ff, dSl, dNo, dSo, slD, imm_cD, imm_wD, intsD, sAppIx, sExt, sApp, lsD, sFor, seq_sD, eq_str, ne_str, eq_int, ne_int, nc0, nc1, nc2, nc3, nc4, decide_true, decide_false, ne_eq, not_true_eq_false, Int.reduceEq, not_false_eq_true, Bool.or_false, Bool.or_true, Bool.false_or, Bool.true_or, List.all_cons, List.all_nil, id_eq, imms_pD, hl]
    rw [← List.map_append, ← stA_succ]
    exact ⟨_, rfl, _, _, rfl⟩
  · rintro δ' ⟨x, y, rfl⟩
    rw [rngD_len]
    simp (decide := true) (implicitDefEqProofs := false) only [bodyD, env0, sSeq, thenF, sIf, sRet, sRetN, sRetV, sSet, sSetN, sExpr, sNil, sAsg, sPar, resD, dV, dC, dOp, dUn, dNot, dAnd, dOr, dNotT, dAndT, dOrT, dB, dIf, dChain, dTup, dCons, dNil, dLst, dLstB, dCB, dCall, dCallK, dImm, dYes, a1, a2, bTup, bLst, bCons, bNil, bName, fSeq, seqOf, fRng1, fRng2, fEn, fZip, zip2, one1, ints1, ints2, asB, asI, negD, addD, subD, modD, ltD, gtD, geD, leD, isND, isnND, intOp, intOpC, lenD_lst, lenD_tup, lenD_frz, len_sD, tupleD, listD, absD, max2D, min2D, allD, isiD, tyN, isiT_tt, isiT_ii, isiT_ib, idxD, lsA, gw, gt, opt_some, opt_none, bd_pu, bd_fl, bd_bd, chk_true, chk_tt, D.imm, D.imms, D.isN, List.map_cons, List.map_nil, List.length_cons, List.length_nil, List.set_cons_zero, List.set_cons_succ, List.getElem?_cons_zero, List.getElem?_cons_succ, List.getElem?_nil, Option.bind_some, Option.bind_none, Option.join_some, Option.join_none, Option.map_some, Bool.and_true, Bool.true_and, Bool.and_false, Bool.false_and, Bool.not_true, Bool.not_false, Bool.false_eq_true, Bool.true_eq_false, if_true, if_false, ite_true, ite_false, List.cons_append, List.nil_append, List.append_nil, Nat.zero_add, Nat.reduceAdd, Nat.reduceSub, Nat.reduceLeDiff, Int.reduceNeg, List.replicate_succ, List.replicate_zero, true_and, and_true, List.length_map, and_pu, or_pu, tand_pu, tor_pu, idx_0, idx_1, if_tt, if_ff, dSl, dNo, dSo, slD, imm_cD, imm_wD, intsD, sAppIx, sExt, sApp, lsD, sFor, seq_sD, eq_str, ne_str, eq_int, ne_int, nc0, nc1, nc2, nc3, nc4, decide_true, decide_false, ne_eq, not_true_eq_false, Int.reduceEq, not_false_eq_true, Bool.or_false, Bool.or_true, Bool.false_or, Bool.true_or, List.all_cons, List.all_nil, id_eq, imms_pD]
end CY
namespace CY
open PySem L2 DL
theorem e_is_step {ws : List (Int × Int)} {cs : List Cp} {w : Nat} {g : Int} (hw : w < ws.length) (hg : g = -1 ∨ g = 1) : F_is_step [yD ws cs, .tup [.int w, .int g]] = pu (.bl true) := by
  unfold F_is_step g_is_step yD
  have b1 : (decide ((0 : Int) ≤ (w : Nat)) && decide (((w : Nat) : Int) ≤ (ws.length : Nat) - 1)) = true := dand (by omega) (by omega)
  have b2 : (decide ((-1 : Int) ≤ g) && decide (g ≤ 1)) = true := dand (by omega) (by omega)
  have b3 : decide (¬ g = 0) = true := decide_eq_true (by omega)
  simp (decide := true) (implicitDefEqProofs := false) only [bodyD, env0, sSeq, thenF, sIf, sRet, sRetN, sRetV, sSet, sSetN, sExpr, sNil, sAsg, sPar, resD, dV, dC, dOp, dUn, dNot, dAnd, dOr, dNotT, dAndT, dOrT, dB, dIf, dChain, dTup, dCons, dNil, dLst, dLstB, dCB, dCall, dCallK, dImm, dYes, a1, a2, bTup, bLst, bCons, bNil, bName, fSeq, seqOf, fRng1, fRng2, fEn, fZip, zip2, one1, ints1, ints2, asB, asI, negD, addD, subD, modD, ltD, gtD, geD, leD, isND, isnND, intOp, intOpC, lenD_lst, lenD_tup, lenD_frz, len_sD, tupleD, listD, absD, max2D, min2D, allD, isiD, tyN, isiT_tt, isiT_ii, isiT_ib, idxD, lsA, gw, gt, opt_some, opt_none, bd_pu, bd_fl, bd_bd, chk_true, chk_tt, D.imm, D.imms, D.isN, List.map_cons, List.map_nil, List.length_cons, List.length_nil, List.set_cons_zero, List.set_cons_succ, List.getElem?_cons_zero, List.getElem?_cons_succ, List.getElem?_nil, Option.bind_some, Option.bind_none, Option.join_some, Option.join_none, Option.map_some, Bool.and_true, Bool.true_and, Bool.and_false, Bool.false_and, Bool.not_true, Bool.not_false, Bool.false_eq_true, Bool.true_eq_false, if_true, if_false, ite_true, ite_false, List.cons_append, List.nil_append, List.append_nil, Nat.zero_add, Nat.reduceAdd, Nat.reduceSub, Nat.reduceLeDiff, Int.reduceNeg, List.replicate_succ, List.replicate_zero, true_and, and_true, List.length_map, and_pu, or_pu, tand_pu, tor_pu, idx_0, idx_1, if_tt, if_ff, dSl, dNo, dSo, slD, imm_cD, imm_wD, intsD, sAppIx, sExt, sApp, lsD, sFor, seq_sD, eq_str, ne_str, eq_int, ne_int, nc0, nc1, nc2, nc3, nc4, decide_true, decide_false, ne_eq, not_true_eq_false, Int.reduceEq, not_false_eq_true, Bool.or_false, Bool.or_true, Bool.false_or, Bool.true_or, List.all_cons, List.all_nil, id_eq, e_is_between, b1, b2, b3]
theorem e_validate_step {ws : List (Int × Int)} {cs : List Cp} {w : Nat} {g : Int} (hw : w < ws.length) (hg : g = -1 ∨ g = 1) : F_validate_step [yD ws cs, .tup [.int w, .int g]] = pu .non := by
  unfold F_validate_step g_validate_step
  simp (decide := true) (implicitDefEqProofs := false) only [bodyD, env0, sSeq, thenF, sIf, sRet, sRetN, sRetV, sSet, sSetN, sExpr, sNil, sAsg, sPar, resD, dV, dC, dOp, dUn, dNot, dAnd, dOr, dNotT, dAndT, dOrT, dB, dIf, dChain, dTup, dCons, dNil, dLst, dLstB, dCB, dCall, dCallK, dImm, dYes, a1, a2, bTup, bLst, bCons, bNil, bName, fSeq, seqOf, fRng1, fRng2, fEn, fZip, zip2, one1, ints1, ints2, asB, asI, negD, addD, subD, modD, ltD, gtD, geD, leD, isND, isnND, intOp, intOpC, lenD_lst, lenD_tup, lenD_frz, len_sD, tupleD, listD, absD, max2D, min2D, allD, isiD, tyN, isiT_tt, isiT_ii, isiT_ib, idxD, lsA, gw, gt, opt_some, opt_none, bd_pu, bd_fl, bd_bd, chk_true, chk_tt, D.imm, D.imms, D.isN, List.map_cons, List.map_nil, List.length_cons, List.length_nil, List.set_cons_zero, List.set_cons_succ, List.getElem?_cons_zero, List.getElem?_cons_succ, List.getElem?_nil, Option.bind_some, Option.bind_none, Option.join_some, Option.join_none, Option.map_some, Bool.and_true, Bool.true_and, Bool.and_false, Bool.false_and, Bool.not_true, Bool.not_false, Bool.false_eq_true, Bool.true_eq_false, if_true, if_false, ite_true, ite_false, List.cons_append, List.nil_append, List.append_nil, Nat.zero_add, Nat.reduceAdd, Nat.reduceSub, Nat.reduceLeDiff, Int.reduceNeg, List.replicate_succ, List.replicate_zero, true_and, and_true, List.length_map, and_pu, or_pu, tand_pu, tor_pu, idx_0, idx_1, if_tt, if_ff, dSl, dNo, dSo, slD, imm_cD, imm_wD, intsD, sAppIx, sExt, sApp, lsD, sFor, seq_sD, eq_str, ne_str, eq_int, ne_int, nc0, nc1, nc2, nc3, nc4, decide_true, decide_false, ne_eq, not_true_eq_false, Int.reduceEq, not_false_eq_true, Bool.or_false, Bool.or_true, Bool.false_or, Bool.true_or, List.all_cons, List.all_nil, id_eq, e_is_step hw hg]
theorem e_is_possible {ws : List (Int × Int)} {cs : List Cp} {ss : List Int} {w : Nat} {g : Int} (V : VY ws cs) (S : VS ws cs ss) (hw : w < ws.length) (hg : g = -1 ∨ g = 1) : F_is_possible [yD ws cs, sD ss, .tup [.int w, .int g]] = pu (.bl (canB ws cs ss w g)) := by
  unfold F_is_possible g_is_possible
  simp (decide := true) (implicitDefEqProofs := false) only [bodyD, env0, sSeq, thenF, sIf, sRet, sRetN, sRetV, sSet, sSetN, sExpr, sNil, sAsg, sPar, resD, dV, dC, dOp, dUn, dNot, dAnd, dOr, dNotT, dAndT, dOrT, dB, dIf, dChain, dTup, dCons, dNil, dLst, dLstB, dCB, dCall, dCallK, dImm, dYes, a1, a2, bTup, bLst, bCons, bNil, bName, fSeq, seqOf, fRng1, fRng2, fEn, fZip, zip2, one1, ints1, ints2, asB, asI, negD, addD, subD, modD, ltD, gtD, geD, leD, isND, isnND, intOp, intOpC, lenD_lst, lenD_tup, lenD_frz, len_sD, tupleD, listD, absD, max2D, min2D, allD, isiD, tyN, isiT_tt, isiT_ii, isiT_ib, idxD, lsA, gw, gt, opt_some, opt_none, bd_pu, bd_fl, bd_bd, chk_true, chk_tt, D.imm, D.imms, D.isN, List.map_cons, List.map_nil, List.length_cons, List.length_nil, List.set_cons_zero, List.set_cons_succ, List.getElem?_cons_zero, List.getElem?_cons_succ, List.getElem?_nil, Option.bind_some, Option.bind_none, Option.join_some, Option.join_none, Option.map_some, Bool.and_true, Bool.true_and, Bool.and_false, Bool.false_and, Bool.not_true, Bool.not_false, Bool.false_eq_true, Bool.true_eq_false, if_true, if_false, ite_true, ite_false, List.cons_append, List.nil_append, List.append_nil, Nat.zero_add, Nat.reduceAdd, Nat.reduceSub, Nat.reduceLeDiff, Int.reduceNeg, List.replicate_succ, List.replicate_zero, true_and, and_true, List.length_map, and_pu, or_pu, tand_pu, tor_pu, idx_0, idx_1, if_tt, if_ff, dSl, dNo, dSo, slD, imm_cD, imm_wD, intsD, sAppIx, sExt, sApp, lsD, sFor, seq_sD, eq_str, ne_str, eq_int, ne_int, nc0, nc1, nc2, nc3, nc4, decide_true, decide_false, ne_eq, not_true_eq_false, Int.reduceEq, not_false_eq_true, Bool.or_false, Bool.or_true, Bool.false_or, Bool.true_or, List.all_cons, List.all_nil, id_eq, e_validate_arrangement V S, e_validate_step hw hg, e_own_links V, e_can_step V S.len hw]
/-! ### what the walls and couplings allow -/
def holdsB (ws : List (Int × Int)) (cs : List Cp) (ss : List Int) : Bool := ((ws.zip ss).all fun p => decide (p.1.1 ≤ p.2) && decide (p.2 ≤ p.1.2)) && cs.all fun c => decide (c.lo ≤ ss.getD c.j 0 - ss.getD c.i 0) && decide (ss.getD c.j 0 - ss.getD c.i 0 ≤ c.hi)
def mvd (ss : List Int) (w : Nat) (g : Int) : List Int := ss.set w (ss.getD w 0 + g)
theorem getD_set {l : List Int} {w v : Nat} {x : Int} (h : w < l.length) : (l.set w x).getD v 0 = if v = w then x else l.getD v 0 := by
  rw [List.getD_eq_getElem?_getD, List.getD_eq_getElem?_getD]
  by_cases e : v = w
  · subst e; rw [if_pos rfl, List.getElem?_set_self h]; rfl
  · rw [if_neg e, List.getElem?_set_ne (fun z => e z.symm)]
theorem zip_all {ws : List (Int × Int)} {ss : List Int} (hl : ss.length = ws.length) (p : Int × Int → Int → Prop) [∀ a b, Decidable (p a b)] : ((ws.zip ss).all fun q => decide (p q.1 q.2)) = true ↔ ∀ v w, ws[v]? = some w → p w (ss.getD v 0) := by
  rw [List.all_eq_true]
  constructor
  · intro h v w hv
    have hv' : v < ws.length := (List.getElem?_eq_some_iff.mp hv).1
    have hs : ss[v]? = some (ss.getD v 0) := getD_at (α := Int) (by omega)
    have hz : (ws.zip ss)[v]? = some (w, ss.getD v 0) := by
      rw [List.getElem?_zip_eq_some]
      exact ⟨hv, hs⟩
    exact of_decide_eq_true (h _ (List.mem_of_getElem? hz))
  · intro h q hq
    obtain ⟨v, hv⟩ := List.mem_iff_getElem?.mp hq
    obtain ⟨h1, h2⟩ := List.getElem?_zip_eq_some.mp hv
    have hs : ss.getD v 0 = q.2 := by rw [List.getD_eq_getElem?_getD, h2]; rfl
    have := h v q.1 h1
    rw [hs] at this
    exact decide_eq_true this
theorem holds_iff {ws : List (Int × Int)} {cs : List Cp} {ss : List Int} (hl : ss.length = ws.length) : holdsB ws cs ss = true ↔ VS ws cs ss := by
  unfold holdsB
  have e : ((ws.zip ss).all fun p => decide (p.1.1 ≤ p.2) && decide (p.2 ≤ p.1.2)) = ((ws.zip ss).all fun p => decide (p.1.1 ≤ p.2 ∧ p.2 ≤ p.1.2)) := by
    congr 1
    funext p
    simp [Bool.decide_and]
  rw [e, Bool.and_eq_true, zip_all hl (fun a b => a.1 ≤ b ∧ b ≤ a.2), List.all_eq_true]
  constructor
  · rintro ⟨h1, h2⟩
    exact ⟨hl, h1, fun c hc => by simpa using h2 c hc⟩
  · intro S
    exact ⟨S.wal, fun c hc => by simpa using S.cpl c hc⟩
theorem lks_all {p : Lk → Bool} {v : Nat} : ∀ {cs : List Cp}, (lks v cs).all p = true ↔ ∀ c ∈ cs, (c.i = v → p ⟨c.j, c.lo, c.hi⟩ = true) ∧ (c.j = v → p ⟨c.i, -c.hi, -c.lo⟩ = true)
  | [] => by simp [lks]
  | c :: cs => by
    simp only [lks, List.all_append, Bool.and_eq_true, lks_all (cs := cs), List.forall_mem_cons]
    constructor
    · rintro ⟨⟨h1, h2⟩, h3⟩
      refine ⟨⟨fun e => ?_, fun e => ?_⟩, h3⟩
      · simpa [e] using h1
      · simpa [e] using h2
    · rintro ⟨⟨h1, h2⟩, h3⟩
      refine ⟨⟨?_, ?_⟩, h3⟩
      · by_cases e : c.i = v
        · simp [e, h1 e]
        · simp [e]
      · by_cases e : c.j = v
        · simp [e, h2 e]
        · simp [e]
/-- THE LAW of steps: a step can be made where the moved places hold -/
theorem can_iff {ws : List (Int × Int)} {cs : List Cp} {ss : List Int} {w : Nat} {g : Int} (V : VY ws cs) (S : VS ws cs ss) (hw : w < ws.length) (hg : g = -1 ∨ g = 1) : canB ws cs ss w g = holdsB ws cs (mvd ss w g) := by
  have hw' : w < ss.length := by rw [S.len]; exact hw
  have hl : (mvd ss w g).length = ws.length := by unfold mvd; rw [List.length_set, S.len]
  rw [Bool.eq_iff_iff, holds_iff hl]
  have gm : ∀ v, (mvd ss w g).getD v 0 = if v = w then ss.getD w 0 + g else ss.getD v 0 := fun v => getD_set hw'
  obtain ⟨s1, s2⟩ := S.wal w _ (getW hw)
  unfold canB
  rw [Bool.and_eq_true, lks_all]
  simp only [Bool.not_eq_true', decide_eq_false_iff_not]
  constructor
  · rintro ⟨h1, h2⟩
    refine ⟨hl, fun v u hv => ?_, fun c hc => ?_⟩
    · rw [gm]
      by_cases e : v = w
      · subst e
        rw [if_pos rfl]
        have eu : u = ws.getD v (0, 0) := by rw [getW hw] at hv; exact (Option.some.inj hv).symm
        subst eu
        unfold wallOf at h1
        rcases hg with rfl | rfl
        · rw [if_neg (by decide)] at h1; omega
        · rw [if_pos rfl] at h1; omega
      · rw [if_neg e]; exact S.wal v u hv
    · obtain ⟨c1, c2, _⟩ := V.cok c hc
      obtain ⟨p1, p2⟩ := S.cpl c hc
      obtain ⟨q1, q2⟩ := h2 c hc
      rw [gm, gm]
      by_cases e1 : c.i = w
      · have := q1 e1
        unfold okL at this
        simp only [Bool.and_eq_true, decide_eq_true_eq] at this
        rw [if_neg (by omega), if_pos e1]
        omega
      · by_cases e2 : c.j = w
        · have := q2 e2
          unfold okL at this
          simp only [Bool.and_eq_true, decide_eq_true_eq] at this
          rw [if_pos e2, if_neg e1]
          omega
        · rw [if_neg e2, if_neg e1]
          exact ⟨p1, p2⟩
  · intro T
    refine ⟨fun h => ?_, fun c hc => ?_⟩
    · have := T.wal w _ (getW hw)
      rw [gm, if_pos rfl] at this
      unfold wallOf at h
      rcases hg with rfl | rfl
      · rw [if_neg (by decide)] at h; omega
      · rw [if_pos rfl] at h; omega
    · obtain ⟨c1, c2, _⟩ := V.cok c hc
      have t := T.cpl c hc
      rw [gm, gm] at t
      refine ⟨fun e => ?_, fun e => ?_⟩
      · rw [if_neg (by omega), if_pos e] at t
        unfold okL
        simp only [Bool.and_eq_true, decide_eq_true_eq]
        omega
      · rw [if_pos e, if_neg (by omega)] at t
        unfold okL
        simp only [Bool.and_eq_true, decide_eq_true_eq]
        omega
end CY
namespace CY
open PySem L2 DL
/-! ### repr -/
mutual
/-- of small whole numbers, bools, None, tuples, lists -/
def rok : D → Bool
  | .non => true
  | .bl _ => true
  | .int i => decide (i.natAbs < 10 ^ 30)
  | .str s => s.cps.toList.all fun c => decide (c < 16 ^ 8)
  | .lst ds => roks ds
  | .frz ds => roks ds
  | .tup ds => roks ds
  | _ => false
def roks : List D → Bool
  | [] => true
  | d :: ds => rok d && roks ds
end
mutual
def wt : D → Nat
  | .lst ds => wts ds
  | .frz ds => wts ds
  | .tup ds => wts ds
  | .int _ => 101
  | .str s => s.cps.size
  | _ => 0
def wts : List D → Nat
  | [] => 0
  | d :: ds => wt d + 1 + wts ds
end
mutual
def dpt : D → Nat
  | .lst ds => dpts ds + 1
  | .frz ds => dpts ds + 1
  | .tup ds => dpts ds + 1
  | _ => 0
def dpts : List D → Nat
  | [] => 0
  | d :: ds => max (dpt d) (dpts ds)
end
theorem int_leaf {i : Int} (h : i.natAbs < 10 ^ 30) : (PyData.shown (.int i)).length ≤ 31 := by
  have e : (PyData.shown (.int i)) = Str.ofString (toString i) := rfl
  rw [e, ofString_length]
  exact int_text_length_le10 (by decide) h
mutual
theorem rok_py : ∀ d : D, rok d = true → ∃ p, d.py = some p ∧ p.showable = true ∧ p.depth = dpt d ∧ p.leavesShort 31 = true ∧ p.weight ≤ wt d
  | .non, _ => ⟨_, rfl, rfl, rfl, rfl, Nat.le_refl _⟩
  | .bl _, _ => ⟨_, rfl, rfl, rfl, rfl, Nat.le_refl _⟩
  | .int i, h => by
    have h' : i.natAbs < 10 ^ 30 := by simpa only [rok, decide_eq_true_eq] using h
    have hb : i.natAbs < 2 ^ 100 := Nat.lt_trans h' (by decide)
    have hl := PySem.Flt.log2_lt_of (by decide) hb
    refine ⟨_, rfl, by simp only [PyData.showable, decide_eq_true_eq]; omega, rfl, by simp only [PyData.leavesShort, decide_eq_true_eq]; exact int_leaf h', ?_⟩
    show (if i == 0 then 0 else i.natAbs.log2 + 1) ≤ 101
    split <;> omega
  | .str s, h => ⟨.str s, rfl, rfl, rfl, by simpa only [PyData.leavesShort, rok] using h, Nat.le_refl _⟩
  | .lst ds, h => by
    obtain ⟨ps, e, h1, h2, h3, h4⟩ := roks_py ds (by simpa [rok] using h)
    exact ⟨.list ps, by simp [D.py, e], by simpa [PyData.showable] using h1, by simp [PyData.depth, dpt, h2], by simpa [PyData.leavesShort] using h3, by simpa only [PyData.weight, wt] using h4⟩
  | .frz ds, h => by
    obtain ⟨ps, e, h1, h2, h3, h4⟩ := roks_py ds (by simpa [rok] using h)
    exact ⟨.list ps, by simp [D.py, e], by simpa [PyData.showable] using h1, by simp [PyData.depth, dpt, h2], by simpa [PyData.leavesShort] using h3, by simpa only [PyData.weight, wt] using h4⟩
  | .tup ds, h => by
    obtain ⟨ps, e, h1, h2, h3, h4⟩ := roks_py ds (by simpa [rok] using h)
    exact ⟨.tuple ps, by simp [D.py, e], by simpa [PyData.showable] using h1, by simp [PyData.depth, dpt, h2], by simpa [PyData.leavesShort] using h3, by simpa only [PyData.weight, wt] using h4⟩
theorem roks_py : ∀ ds : List D, roks ds = true → ∃ ps, D.pys ds = some ps ∧ PyData.showableAll ps = true ∧ PyData.depthAll ps = dpts ds ∧ PyData.leavesShortAll 31 ps = true ∧ PyData.weightAll ps ≤ wts ds
  | [], _ => ⟨[], rfl, rfl, rfl, rfl, Nat.le_refl _⟩
  | d :: ds, h => by
    have h' : rok d = true ∧ roks ds = true := by simpa [roks] using h
    obtain ⟨p, e, h1, h2, h3, h4⟩ := rok_py d h'.1
    obtain ⟨ps, e', g1, g2, g3, g4⟩ := roks_py ds h'.2
    exact ⟨p :: ps, by simp [D.pys, e, e'], by simp [PyData.showableAll, h1, g1], by simp [PyData.depthAll, dpts, h2, g2], by simp [PyData.leavesShortAll, h3, g3], by simp only [PyData.weightAll, wts]; omega⟩
end
/-- its text -/
def shD (d : D) : Str := match d.py with
  | some p => p.shown
  | none => Str.empty
theorem e_repr {d : D} (h : rok d = true) (hd : dpt d ≤ 60) (hw : wt d ≤ 500000) : reprD d = pu (.str (shD d)) := by
  obtain ⟨p, e, h1, h2, h3, h4⟩ := rok_py d h
  have hs := PyData.shown_le 31 (by decide) p h3
  have hl : p.shown.length ≤ sizeLine := Nat.le_trans hs (Nat.le_trans (show _ ≤ 33 * 500000 + 31 by omega) (by decide))
  unfold reprD shD
  rw [e, opt_some, chk_pos ⟨h1, by rw [h2]; exact hd, hl⟩]
end CY
namespace DC
open PySem L2 DL CY
abbrev N__law_state : List Str := ["script", "cell"]
abbrev N__law_mixed : List Str := ["number", "k", "out"]
def g__law_mixed : DL.Env → DL.W (Fl × DL.Env) := (sSeq (sSet 2 (dOp modD (dOp mulD (dOp addD (dOp addD (dOp addD (dOp modD (dV 0) (dC (.int 2147483647))) (dOp mulD (dOp mulD (dC (.int 7919)) (dV 1)) (dV 1))) (dOp mulD (dC (.int 31)) (dV 1))) (dC (.int 5))) (dC (.int 48271))) (dC (.int 2147483647)))) (sRet (dOp fdivD (dOp modD (dOp mulD (dV 2) (dC (.int 69621))) (dC (.int 2147483629))) (dC (.int 64)))))
def F__law_mixed : List D → DL.W D := bodyD 2 N__law_mixed.length g__law_mixed
/-- a draw: any number below 65536 -/
def F__law_next : List D → DL.W D := fun ds => chk (ds = [.src]) (fun Q _ => ∀ r : Int, 0 ≤ r → r < 65536 → Q (.int r))
theorem ln__law_next : Ln 1 F__law_next := fun ds _ _ h => by rw [h.1]; rfl
abbrev N__law_next : List Str := ["dice", "great", "number", "cells", "at", "cell"]
abbrev N__law_shuffled : List Str := ["dice", "many", "pile", "found"]
def g__law_shuffled : DL.Env → DL.W (Fl × DL.Env) := (sSeq (sPar 2 3 (listRng (dCons (dV 1) dNil)) (dLst dNil)) (sSeq (sWh (dB (dOp neS (dV 2) (dLstB dNil))) (sAppPop 3 2 (dOp modD (dCall F__law_next (dCons (dV 0) dNil)) (dCB (a1 lenD) (dCons (dV 2) dNil))))) (sRetV 3)))
def F__law_shuffled : List D → DL.W D := bodyD 2 N__law_shuffled.length g__law_shuffled
abbrev N__law_lot : List Str := ["dice", "most", "many", "base", "spots", "walls", "spot", "n", "low", "high", "order", "links", "k", "i", "j", "gap", "near", "v"]
def g__law_lot : DL.Env → DL.W (Fl × DL.Env) := (sSeq (sPar 2 3 (dImm (dOp addD (dC (.int 1)) (dOp modD (dCall F__law_next (dCons (dV 0) dNil)) (dV 1)))) (dImm (dOp idxD (dLstB (dCons (dC (.int 0)) (dCons (dC (.int 0)) (dCons (dC (.int 0)) (dCons (dOp subD (dOp powD (dC (.int 10)) (dC (.int 9))) (dC (.int 8))) (dCons (dOp subD (dC (.int 0)) (dOp powD (dC (.int 10)) (dC (.int 9)))) dNil)))))) (dOp modD (dCall F__law_next (dCons (dV 0) dNil)) (dC (.int 5)))))) (sSeq (sPar 4 5 (dLc [17] (fRng1 (dCons (dV 2) dNil)) (bName 17) dYes (dOp addD (dV 3) (dOp modD (dCall F__law_next (dCons (dV 0) dNil)) (dC (.int 9))))) (dLst dNil)) (sSeq (sFor (fSeq (dV 4)) (bName 6) (sSeq (sSetN 7 (dCall F__law_next (dCons (dV 0) dNil))) (sSeq (sPar 8 9 (dImm (dOp subD (dV 6) (dOp idxD (dLstB (dCons (dC (.int 0)) (dCons (dC (.int 1)) (dCons (dC (.int 3)) (dCons (dOp modD (dOp fdivD (dV 7) (dC (.int 16))) (dC (.int 12))) dNil))))) (dOp modD (dV 7) (dC (.int 4)))))) (dImm (dOp addD (dV 6) (dOp idxD (dLstB (dCons (dC (.int 0)) (dCons (dC (.int 2)) (dCons (dC (.int 4)) (dCons (dOp modD (dOp fdivD (dV 7) (dC (.int 192))) (dC (.int 12))) dNil))))) (dOp modD (dOp fdivD (dV 7) (dC (.int 4))) (dC (.int 4))))))) (sApp 5 (dTup (dCons (dCB (a2 max2D) (dCons (dV 8) (dCons (dOp subD (dC (.int 0)) (dOp powD (dC (.int 10)) (dC (.int 9)))) dNil))) (dCons (dCB (a2 min2D) (dCons (dV 9) (dCons (dOp powD (dC (.int 10)) (dC (.int 9))) dNil))) dNil))))))) (sSeq (sPar 10 11 (dCall F__law_shuffled (dCons (dV 0) (dCons (dV 2) dNil))) (dLst dNil)) (sSeq (sFor (fRng2 (dCons (dC (.int 1)) (dCons (dV 2) dNil))) (bName 12) (sSeq (sSetN 7 (dCall F__law_next (dCons (dV 0) dNil))) (sIf (dB (dOp gtD (dOp modD (dV 7) (dC (.int 5))) (dC (.int 0)))) (sSeq (sAsg (dCB (a1 sortID) (dCons (dLstB (dCons (dOp idxD (dV 10) (dV 12)) (dCons (dOp idxD (dV 10) (dOp modD (dCall F__law_next (dCons (dV 0) dNil)) (dV 12))) dNil))) dNil)) (bLst 2 (bCons (bName 13) (bCons (bName 14) bNil)))) (sSeq (sPar 15 16 (dImm (dOp subD (dOp idxD (dV 4) (dV 14)) (dOp idxD (dV 4) (dV 13)))) (dImm (dOp idxD (dLstB (dCons (dC (.int 0)) (dCons (dC (.int 0)) (dCons (dC (.int 1)) (dCons (dC (.int 2)) dNil))))) (dOp modD (dOp fdivD (dV 7) (dC (.int 5))) (dC (.int 4)))))) (sApp 11 (dTup (dCons (dV 13) (dCons (dV 14) (dCons (dOp subD (dV 15) (dV 16)) (dCons (dOp addD (dV 15) (dCB (a2 max2D) (dCons (dOp idxD (dLstB (dCons (dC (.int 0)) (dCons (dC (.int 1)) (dCons (dC (.int 0)) (dCons (dC (.int 3)) dNil))))) (dOp modD (dOp fdivD (dV 7) (dC (.int 20))) (dC (.int 4)))) (dCons (dOp subD (dC (.int 1)) (dV 16)) dNil)))) dNil)))))))) sNil))) (sRet (dTup (dCons (dTup (dCons (dCB (a1 tupleD) (dCons (dV 5) dNil)) (dCons (dCB (a1 tupleD) (dCons (dCB (a1 sortTD) (dCons (dV 11) dNil)) dNil)) dNil))) (dCons (dCB (a1 tupleD) (dCons (dV 4) dNil)) dNil)))))))))
def F__law_lot : List D → DL.W D := bodyD 2 N__law_lot.length g__law_lot
abbrev N__law_pick : List Str := ["dice", "some"]
def g__law_pick : DL.Env → DL.W (Fl × DL.Env) := (sRet (dOp idxD (dV 1) (dOp modD (dCall F__law_next (dCons (dV 0) dNil)) (dCB (a1 lenD) (dCons (dV 1) dNil)))))
def F__law_pick : List D → DL.W D := bodyD 2 N__law_pick.length g__law_pick
abbrev N__law_moved : List Str := ["spots", "act"]
def g__law_moved : DL.Env → DL.W (Fl × DL.Env) := (sRet (dOp addD (dOp addD (dSl (dV 0) dNo (dSo (dOp idxD (dV 1) (dC (.int 0))))) (dTup (dCons (dOp addD (dOp idxD (dV 0) (dOp idxD (dV 1) (dC (.int 0)))) (dOp idxD (dV 1) (dC (.int 1)))) dNil))) (dSl (dV 0) (dSo (dOp addD (dOp idxD (dV 1) (dC (.int 0))) (dC (.int 1)))) dNo)))
def F__law_moved : List D → DL.W D := bodyD 2 N__law_moved.length g__law_moved
abbrev N__law_holds : List Str := ["lot", "spots", "ends_here", "spot", "i", "j", "least", "top"]
def g__law_holds : DL.Env → DL.W (Fl × DL.Env) := (sSeq (sFor (fZip (dCons (dOp idxD (dV 0) (dC (.int 0))) (dCons (dV 1) dNil))) (bTup 2 (bCons (bName 2) (bCons (bName 3) bNil))) (sIf (dNotT (dB (dChain leD leD (dOp idxD (dV 2) (dC (.int 0))) (dV 3) (dOp idxD (dV 2) (dC (.int 1)))))) (sRet (dC (.bl false))) sNil)) (sSeq (sFor (fSeq (dOp idxD (dV 0) (dC (.int 1)))) (bTup 4 (bCons (bName 4) (bCons (bName 5) (bCons (bName 6) (bCons (bName 7) bNil))))) (sIf (dNotT (dB (dChain leD leD (dV 6) (dOp subD (dOp idxD (dV 1) (dV 5)) (dOp idxD (dV 1) (dV 4))) (dV 7)))) (sRet (dC (.bl false))) sNil)) (sRet (dC (.bl true)))))
def F__law_holds : List D → DL.W D := bodyD 2 N__law_holds.length g__law_holds
abbrev N__law_ready : List Str := ["lot", "spots", "some", "v", "sign"]
def g__law_ready : DL.Env → DL.W (Fl × DL.Env) := (sSeq (sSetN 2 (dLst dNil)) (sSeq (sFor (fRng1 (dCons (dCB (a1 lenD) (dCons (dV 1) dNil)) dNil)) (bName 3) (sExt 2 (dLc [4] (fSeq (dTup (dCons (dUn negD (dC (.int 1))) (dCons (dC (.int 1)) dNil)))) (bName 4) (dB (dCall F__law_holds (dCons (dV 0) (dCons (dCall F__law_moved (dCons (dV 1) (dCons (dTup (dCons (dV 3) (dCons (dV 4) dNil))) dNil))) dNil)))) (dTup (dCons (dV 3) (dCons (dV 4) dNil)))))) (sRetV 2)))
def F__law_ready : List D → DL.W D := bodyD 2 N__law_ready.length g__law_ready
abbrev N__law_walked : List Str := ["dice", "lot", "spots", "many", "turn", "ready"]
def g__law_walked : DL.Env → DL.W (Fl × DL.Env) := (sSeq (sFor (fRng1 (dCons (dV 3) dNil)) (bName 4) (sSeq (sSetN 5 (dCall F__law_ready (dCons (dV 1) (dCons (dV 2) dNil)))) (sIf (dB (dOp neS (dV 5) (dLstB dNil))) (sSetN 2 (dCall F__law_moved (dCons (dV 2) (dCons (dCall F__law_pick (dCons (dV 0) (dCons (dV 5) dNil))) dNil)))) sNil))) (sRet (dV 2)))
def F__law_walked : List D → DL.W D := bodyD 4 N__law_walked.length g__law_walked
end DC
namespace DC
open PySem L2 DL CY
theorem cut_to {α : Type} (xs : List α) (k : Nat) : DL.cut xs none (some (k : Int)) = xs.take k := by
  unfold DL.cut
  rw [HT.sIx_none, HT.sIx_nat, Nat.sub_zero, List.drop_zero]
  by_cases h : k ≤ xs.length
  · rw [Nat.min_eq_left h]
  · rw [Nat.min_eq_right (by omega), List.take_of_length_le (Nat.le_refl _), List.take_of_length_le (by omega)]
theorem cut_from {α : Type} (xs : List α) (k : Nat) : DL.cut xs (some (k : Int)) none = xs.drop k := by
  unfold DL.cut
  rw [HT.sIx_none, HT.sIx_nat]
  by_cases h : k ≤ xs.length
  · rw [Nat.min_eq_left h, List.take_of_length_le (by rw [List.length_drop]; exact Nat.le_refl _)]
  · rw [Nat.min_eq_right (by omega), List.drop_length, List.drop_eq_nil_of_le (by omega), List.take_nil]
theorem mvd_D {ss : List Int} {w : Nat} {g : Int} (h : w < ss.length) : (ss.map D.int).take w ++ [D.int (ss.getD w 0 + g)] ++ (ss.map D.int).drop (w + 1) = (mvd ss w g).map D.int := by
  unfold mvd
  rw [List.set_eq_take_append_cons_drop, if_pos h, List.map_append, List.map_cons, List.map_take, List.map_drop, List.append_assoc]
  rfl
theorem e_moved {ss : List Int} {w : Nat} {g : Int} (h : w < ss.length) (h40 : ss.length ≤ 40) : F__law_moved [sD ss, .tup [.int w, .int g]] = pu (sD (mvd ss w g)) := by
  unfold F__law_moved g__law_moved sD
  have e1 : (w : Int) + 1 = ((w + 1 : Nat) : Int) := by omega
  have l1 : ((ss.map D.int).take w).length + 1 ≤ sizeLine := by
    rw [List.length_take, List.length_map]
    exact Nat.le_trans (show _ ≤ 1000 by omega) (by decide)
  have l2 : ((ss.map D.int).take w ++ [D.int (ss.getD w 0 + g)]).length + ((ss.map D.int).drop (w + 1)).length ≤ sizeLine := by
    rw [List.length_append, List.length_take, List.length_drop, List.length_map, List.length_singleton]
    exact Nat.le_trans (show _ ≤ 1000 by omega) (by decide)
  simp (decide := true) (implicitDefEqProofs := false) only [bodyD, env0, sSeq, thenF, sIf, sRet, sRetN, sRetV, sSet, sSetN, sExpr, sNil, sAsg, sPar, resD, dV, dC, dOp, dUn, dNot, dAnd, dOr, dNotT, dAndT, dOrT, dB, dIf, dChain, dTup, dCons, dNil, dLst, dLstB, dCB, dCall, dCallK, dImm, dYes, a1, a2, bTup, bLst, bCons, bNil, bName, fSeq, seqOf, fRng1, fRng2, fEn, fZip, zip2, one1, ints1, ints2, asB, asI, negD, addD, subD, modD, ltD, gtD, geD, leD, isND, isnND, intOp, intOpC, lenD_lst, lenD_tup, lenD_frz, len_sD, tupleD, listD, absD, max2D, min2D, allD, isiD, tyN, isiT_tt, isiT_ii, isiT_ib, idxD, lsA, gw, gt, opt_some, opt_none, bd_pu, bd_fl, bd_bd, chk_true, chk_tt, D.imm, D.imms, D.isN, List.map_cons, List.map_nil, List.length_cons, List.length_nil, List.set_cons_zero, List.set_cons_succ, List.getElem?_cons_zero, List.getElem?_cons_succ, List.getElem?_nil, Option.bind_some, Option.bind_none, Option.join_some, Option.join_none, Option.map_some, Bool.and_true, Bool.true_and, Bool.and_false, Bool.false_and, Bool.not_true, Bool.not_false, Bool.false_eq_true, Bool.true_eq_false, if_true, if_false, ite_true, ite_false, List.cons_append, List.nil_append, List.append_nil, Nat.zero_add, Nat.reduceAdd, Nat.reduceSub, Nat.reduceLeDiff, Int.reduceNeg, List.replicate_succ, List.replicate_zero, true_and, and_true, List.length_map, and_pu, or_pu, tand_pu, tor_pu, idx_0, idx_1, if_tt, if_ff, dSl, dNo, dSo, slD, imm_cD, imm_wD, intsD, sAppIx, sExt, sApp, lsD, sFor, seq_sD, eq_str, ne_str, eq_int, ne_int, nc0, nc1, nc2, nc3, nc4, decide_true, decide_false, ne_eq, not_true_eq_false, Int.reduceEq, not_false_eq_true, Bool.or_false, Bool.or_true, Bool.false_or, Bool.true_or, List.all_cons, List.all_nil, id_eq, idx_int h, cut_to, e1, cut_from]
  rw [chk_pos l1]
  simp (decide := true) (implicitDefEqProofs := false) only [bodyD, env0, sSeq, thenF, sIf, sRet, sRetN, sRetV, sSet, sSetN, sExpr, sNil, sAsg, sPar, resD, dV, dC, dOp, dUn, dNot, dAnd, dOr, dNotT, dAndT, dOrT, dB, dIf, dChain, dTup, dCons, dNil, dLst, dLstB, dCB, dCall, dCallK, dImm, dYes, a1, a2, bTup, bLst, bCons, bNil, bName, fSeq, seqOf, fRng1, fRng2, fEn, fZip, zip2, one1, ints1, ints2, asB, asI, negD, addD, subD, modD, ltD, gtD, geD, leD, isND, isnND, intOp, intOpC, lenD_lst, lenD_tup, lenD_frz, len_sD, tupleD, listD, absD, max2D, min2D, allD, isiD, tyN, isiT_tt, isiT_ii, isiT_ib, idxD, lsA, gw, gt, opt_some, opt_none, bd_pu, bd_fl, bd_bd, chk_true, chk_tt, D.imm, D.imms, D.isN, List.map_cons, List.map_nil, List.length_cons, List.length_nil, List.set_cons_zero, List.set_cons_succ, List.getElem?_cons_zero, List.getElem?_cons_succ, List.getElem?_nil, Option.bind_some, Option.bind_none, Option.join_some, Option.join_none, Option.map_some, Bool.and_true, Bool.true_and, Bool.and_false, Bool.false_and, Bool.not_true, Bool.not_false, Bool.false_eq_true, Bool.true_eq_false, if_true, if_false, ite_true, ite_false, List.cons_append, List.nil_append, List.append_nil, Nat.zero_add, Nat.reduceAdd, Nat.reduceSub, Nat.reduceLeDiff, Int.reduceNeg, List.replicate_succ, List.replicate_zero, true_and, and_true, List.length_map, and_pu, or_pu, tand_pu, tor_pu, idx_0, idx_1, if_tt, if_ff, dSl, dNo, dSo, slD, imm_cD, imm_wD, intsD, sAppIx, sExt, sApp, lsD, sFor, seq_sD, eq_str, ne_str, eq_int, ne_int, nc0, nc1, nc2, nc3, nc4, decide_true, decide_false, ne_eq, not_true_eq_false, Int.reduceEq, not_false_eq_true, Bool.or_false, Bool.or_true, Bool.false_or, Bool.true_or, List.all_cons, List.all_nil, id_eq]
  rw [chk_pos l2, mvd_D h]
  simp (decide := true) (implicitDefEqProofs := false) only [bodyD, env0, sSeq, thenF, sIf, sRet, sRetN, sRetV, sSet, sSetN, sExpr, sNil, sAsg, sPar, resD, dV, dC, dOp, dUn, dNot, dAnd, dOr, dNotT, dAndT, dOrT, dB, dIf, dChain, dTup, dCons, dNil, dLst, dLstB, dCB, dCall, dCallK, dImm, dYes, a1, a2, bTup, bLst, bCons, bNil, bName, fSeq, seqOf, fRng1, fRng2, fEn, fZip, zip2, one1, ints1, ints2, asB, asI, negD, addD, subD, modD, ltD, gtD, geD, leD, isND, isnND, intOp, intOpC, lenD_lst, lenD_tup, lenD_frz, len_sD, tupleD, listD, absD, max2D, min2D, allD, isiD, tyN, isiT_tt, isiT_ii, isiT_ib, idxD, lsA, gw, gt, opt_some, opt_none, bd_pu, bd_fl, bd_bd, chk_true, chk_tt, D.imm, D.imms, D.isN, List.map_cons, List.map_nil, List.length_cons, List.length_nil, List.set_cons_zero, List.set_cons_succ, List.getElem?_cons_zero, List.getElem?_cons_succ, List.getElem?_nil, Option.bind_some, Option.bind_none, Option.join_some, Option.join_none, Option.map_some, Bool.and_true, Bool.true_and, Bool.and_false, Bool.false_and, Bool.not_true, Bool.not_false, Bool.false_eq_true, Bool.true_eq_false, if_true, if_false, ite_true, ite_false, List.cons_append, List.nil_append, List.append_nil, Nat.zero_add, Nat.reduceAdd, Nat.reduceSub, Nat.reduceLeDiff, Int.reduceNeg, List.replicate_succ, List.replicate_zero, true_and, and_true, List.length_map, and_pu, or_pu, tand_pu, tor_pu, idx_0, idx_1, if_tt, if_ff, dSl, dNo, dSo, slD, imm_cD, imm_wD, intsD, sAppIx, sExt, sApp, lsD, sFor, seq_sD, eq_str, ne_str, eq_int, ne_int, nc0, nc1, nc2, nc3, nc4, decide_true, decide_false, ne_eq, not_true_eq_false, Int.reduceEq, not_false_eq_true, Bool.or_false, Bool.or_true, Bool.false_or, Bool.true_or, List.all_cons, List.all_nil, id_eq, imms_int]
theorem zipD_at {ws : List (Int × Int)} {ss : List Int} {i : Nat} {d : D} (hl : ss.length = ws.length) (h : (zipD (ws.map wD) (ss.map D.int))[i]? = some d) : i < ws.length ∧ d = .tup [wD (ws.getD i (0, 0)), .int (ss.getD i 0)] := by
  have hi : i < ws.length := by
    have := (List.getElem?_eq_some_iff.mp h).1
    rw [zipD_len, List.length_map, List.length_map, hl, Nat.min_self] at this
    exact this
  have e := zipD_get (ws.map wD) (ss.map D.int) i (wD (ws.getD i (0, 0))) (.int (ss.getD i 0)) (by rw [List.getElem?_map, getW hi]; rfl) (by rw [List.getElem?_map, getD_at (α := Int) (by omega)]; rfl)
  rw [e] at h
  exact ⟨hi, (Option.some.inj h).symm⟩
theorem zipD_len2 {ws : List (Int × Int)} {ss : List Int} (hl : ss.length = ws.length) : (zipD (ws.map wD) (ss.map D.int)).length = ws.length := by
  rw [zipD_len, List.length_map, List.length_map, hl, Nat.min_self]
def wOk (ws : List (Int × Int)) (ss : List Int) (i : Nat) : Bool := decide ((ws.getD i (0, 0)).1 ≤ ss.getD i 0) && decide (ss.getD i 0 ≤ (ws.getD i (0, 0)).2)
def cOk (ss : List Int) (c : Cp) : Bool := decide (c.lo ≤ ss.getD c.j 0 - ss.getD c.i 0) && decide (ss.getD c.j 0 - ss.getD c.i 0 ≤ c.hi)
theorem holds_iff2 {ws : List (Int × Int)} {cs : List Cp} {ss : List Int} (hl : ss.length = ws.length) : holdsB ws cs ss = true ↔ (∀ i, i < ws.length → wOk ws ss i = true) ∧ ∀ c ∈ cs, cOk ss c = true := by
  rw [holds_iff hl]
  constructor
  · intro S
    refine ⟨fun i hi => ?_, fun c hc => ?_⟩
    · have := S.wal i _ (getW hi)
      unfold wOk
      simpa using this
    · have := S.cpl c hc
      unfold cOk
      simpa using this
  · rintro ⟨h1, h2⟩
    refine ⟨hl, fun v w hv => ?_, fun c hc => ?_⟩
    · have hi := (List.getElem?_eq_some_iff.mp hv).1
      have := h1 v hi
      rw [getW hi] at hv
      cases hv
      unfold wOk at this
      simpa using this
    · have := h2 c hc
      unfold cOk at this
      simpa using this
theorem and3 {α : Type} {A B : α → Prop} {C : Prop} (c : C) (h : ∃ x, A x ∧ B x) : ∃ x, A x ∧ B x ∧ C := let ⟨x, a, b⟩ := h; ⟨x, a, b, c⟩
theorem and2 {α : Type} {A : α → Prop} {C : Prop} (c : C) (h : ∃ x, A x) : ∃ x, A x ∧ C := let ⟨x, a⟩ := h; ⟨x, a, c⟩
theorem bl_false {b : Bool} (h : ¬ b = true) : b = false := by cases b <;> simp_all
theorem e_holds {ws : List (Int × Int)} {cs : List Cp} {ss : List Int} (V : VY ws cs) (hl : ss.length = ws.length) : F__law_holds [yD ws cs, sD ss] = pu (.bl (holdsB ws cs ss)) := by
  unfold F__law_holds g__law_holds yD sD
  have zi : D.imms (ws.map wD) = true ∧ D.imms (ss.map D.int) = true := ⟨imms_wD _, imms_int _⟩
  simp (decide := true) (implicitDefEqProofs := false) only [bodyD, env0, sSeq, thenF, sIf, sRet, sRetN, sRetV, sSet, sSetN, sExpr, sNil, sAsg, sPar, resD, dV, dC, dOp, dUn, dNot, dAnd, dOr, dNotT, dAndT, dOrT, dB, dIf, dChain, dTup, dCons, dNil, dLst, dLstB, dCB, dCall, dCallK, dImm, dYes, a1, a2, bTup, bLst, bCons, bNil, bName, fSeq, seqOf, fRng1, fRng2, fEn, fZip, zip2, one1, ints1, ints2, asB, asI, negD, addD, subD, modD, ltD, gtD, geD, leD, isND, isnND, intOp, intOpC, lenD_lst, lenD_tup, lenD_frz, len_sD, tupleD, listD, absD, max2D, min2D, allD, isiD, tyN, isiT_tt, isiT_ii, isiT_ib, idxD, lsA, gw, gt, opt_some, opt_none, bd_pu, bd_fl, bd_bd, chk_true, chk_tt, D.imm, D.imms, D.isN, List.map_cons, List.map_nil, List.length_cons, List.length_nil, List.set_cons_zero, List.set_cons_succ, List.getElem?_cons_zero, List.getElem?_cons_succ, List.getElem?_nil, Option.bind_some, Option.bind_none, Option.join_some, Option.join_none, Option.map_some, Bool.and_true, Bool.true_and, Bool.and_false, Bool.false_and, Bool.not_true, Bool.not_false, Bool.false_eq_true, Bool.true_eq_false, if_true, if_false, ite_true, ite_false, List.cons_append, List.nil_append, List.append_nil, Nat.zero_add, Nat.reduceAdd, Nat.reduceSub, Nat.reduceLeDiff, Int.reduceNeg, List.replicate_succ, List.replicate_zero, true_and, and_true, List.length_map, and_pu, or_pu, tand_pu, tor_pu, idx_0, idx_1, if_tt, if_ff, dSl, dNo, dSo, slD, imm_cD, imm_wD, intsD, sAppIx, sExt, sApp, lsD, sFor, seq_sD, eq_str, ne_str, eq_int, ne_int, nc0, nc1, nc2, nc3, nc4, decide_true, decide_false, ne_eq, not_true_eq_false, Int.reduceEq, not_false_eq_true, Bool.or_false, Bool.or_true, Bool.false_or, Bool.true_or, List.all_cons, List.all_nil, id_eq, imms_wD, imms_int, imms_cD]
  refine bd_forR (fun i δ => ∃ x y a b c d : Option D, δ = [some (D.tup [.tup (ws.map wD), .tup (cs.map cD)]), some (.tup (ss.map D.int)), x, y, a, b, c, d]) (fun i => wOk ws ss i = true) (fun _ => .bl false) ⟨_, _, _, _, _, _, rfl⟩ ?_ ?_ ?_
  · rintro i d δ hd ⟨x, y, a, b, z, u, rfl⟩
    obtain ⟨hi, rfl⟩ := zipD_at hl hd
    cases e : wOk ws ss i with
    | true =>
      refine .inl (and3 rfl ?_)
      unfold wOk at e
      simp (decide := true) (implicitDefEqProofs := false) only [bodyD, env0, sSeq, thenF, sIf, sRet, sRetN, sRetV, sSet, sSetN, sExpr, sNil, sAsg, sPar, resD, dV, dC, dOp, dUn, dNot, dAnd, dOr, dNotT, dAndT, dOrT, dB, dIf, dChain, dTup, dCons, dNil, dLst, dLstB, dCB, dCall, dCallK, dImm, dYes, a1, a2, bTup, bLst, bCons, bNil, bName, fSeq, seqOf, fRng1, fRng2, fEn, fZip, zip2, one1, ints1, ints2, asB, asI, negD, addD, subD, modD, ltD, gtD, geD, leD, isND, isnND, intOp, intOpC, lenD_lst, lenD_tup, lenD_frz, len_sD, tupleD, listD, absD, max2D, min2D, allD, isiD, tyN, isiT_tt, isiT_ii, isiT_ib, idxD, lsA, gw, gt, opt_some, opt_none, bd_pu, bd_fl, bd_bd, chk_true, chk_tt, D.imm, D.imms, D.isN, List.map_cons, List.map_nil, List.length_cons, List.length_nil, List.set_cons_zero, List.set_cons_succ, List.getElem?_cons_zero, List.getElem?_cons_succ, List.getElem?_nil, Option.bind_some, Option.bind_none, Option.join_some, Option.join_none, Option.map_some, Bool.and_true, Bool.true_and, Bool.and_false, Bool.false_and, Bool.not_true, Bool.not_false, Bool.false_eq_true, Bool.true_eq_false, if_true, if_false, ite_true, ite_false, List.cons_append, List.nil_append, List.append_nil, Nat.zero_add, Nat.reduceAdd, Nat.reduceSub, Nat.reduceLeDiff, Int.reduceNeg, List.replicate_succ, List.replicate_zero, true_and, and_true, List.length_map, and_pu, or_pu, tand_pu, tor_pu, idx_0, idx_1, if_tt, if_ff, dSl, dNo, dSo, slD, imm_cD, imm_wD, intsD, sAppIx, sExt, sApp, lsD, sFor, seq_sD, eq_str, ne_str, eq_int, ne_int, nc0, nc1, nc2, nc3, nc4, decide_true, decide_false, ne_eq, not_true_eq_false, Int.reduceEq, not_false_eq_true, Bool.or_false, Bool.or_true, Bool.false_or, Bool.true_or, List.all_cons, List.all_nil, id_eq, wD, e]
      exact ⟨_, rfl, _, _, _, _, _, _, rfl⟩
    | false =>
      refine .inr (and2 Bool.false_ne_true ?_)
      unfold wOk at e
      simp (decide := true) (implicitDefEqProofs := false) only [bodyD, env0, sSeq, thenF, sIf, sRet, sRetN, sRetV, sSet, sSetN, sExpr, sNil, sAsg, sPar, resD, dV, dC, dOp, dUn, dNot, dAnd, dOr, dNotT, dAndT, dOrT, dB, dIf, dChain, dTup, dCons, dNil, dLst, dLstB, dCB, dCall, dCallK, dImm, dYes, a1, a2, bTup, bLst, bCons, bNil, bName, fSeq, seqOf, fRng1, fRng2, fEn, fZip, zip2, one1, ints1, ints2, asB, asI, negD, addD, subD, modD, ltD, gtD, geD, leD, isND, isnND, intOp, intOpC, lenD_lst, lenD_tup, lenD_frz, len_sD, tupleD, listD, absD, max2D, min2D, allD, isiD, tyN, isiT_tt, isiT_ii, isiT_ib, idxD, lsA, gw, gt, opt_some, opt_none, bd_pu, bd_fl, bd_bd, chk_true, chk_tt, D.imm, D.imms, D.isN, List.map_cons, List.map_nil, List.length_cons, List.length_nil, List.set_cons_zero, List.set_cons_succ, List.getElem?_cons_zero, List.getElem?_cons_succ, List.getElem?_nil, Option.bind_some, Option.bind_none, Option.join_some, Option.join_none, Option.map_some, Bool.and_true, Bool.true_and, Bool.and_false, Bool.false_and, Bool.not_true, Bool.not_false, Bool.false_eq_true, Bool.true_eq_false, if_true, if_false, ite_true, ite_false, List.cons_append, List.nil_append, List.append_nil, Nat.zero_add, Nat.reduceAdd, Nat.reduceSub, Nat.reduceLeDiff, Int.reduceNeg, List.replicate_succ, List.replicate_zero, true_and, and_true, List.length_map, and_pu, or_pu, tand_pu, tor_pu, idx_0, idx_1, if_tt, if_ff, dSl, dNo, dSo, slD, imm_cD, imm_wD, intsD, sAppIx, sExt, sApp, lsD, sFor, seq_sD, eq_str, ne_str, eq_int, ne_int, nc0, nc1, nc2, nc3, nc4, decide_true, decide_false, ne_eq, not_true_eq_false, Int.reduceEq, not_false_eq_true, Bool.or_false, Bool.or_true, Bool.false_or, Bool.true_or, List.all_cons, List.all_nil, id_eq, wD, e]
      exact ⟨_, rfl⟩
  · rintro δ' ⟨x, y, a, b, c, d, rfl⟩ hw
    rw [zipD_len2 hl] at hw
    simp (decide := true) (implicitDefEqProofs := false) only [bodyD, env0, sSeq, thenF, sIf, sRet, sRetN, sRetV, sSet, sSetN, sExpr, sNil, sAsg, sPar, resD, dV, dC, dOp, dUn, dNot, dAnd, dOr, dNotT, dAndT, dOrT, dB, dIf, dChain, dTup, dCons, dNil, dLst, dLstB, dCB, dCall, dCallK, dImm, dYes, a1, a2, bTup, bLst, bCons, bNil, bName, fSeq, seqOf, fRng1, fRng2, fEn, fZip, zip2, one1, ints1, ints2, asB, asI, negD, addD, subD, modD, ltD, gtD, geD, leD, isND, isnND, intOp, intOpC, lenD_lst, lenD_tup, lenD_frz, len_sD, tupleD, listD, absD, max2D, min2D, allD, isiD, tyN, isiT_tt, isiT_ii, isiT_ib, idxD, lsA, gw, gt, opt_some, opt_none, bd_pu, bd_fl, bd_bd, chk_true, chk_tt, D.imm, D.imms, D.isN, List.map_cons, List.map_nil, List.length_cons, List.length_nil, List.set_cons_zero, List.set_cons_succ, List.getElem?_cons_zero, List.getElem?_cons_succ, List.getElem?_nil, Option.bind_some, Option.bind_none, Option.join_some, Option.join_none, Option.map_some, Bool.and_true, Bool.true_and, Bool.and_false, Bool.false_and, Bool.not_true, Bool.not_false, Bool.false_eq_true, Bool.true_eq_false, if_true, if_false, ite_true, ite_false, List.cons_append, List.nil_append, List.append_nil, Nat.zero_add, Nat.reduceAdd, Nat.reduceSub, Nat.reduceLeDiff, Int.reduceNeg, List.replicate_succ, List.replicate_zero, true_and, and_true, List.length_map, and_pu, or_pu, tand_pu, tor_pu, idx_0, idx_1, if_tt, if_ff, dSl, dNo, dSo, slD, imm_cD, imm_wD, intsD, sAppIx, sExt, sApp, lsD, sFor, seq_sD, eq_str, ne_str, eq_int, ne_int, nc0, nc1, nc2, nc3, nc4, decide_true, decide_false, ne_eq, not_true_eq_false, Int.reduceEq, not_false_eq_true, Bool.or_false, Bool.or_true, Bool.false_or, Bool.true_or, List.all_cons, List.all_nil, id_eq, imms_cD]
    refine bd_forR (fun i δ => ∃ x y a b c d : Option D, δ = [some (D.tup [.tup (ws.map wD), .tup (cs.map cD)]), some (.tup (ss.map D.int)), x, y, a, b, c, d]) (fun i => ∃ c, cs[i]? = some c ∧ cOk ss c = true) (fun _ => .bl false) ⟨_, _, _, _, _, _, rfl⟩ ?_ ?_ ?_
    · rintro i d δ hd ⟨x, y, a, b, z, u, rfl⟩
      obtain ⟨c, hc, rfl⟩ := map_at cD cs hd
      obtain ⟨c1, c2, _⟩ := V.cok c (List.mem_of_getElem? hc)
      have hi : c.i < ss.length := by omega
      have hj : c.j < ss.length := by omega
      cases e : cOk ss c with
      | true =>
        refine .inl (and3 ⟨c, hc, e⟩ ?_)
        unfold cOk at e
        simp (decide := true) (implicitDefEqProofs := false) only [bodyD, env0, sSeq, thenF, sIf, sRet, sRetN, sRetV, sSet, sSetN, sExpr, sNil, sAsg, sPar, resD, dV, dC, dOp, dUn, dNot, dAnd, dOr, dNotT, dAndT, dOrT, dB, dIf, dChain, dTup, dCons, dNil, dLst, dLstB, dCB, dCall, dCallK, dImm, dYes, a1, a2, bTup, bLst, bCons, bNil, bName, fSeq, seqOf, fRng1, fRng2, fEn, fZip, zip2, one1, ints1, ints2, asB, asI, negD, addD, subD, modD, ltD, gtD, geD, leD, isND, isnND, intOp, intOpC, lenD_lst, lenD_tup, lenD_frz, len_sD, tupleD, listD, absD, max2D, min2D, allD, isiD, tyN, isiT_tt, isiT_ii, isiT_ib, idxD, lsA, gw, gt, opt_some, opt_none, bd_pu, bd_fl, bd_bd, chk_true, chk_tt, D.imm, D.imms, D.isN, List.map_cons, List.map_nil, List.length_cons, List.length_nil, List.set_cons_zero, List.set_cons_succ, List.getElem?_cons_zero, List.getElem?_cons_succ, List.getElem?_nil, Option.bind_some, Option.bind_none, Option.join_some, Option.join_none, Option.map_some, Bool.and_true, Bool.true_and, Bool.and_false, Bool.false_and, Bool.not_true, Bool.not_false, Bool.false_eq_true, Bool.true_eq_false, if_true, if_false, ite_true, ite_false, List.cons_append, List.nil_append, List.append_nil, Nat.zero_add, Nat.reduceAdd, Nat.reduceSub, Nat.reduceLeDiff, Int.reduceNeg, List.replicate_succ, List.replicate_zero, true_and, and_true, List.length_map, and_pu, or_pu, tand_pu, tor_pu, idx_0, idx_1, if_tt, if_ff, dSl, dNo, dSo, slD, imm_cD, imm_wD, intsD, sAppIx, sExt, sApp, lsD, sFor, seq_sD, eq_str, ne_str, eq_int, ne_int, nc0, nc1, nc2, nc3, nc4, decide_true, decide_false, ne_eq, not_true_eq_false, Int.reduceEq, not_false_eq_true, Bool.or_false, Bool.or_true, Bool.false_or, Bool.true_or, List.all_cons, List.all_nil, id_eq, cD, idx_int hi, idx_int hj, e]
        exact ⟨_, rfl, _, _, _, _, _, _, rfl⟩
      | false =>
        refine .inr (and2 (fun ⟨c', hc', e'⟩ => by
          rw [hc] at hc'
          cases hc'
          rw [e] at e'
          cases e') ?_)
        unfold cOk at e
        simp (decide := true) (implicitDefEqProofs := false) only [bodyD, env0, sSeq, thenF, sIf, sRet, sRetN, sRetV, sSet, sSetN, sExpr, sNil, sAsg, sPar, resD, dV, dC, dOp, dUn, dNot, dAnd, dOr, dNotT, dAndT, dOrT, dB, dIf, dChain, dTup, dCons, dNil, dLst, dLstB, dCB, dCall, dCallK, dImm, dYes, a1, a2, bTup, bLst, bCons, bNil, bName, fSeq, seqOf, fRng1, fRng2, fEn, fZip, zip2, one1, ints1, ints2, asB, asI, negD, addD, subD, modD, ltD, gtD, geD, leD, isND, isnND, intOp, intOpC, lenD_lst, lenD_tup, lenD_frz, len_sD, tupleD, listD, absD, max2D, min2D, allD, isiD, tyN, isiT_tt, isiT_ii, isiT_ib, idxD, lsA, gw, gt, opt_some, opt_none, bd_pu, bd_fl, bd_bd, chk_true, chk_tt, D.imm, D.imms, D.isN, List.map_cons, List.map_nil, List.length_cons, List.length_nil, List.set_cons_zero, List.set_cons_succ, List.getElem?_cons_zero, List.getElem?_cons_succ, List.getElem?_nil, Option.bind_some, Option.bind_none, Option.join_some, Option.join_none, Option.map_some, Bool.and_true, Bool.true_and, Bool.and_false, Bool.false_and, Bool.not_true, Bool.not_false, Bool.false_eq_true, Bool.true_eq_false, if_true, if_false, ite_true, ite_false, List.cons_append, List.nil_append, List.append_nil, Nat.zero_add, Nat.reduceAdd, Nat.reduceSub, Nat.reduceLeDiff, Int.reduceNeg, List.replicate_succ, List.replicate_zero, true_and, and_true, List.length_map, and_pu, or_pu, tand_pu, tor_pu, idx_0, idx_1, if_tt, if_ff, dSl, dNo, dSo, slD, imm_cD, imm_wD, intsD, sAppIx, sExt, sApp, lsD, sFor, seq_sD, eq_str, ne_str, eq_int, ne_int, nc0, nc1, nc2, nc3, nc4, decide_true, decide_false, ne_eq, not_true_eq_false, Int.reduceEq, not_false_eq_true, Bool.or_false, Bool.or_true, Bool.false_or, Bool.true_or, List.all_cons, List.all_nil, id_eq, cD, idx_int hi, idx_int hj, e]
        exact ⟨_, rfl⟩
    · rintro δ' ⟨x, y, a, b, c, d, rfl⟩ hc
      have e : holdsB ws cs ss = true := (holds_iff2 hl).mpr ⟨hw, fun c hm => by
        obtain ⟨i, hi⟩ := List.mem_iff_getElem?.mp hm
        obtain ⟨c', hc', e⟩ := hc i (by rw [List.length_map]; exact (List.getElem?_eq_some_iff.mp hi).1)
        rw [hi] at hc'
        cases hc'
        exact e⟩
      simp (decide := true) (implicitDefEqProofs := false) only [bodyD, env0, sSeq, thenF, sIf, sRet, sRetN, sRetV, sSet, sSetN, sExpr, sNil, sAsg, sPar, resD, dV, dC, dOp, dUn, dNot, dAnd, dOr, dNotT, dAndT, dOrT, dB, dIf, dChain, dTup, dCons, dNil, dLst, dLstB, dCB, dCall, dCallK, dImm, dYes, a1, a2, bTup, bLst, bCons, bNil, bName, fSeq, seqOf, fRng1, fRng2, fEn, fZip, zip2, one1, ints1, ints2, asB, asI, negD, addD, subD, modD, ltD, gtD, geD, leD, isND, isnND, intOp, intOpC, lenD_lst, lenD_tup, lenD_frz, len_sD, tupleD, listD, absD, max2D, min2D, allD, isiD, tyN, isiT_tt, isiT_ii, isiT_ib, idxD, lsA, gw, gt, opt_some, opt_none, bd_pu, bd_fl, bd_bd, chk_true, chk_tt, D.imm, D.imms, D.isN, List.map_cons, List.map_nil, List.length_cons, List.length_nil, List.set_cons_zero, List.set_cons_succ, List.getElem?_cons_zero, List.getElem?_cons_succ, List.getElem?_nil, Option.bind_some, Option.bind_none, Option.join_some, Option.join_none, Option.map_some, Bool.and_true, Bool.true_and, Bool.and_false, Bool.false_and, Bool.not_true, Bool.not_false, Bool.false_eq_true, Bool.true_eq_false, if_true, if_false, ite_true, ite_false, List.cons_append, List.nil_append, List.append_nil, Nat.zero_add, Nat.reduceAdd, Nat.reduceSub, Nat.reduceLeDiff, Int.reduceNeg, List.replicate_succ, List.replicate_zero, true_and, and_true, List.length_map, and_pu, or_pu, tand_pu, tor_pu, idx_0, idx_1, if_tt, if_ff, dSl, dNo, dSo, slD, imm_cD, imm_wD, intsD, sAppIx, sExt, sApp, lsD, sFor, seq_sD, eq_str, ne_str, eq_int, ne_int, nc0, nc1, nc2, nc3, nc4, decide_true, decide_false, ne_eq, not_true_eq_false, Int.reduceEq, not_false_eq_true, Bool.or_false, Bool.or_true, Bool.false_or, Bool.true_or, List.all_cons, List.all_nil, id_eq, e]
    · intro i δ' hi np _
      have hi' : i < cs.length := by simpa using hi
      have e : holdsB ws cs ss = false := bl_false fun z => np ⟨_, List.getElem?_eq_getElem hi', ((holds_iff2 hl).mp z).2 _ (List.getElem_mem hi')⟩
      simp (decide := true) (implicitDefEqProofs := false) only [bodyD, env0, sSeq, thenF, sIf, sRet, sRetN, sRetV, sSet, sSetN, sExpr, sNil, sAsg, sPar, resD, dV, dC, dOp, dUn, dNot, dAnd, dOr, dNotT, dAndT, dOrT, dB, dIf, dChain, dTup, dCons, dNil, dLst, dLstB, dCB, dCall, dCallK, dImm, dYes, a1, a2, bTup, bLst, bCons, bNil, bName, fSeq, seqOf, fRng1, fRng2, fEn, fZip, zip2, one1, ints1, ints2, asB, asI, negD, addD, subD, modD, ltD, gtD, geD, leD, isND, isnND, intOp, intOpC, lenD_lst, lenD_tup, lenD_frz, len_sD, tupleD, listD, absD, max2D, min2D, allD, isiD, tyN, isiT_tt, isiT_ii, isiT_ib, idxD, lsA, gw, gt, opt_some, opt_none, bd_pu, bd_fl, bd_bd, chk_true, chk_tt, D.imm, D.imms, D.isN, List.map_cons, List.map_nil, List.length_cons, List.length_nil, List.set_cons_zero, List.set_cons_succ, List.getElem?_cons_zero, List.getElem?_cons_succ, List.getElem?_nil, Option.bind_some, Option.bind_none, Option.join_some, Option.join_none, Option.map_some, Bool.and_true, Bool.true_and, Bool.and_false, Bool.false_and, Bool.not_true, Bool.not_false, Bool.false_eq_true, Bool.true_eq_false, if_true, if_false, ite_true, ite_false, List.cons_append, List.nil_append, List.append_nil, Nat.zero_add, Nat.reduceAdd, Nat.reduceSub, Nat.reduceLeDiff, Int.reduceNeg, List.replicate_succ, List.replicate_zero, true_and, and_true, List.length_map, and_pu, or_pu, tand_pu, tor_pu, idx_0, idx_1, if_tt, if_ff, dSl, dNo, dSo, slD, imm_cD, imm_wD, intsD, sAppIx, sExt, sApp, lsD, sFor, seq_sD, eq_str, ne_str, eq_int, ne_int, nc0, nc1, nc2, nc3, nc4, decide_true, decide_false, ne_eq, not_true_eq_false, Int.reduceEq, not_false_eq_true, Bool.or_false, Bool.or_true, Bool.false_or, Bool.true_or, List.all_cons, List.all_nil, id_eq, e]
  · intro i δ' hi np _
    rw [zipD_len2 hl] at hi
    have e : holdsB ws cs ss = false := bl_false fun z => np (((holds_iff2 hl).mp z).1 i hi)
    simp (decide := true) (implicitDefEqProofs := false) only [bodyD, env0, sSeq, thenF, sIf, sRet, sRetN, sRetV, sSet, sSetN, sExpr, sNil, sAsg, sPar, resD, dV, dC, dOp, dUn, dNot, dAnd, dOr, dNotT, dAndT, dOrT, dB, dIf, dChain, dTup, dCons, dNil, dLst, dLstB, dCB, dCall, dCallK, dImm, dYes, a1, a2, bTup, bLst, bCons, bNil, bName, fSeq, seqOf, fRng1, fRng2, fEn, fZip, zip2, one1, ints1, ints2, asB, asI, negD, addD, subD, modD, ltD, gtD, geD, leD, isND, isnND, intOp, intOpC, lenD_lst, lenD_tup, lenD_frz, len_sD, tupleD, listD, absD, max2D, min2D, allD, isiD, tyN, isiT_tt, isiT_ii, isiT_ib, idxD, lsA, gw, gt, opt_some, opt_none, bd_pu, bd_fl, bd_bd, chk_true, chk_tt, D.imm, D.imms, D.isN, List.map_cons, List.map_nil, List.length_cons, List.length_nil, List.set_cons_zero, List.set_cons_succ, List.getElem?_cons_zero, List.getElem?_cons_succ, List.getElem?_nil, Option.bind_some, Option.bind_none, Option.join_some, Option.join_none, Option.map_some, Bool.and_true, Bool.true_and, Bool.and_false, Bool.false_and, Bool.not_true, Bool.not_false, Bool.false_eq_true, Bool.true_eq_false, if_true, if_false, ite_true, ite_false, List.cons_append, List.nil_append, List.append_nil, Nat.zero_add, Nat.reduceAdd, Nat.reduceSub, Nat.reduceLeDiff, Int.reduceNeg, List.replicate_succ, List.replicate_zero, true_and, and_true, List.length_map, and_pu, or_pu, tand_pu, tor_pu, idx_0, idx_1, if_tt, if_ff, dSl, dNo, dSo, slD, imm_cD, imm_wD, intsD, sAppIx, sExt, sApp, lsD, sFor, seq_sD, eq_str, ne_str, eq_int, ne_int, nc0, nc1, nc2, nc3, nc4, decide_true, decide_false, ne_eq, not_true_eq_false, Int.reduceEq, not_false_eq_true, Bool.or_false, Bool.or_true, Bool.false_or, Bool.true_or, List.all_cons, List.all_nil, id_eq, e]
/-- what may be done next -/
def rdy (ws : List (Int × Int)) (cs : List Cp) (ss : List Int) : List (Nat × Int) := stA (fun w g => holdsB ws cs (mvd ss w g)) ws.length
theorem e_ready {ws : List (Int × Int)} {cs : List Cp} {ss : List Int} (V : VY ws cs) (hl : ss.length = ws.length) : F__law_ready [yD ws cs, sD ss] = pu (.lst ((rdy ws cs ss).map pD)) := by
  unfold F__law_ready g__law_ready
  have hn : -(2 ^ 62) ≤ ((ws.length : Nat) : Int) ∧ ((ws.length : Nat) : Int) < 2 ^ 62 := by have := V.n40; omega
  simp (decide := true) (implicitDefEqProofs := false) only [bodyD, env0, sSeq, thenF, sIf, sRet, sRetN, sRetV, sSet, sSetN, sExpr, sNil, sAsg, sPar, resD, dV, dC, dOp, dUn, dNot, dAnd, dOr, dNotT, dAndT, dOrT, dB, dIf, dChain, dTup, dCons, dNil, dLst, dLstB, dCB, dCall, dCallK, dImm, dYes, a1, a2, bTup, bLst, bCons, bNil, bName, fSeq, seqOf, fRng1, fRng2, fEn, fZip, zip2, one1, ints1, ints2, asB, asI, negD, addD, subD, modD, ltD, gtD, geD, leD, isND, isnND, intOp, intOpC, lenD_lst, lenD_tup, lenD_frz, len_sD, tupleD, listD, absD, max2D, min2D, allD, isiD, tyN, isiT_tt, isiT_ii, isiT_ib, idxD, lsA, gw, gt, opt_some, opt_none, bd_pu, bd_fl, bd_bd, chk_true, chk_tt, D.imm, D.imms, D.isN, List.map_cons, List.map_nil, List.length_cons, List.length_nil, List.set_cons_zero, List.set_cons_succ, List.getElem?_cons_zero, List.getElem?_cons_succ, List.getElem?_nil, Option.bind_some, Option.bind_none, Option.join_some, Option.join_none, Option.map_some, Bool.and_true, Bool.true_and, Bool.and_false, Bool.false_and, Bool.not_true, Bool.not_false, Bool.false_eq_true, Bool.true_eq_false, if_true, if_false, ite_true, ite_false, List.cons_append, List.nil_append, List.append_nil, Nat.zero_add, Nat.reduceAdd, Nat.reduceSub, Nat.reduceLeDiff, Int.reduceNeg, List.replicate_succ, List.replicate_zero, true_and, and_true, List.length_map, and_pu, or_pu, tand_pu, tor_pu, idx_0, idx_1, if_tt, if_ff, dSl, dNo, dSo, slD, imm_cD, imm_wD, intsD, sAppIx, sExt, sApp, lsD, sFor, seq_sD, eq_str, ne_str, eq_int, ne_int, nc0, nc1, nc2, nc3, nc4, decide_true, decide_false, ne_eq, not_true_eq_false, Int.reduceEq, not_false_eq_true, Bool.or_false, Bool.or_true, Bool.false_or, Bool.true_or, List.all_cons, List.all_nil, id_eq]
  simp (decide := true) (implicitDefEqProofs := false) only [bodyD, env0, sSeq, thenF, sIf, sRet, sRetN, sRetV, sSet, sSetN, sExpr, sNil, sAsg, sPar, resD, dV, dC, dOp, dUn, dNot, dAnd, dOr, dNotT, dAndT, dOrT, dB, dIf, dChain, dTup, dCons, dNil, dLst, dLstB, dCB, dCall, dCallK, dImm, dYes, a1, a2, bTup, bLst, bCons, bNil, bName, fSeq, seqOf, fRng1, fRng2, fEn, fZip, zip2, one1, ints1, ints2, asB, asI, negD, addD, subD, modD, ltD, gtD, geD, leD, isND, isnND, intOp, intOpC, lenD_lst, lenD_tup, lenD_frz, len_sD, tupleD, listD, absD, max2D, min2D, allD, isiD, tyN, isiT_tt, isiT_ii, isiT_ib, idxD, lsA, gw, gt, opt_some, opt_none, bd_pu, bd_fl, bd_bd, chk_true, chk_tt, D.imm, D.imms, D.isN, List.map_cons, List.map_nil, List.length_cons, List.length_nil, List.set_cons_zero, List.set_cons_succ, List.getElem?_cons_zero, List.getElem?_cons_succ, List.getElem?_nil, Option.bind_some, Option.bind_none, Option.join_some, Option.join_none, Option.map_some, Bool.and_true, Bool.true_and, Bool.and_false, Bool.false_and, Bool.not_true, Bool.not_false, Bool.false_eq_true, Bool.true_eq_false, if_true, if_false, ite_true, ite_false, List.cons_append, List.nil_append, List.append_nil, Nat.zero_add, Nat.reduceAdd, Nat.reduceSub, Nat.reduceLeDiff, Int.reduceNeg, List.replicate_succ, List.replicate_zero, true_and, and_true, List.length_map, and_pu, or_pu, tand_pu, tor_pu, idx_0, idx_1, if_tt, if_ff, dSl, dNo, dSo, slD, imm_cD, imm_wD, intsD, sAppIx, sExt, sApp, lsD, sFor, seq_sD, eq_str, ne_str, eq_int, ne_int, nc0, nc1, nc2, nc3, nc4, decide_true, decide_false, ne_eq, not_true_eq_false, Int.reduceEq, not_false_eq_true, Bool.or_false, Bool.or_true, Bool.false_or, Bool.true_or, List.all_cons, List.all_nil, id_eq, hl, chk_pos hn, Int.toNat_natCast]
  refine bd_for (fun i δ => ∃ x y : Option D, δ = [some (yD ws cs), some (sD ss), some (.lst ((stA (fun w g => holdsB ws cs (mvd ss w g)) i).map pD)), x, y]) ⟨none, none, rfl⟩ ?_ ?_
  · rintro i d δ hd ⟨x, y, rfl⟩
    obtain ⟨hi, rfl⟩ := rngD_at hd
    have hi' : i < ss.length := by omega
    simp (decide := true) (implicitDefEqProofs := false) only [bodyD, env0, sSeq, thenF, sIf, sRet, sRetN, sRetV, sSet, sSetN, sExpr, sNil, sAsg, sPar, resD, dV, dC, dOp, dUn, dNot, dAnd, dOr, dNotT, dAndT, dOrT, dB, dIf, dChain, dTup, dCons, dNil, dLst, dLstB, dCB, dCall, dCallK, dImm, dYes, a1, a2, bTup, bLst, bCons, bNil, bName, fSeq, seqOf, fRng1, fRng2, fEn, fZip, zip2, one1, ints1, ints2, asB, asI, negD, addD, subD, modD, ltD, gtD, geD, leD, isND, isnND, intOp, intOpC, lenD_lst, lenD_tup, lenD_frz, len_sD, tupleD, listD, absD, max2D, min2D, allD, isiD, tyN, isiT_tt, isiT_ii, isiT_ib, idxD, lsA, gw, gt, opt_some, opt_none, bd_pu, bd_fl, bd_bd, chk_true, chk_tt, D.imm, D.imms, D.isN, List.map_cons, List.map_nil, List.length_cons, List.length_nil, List.set_cons_zero, List.set_cons_succ, List.getElem?_cons_zero, List.getElem?_cons_succ, List.getElem?_nil, Option.bind_some, Option.bind_none, Option.join_some, Option.join_none, Option.map_some, Bool.and_true, Bool.true_and, Bool.and_false, Bool.false_and, Bool.not_true, Bool.not_false, Bool.false_eq_true, Bool.true_eq_false, if_true, if_false, ite_true, ite_false, List.cons_append, List.nil_append, List.append_nil, Nat.zero_add, Nat.reduceAdd, Nat.reduceSub, Nat.reduceLeDiff, Int.reduceNeg, List.replicate_succ, List.replicate_zero, true_and, and_true, List.length_map, and_pu, or_pu, tand_pu, tor_pu, idx_0, idx_1, if_tt, if_ff, dSl, dNo, dSo, slD, imm_cD, imm_wD, intsD, sAppIx, sExt, sApp, lsD, sFor, seq_sD, eq_str, ne_str, eq_int, ne_int, nc0, nc1, nc2, nc3, nc4, decide_true, decide_false, ne_eq, not_true_eq_false, Int.reduceEq, not_false_eq_true, Bool.or_false, Bool.or_true, Bool.false_or, Bool.true_or, List.all_cons, List.all_nil, id_eq, dLc, wipeE]
    rw [lc_pick (onI (fun g => holdsB ws cs (mvd ss i g))) (fun d => .tup [.int i, d]) [D.int (-1), D.int 1] [] (by exact small (show 0 + 2 ≤ 1000 by decide)) (fun d q => by
      obtain ⟨g, rfl⟩ : ∃ g, d = .int g := by
        simp only [List.mem_cons, List.not_mem_nil, or_false] at q
        rcases q with rfl | rfl
        · exact ⟨_, rfl⟩
        · exact ⟨_, rfl⟩
      refine ⟨_, by simp (decide := true) (implicitDefEqProofs := false) only [bodyD, env0, sSeq, thenF, sIf, sRet, sRetN, sRetV, sSet, sSetN, sExpr, sNil, sAsg, sPar, resD, dV, dC, dOp, dUn, dNot, dAnd, dOr, dNotT, dAndT, dOrT, dB, dIf, dChain, dTup, dCons, dNil, dLst, dLstB, dCB, dCall, dCallK, dImm, dYes, a1, a2, bTup, bLst, bCons, bNil, bName, fSeq, seqOf, fRng1, fRng2, fEn, fZip, zip2, one1, ints1, ints2, asB, asI, negD, addD, subD, modD, ltD, gtD, geD, leD, isND, isnND, intOp, intOpC, lenD_lst, lenD_tup, lenD_frz, len_sD, tupleD, listD, absD, max2D, min2D, allD, isiD, tyN, isiT_tt, isiT_ii, isiT_ib, idxD, lsA, gw, gt, opt_some, opt_none, bd_pu, bd_fl, bd_bd, chk_true, chk_tt, D.imm, D.imms, D.isN, List.map_cons, List.map_nil, List.length_cons, List.length_nil, List.set_cons_zero, List.set_cons_succ, List.getElem?_cons_zero, List.getElem?_cons_succ, List.getElem?_nil, Option.bind_some, Option.bind_none, Option.join_some, Option.join_none, Option.map_some, Bool.and_true, Bool.true_and, Bool.and_false, Bool.false_and, Bool.not_true, Bool.not_false, Bool.false_eq_true, Bool.true_eq_false, if_true, if_false, ite_true, ite_false, List.cons_append, List.nil_append, List.append_nil, Nat.zero_add, Nat.reduceAdd, Nat.reduceSub, Nat.reduceLeDiff, Int.reduceNeg, List.replicate_succ, List.replicate_zero, true_and, and_true, List.length_map, and_pu, or_pu, tand_pu, tor_pu, idx_0, idx_1, if_tt, if_ff, dSl, dNo, dSo, slD, imm_cD, imm_wD, intsD, sAppIx, sExt, sApp, lsD, sFor, seq_sD, eq_str, ne_str, eq_int, ne_int, nc0, nc1, nc2, nc3, nc4, decide_true, decide_false, ne_eq, not_true_eq_false, Int.reduceEq, not_false_eq_true, Bool.or_false, Bool.or_true, Bool.false_or, Bool.true_or, List.all_cons, List.all_nil, id_eq]; rfl, ?_, fun _ => ⟨?_, rfl⟩⟩
      · simp (decide := true) (implicitDefEqProofs := false) only [bodyD, env0, sSeq, thenF, sIf, sRet, sRetN, sRetV, sSet, sSetN, sExpr, sNil, sAsg, sPar, resD, dV, dC, dOp, dUn, dNot, dAnd, dOr, dNotT, dAndT, dOrT, dB, dIf, dChain, dTup, dCons, dNil, dLst, dLstB, dCB, dCall, dCallK, dImm, dYes, a1, a2, bTup, bLst, bCons, bNil, bName, fSeq, seqOf, fRng1, fRng2, fEn, fZip, zip2, one1, ints1, ints2, asB, asI, negD, addD, subD, modD, ltD, gtD, geD, leD, isND, isnND, intOp, intOpC, lenD_lst, lenD_tup, lenD_frz, len_sD, tupleD, listD, absD, max2D, min2D, allD, isiD, tyN, isiT_tt, isiT_ii, isiT_ib, idxD, lsA, gw, gt, opt_some, opt_none, bd_pu, bd_fl, bd_bd, chk_true, chk_tt, D.imm, D.imms, D.isN, List.map_cons, List.map_nil, List.length_cons, List.length_nil, List.set_cons_zero, List.set_cons_succ, List.getElem?_cons_zero, List.getElem?_cons_succ, List.getElem?_nil, Option.bind_some, Option.bind_none, Option.join_some, Option.join_none, Option.map_some, Bool.and_true, Bool.true_and, Bool.and_false, Bool.false_and, Bool.not_true, Bool.not_false, Bool.false_eq_true, Bool.true_eq_false, if_true, if_false, ite_true, ite_false, List.cons_append, List.nil_append, List.append_nil, Nat.zero_add, Nat.reduceAdd, Nat.reduceSub, Nat.reduceLeDiff, Int.reduceNeg, List.replicate_succ, List.replicate_zero, true_and, and_true, List.length_map, and_pu, or_pu, tand_pu, tor_pu, idx_0, idx_1, if_tt, if_ff, dSl, dNo, dSo, slD, imm_cD, imm_wD, intsD, sAppIx, sExt, sApp, lsD, sFor, seq_sD, eq_str, ne_str, eq_int, ne_int, nc0, nc1, nc2, nc3, nc4, decide_true, decide_false, ne_eq, not_true_eq_false, Int.reduceEq, not_false_eq_true, Bool.or_false, Bool.or_true, Bool.false_or, Bool.true_or, List.all_cons, List.all_nil, id_eq, e_moved hi' (by rw [hl]; exact V.n40), e_holds V (show (mvd ss i g).length = ws.length by unfold mvd; rw [List.length_set, hl]), onI_int]
      · simp (decide := true) (implicitDefEqProofs := false) only [bodyD, env0, sSeq, thenF, sIf, sRet, sRetN, sRetV, sSet, sSetN, sExpr, sNil, sAsg, sPar, resD, dV, dC, dOp, dUn, dNot, dAnd, dOr, dNotT, dAndT, dOrT, dB, dIf, dChain, dTup, dCons, dNil, dLst, dLstB, dCB, dCall, dCallK, dImm, dYes, a1, a2, bTup, bLst, bCons, bNil, bName, fSeq, seqOf, fRng1, fRng2, fEn, fZip, zip2, one1, ints1, ints2, asB, asI, negD, addD, subD, modD, ltD, gtD, geD, leD, isND, isnND, intOp, intOpC, lenD_lst, lenD_tup, lenD_frz, len_sD, tupleD, listD, absD, max2D, min2D, allD, isiD, tyN, isiT_tt, isiT_ii, isiT_ib, idxD, lsA, gw, gt, opt_some, opt_none, bd_pu, bd_fl, bd_bd, chk_true, chk_tt, D.imm, D.imms, D.isN, List.map_cons, List.map_nil, List.length_cons, List.length_nil, List.set_cons_zero, List.set_cons_succ, List.getElem?_cons_zero, List.getElem?_cons_succ, List.getElem?_nil, Option.bind_some, Option.bind_none, Option.join_some, Option.join_none, Option.map_some, Bool.and_true, Bool.true_and, Bool.and_false, Bool.false_and, Bool.not_true, Bool.not_false, Bool.false_eq_true, Bool.true_eq_false, if_true, if_false, ite_true, ite_false, List.cons_append, List.nil_append, List.append_nil, Nat.zero_add, Nat.reduceAdd, Nat.reduceSub, Nat.reduceLeDiff, Int.reduceNeg, List.replicate_succ, List.replicate_zero, true_and, and_true, List.length_map, and_pu, or_pu, tand_pu, tor_pu, idx_0, idx_1, if_tt, if_ff, dSl, dNo, dSo, slD, imm_cD, imm_wD, intsD, sAppIx, sExt, sApp, lsD, sFor, seq_sD, eq_str, ne_str, eq_int, ne_int, nc0, nc1, nc2, nc3, nc4, decide_true, decide_false, ne_eq, not_true_eq_false, Int.reduceEq, not_false_eq_true, Bool.or_false, Bool.or_true, Bool.false_or, Bool.true_or, List.all_cons, List.all_nil, id_eq])]
    rw [stW_D (fun w g => holdsB ws cs (mvd ss w g)) i]
    have hz : (stA (fun w g => holdsB ws cs (mvd ss w g)) i).length + (stW (fun w g => holdsB ws cs (mvd ss w g)) i).length ≤ sizeLine := by
      have h1 := stA_len (fun w g => holdsB ws cs (mvd ss w g)) i
      have h2 := stW_len (fun w g => holdsB ws cs (mvd ss w g)) i
      have h3 := V.n40
      exact Nat.le_trans (show _ ≤ 1000 by omega) (by decide)
    simp (decide := true) (implicitDefEqProofs := false) only [bodyD, env0, sSeq, thenF, sIf, sRet, sRetN, sRetV, sSet, sSetN, sExpr, sNil, sAsg, sPar, resD, dV, dC, dOp, dUn, dNot, dAnd, dOr, dNotT, dAndT, dOrT, dB, dIf, dChain, dTup, dCons, dNil, dLst, dLstB, dCB, dCall, dCallK, dImm, dYes, a1, a2, bTup, bLst, bCons, bNil, bName, fSeq, seqOf, fRng1, fRng2, fEn, fZip, zip2, one1, ints1, ints2, asB, asI, negD, addD, subD, modD, ltD, gtD, geD, leD, isND, isnND, intOp, intOpC, lenD_lst, lenD_tup, lenD_frz, len_sD, tupleD, listD, absD, max2D, min2D, allD, isiD, tyN, isiT_tt, isiT_ii, isiT_ib, idxD, lsA, gw, gt, opt_some, opt_none, bd_pu, bd_fl, bd_bd, chk_true, chk_tt, D.imm, D.imms, D.isN, List.map_cons, List.map_nil, List.length_cons, List.length_nil, List.set_cons_zero, List.set_cons_succ, List.getElem?_cons_zero, List.getElem?_cons_succ, List.getElem?_nil, Option.bind_some, Option.bind_none, Option.join_some, Option.join_none, Option.map_some, Bool.and_true, Bool.true_and, Bool.and_false, Bool.false_and, Bool.not_true, Bool.not_false, Bool.false_eq_true, Bool.true_eq_false, if_true, if_false, ite_true, ite_false, List.cons_append, List.nil_append, List.append_nil, Nat.zero_add, Nat.reduceAdd, Nat.reduceSub, Nat.reduceLeDiff, Int.reduceNeg, List.replicate_succ, List.replicate_zero, true_and, and_true, List.length_map, and_pu, or_pu, tand_pu, tor_pu, idx_0, idx_1, if_tt, if_ff, dSl, dNo, dSo, slD, imm_cD, imm_wD, intsD, sAppIx, sExt, sApp, lsD, sFor, seq_sD, eq_str, ne_str, eq_int, ne_int, nc0, nc1, nc2, nc3, nc4, decide_true, decide_false, ne_eq, not_true_eq_false, Int.reduceEq, not_false_eq_true, Bool.or_false, Bool.or_true, Bool.false_or, Bool.true_or, List.all_cons, List.all_nil, id_eq, imms_pD, hz]
    rw [← List.map_append, ← stA_succ]
    exact ⟨_, rfl, _, _, rfl⟩
  · rintro δ' ⟨x, y, rfl⟩
    rw [rngD_len]
    simp (decide := true) (implicitDefEqProofs := false) only [bodyD, env0, sSeq, thenF, sIf, sRet, sRetN, sRetV, sSet, sSetN, sExpr, sNil, sAsg, sPar, resD, dV, dC, dOp, dUn, dNot, dAnd, dOr, dNotT, dAndT, dOrT, dB, dIf, dChain, dTup, dCons, dNil, dLst, dLstB, dCB, dCall, dCallK, dImm, dYes, a1, a2, bTup, bLst, bCons, bNil, bName, fSeq, seqOf, fRng1, fRng2, fEn, fZip, zip2, one1, ints1, ints2, asB, asI, negD, addD, subD, modD, ltD, gtD, geD, leD, isND, isnND, intOp, intOpC, lenD_lst, lenD_tup, lenD_frz, len_sD, tupleD, listD, absD, max2D, min2D, allD, isiD, tyN, isiT_tt, isiT_ii, isiT_ib, idxD, lsA, gw, gt, opt_some, opt_none, bd_pu, bd_fl, bd_bd, chk_true, chk_tt, D.imm, D.imms, D.isN, List.map_cons, List.map_nil, List.length_cons, List.length_nil, List.set_cons_zero, List.set_cons_succ, List.getElem?_cons_zero, List.getElem?_cons_succ, List.getElem?_nil, Option.bind_some, Option.bind_none, Option.join_some, Option.join_none, Option.map_some, Bool.and_true, Bool.true_and, Bool.and_false, Bool.false_and, Bool.not_true, Bool.not_false, Bool.false_eq_true, Bool.true_eq_false, if_true, if_false, ite_true, ite_false, List.cons_append, List.nil_append, List.append_nil, Nat.zero_add, Nat.reduceAdd, Nat.reduceSub, Nat.reduceLeDiff, Int.reduceNeg, List.replicate_succ, List.replicate_zero, true_and, and_true, List.length_map, and_pu, or_pu, tand_pu, tor_pu, idx_0, idx_1, if_tt, if_ff, dSl, dNo, dSo, slD, imm_cD, imm_wD, intsD, sAppIx, sExt, sApp, lsD, sFor, seq_sD, eq_str, ne_str, eq_int, ne_int, nc0, nc1, nc2, nc3, nc4, decide_true, decide_false, ne_eq, not_true_eq_false, Int.reduceEq, not_false_eq_true, Bool.or_false, Bool.or_true, Bool.false_or, Bool.true_or, List.all_cons, List.all_nil, id_eq]
    rfl
end DC
namespace DC
open PySem L2 DL CY
theorem mem_stA {f : Nat → Int → Bool} {n v : Nat} {g : Int} : (v, g) ∈ stA f n ↔ v < n ∧ (g = -1 ∨ g = 1) ∧ f v g = true := by
  unfold stA stW
  simp only [List.mem_flatten, List.mem_map, List.mem_range]
  constructor
  · rintro ⟨l, ⟨w, hw, rfl⟩, h⟩
    obtain ⟨x, hx, e⟩ := List.mem_map.mp h
    obtain ⟨h1, h2⟩ := List.mem_filter.mp hx
    cases e
    exact ⟨hw, by simpa using h1, h2⟩
  · rintro ⟨h1, h2, h3⟩
    exact ⟨_, ⟨v, h1, rfl⟩, List.mem_map.mpr ⟨g, List.mem_filter.mpr ⟨by simpa using h2, h3⟩, rfl⟩⟩
theorem stA_congr {f f' : Nat → Int → Bool} {n : Nat} (h : ∀ w, w < n → ∀ g, g = -1 ∨ g = 1 → f w g = f' w g) : stA f n = stA f' n := by
  unfold stA
  congr 1
  refine List.map_congr_left fun w hw => ?_
  unfold stW
  congr 1
  refine List.filter_congr fun g hg => h w (List.mem_range.mp hw) g (by simpa using hg)
theorem rdy_eq {ws : List (Int × Int)} {cs : List Cp} {ss : List Int} (V : VY ws cs) (S : VS ws cs ss) : rdy ws cs ss = stA (canB ws cs ss) ws.length := stA_congr fun w hw g hg => (can_iff V S hw hg).symm
/-! ### membership of pairs -/
def pP (p : Nat × Int) : PyData := .tuple [.int p.1, .int p.2]
theorem py_pD (p : Nat × Int) : (pD p).py = some (pP p) := rfl
theorem pys_pD : ∀ l : List (Nat × Int), D.pys (l.map pD) = some (l.map pP)
  | [] => rfl
  | p :: l => by simp [D.pys, py_pD, pys_pD l]
theorem eqv_pP (p q : Nat × Int) : PyData.eqv (pP p) (pP q) = decide (p = q) := by
  rw [Bool.eq_iff_iff]
  obtain ⟨a, b⟩ := p
  obtain ⟨c, d⟩ := q
  simp only [pP, PyData.eqv, PyData.eqvAll, Bool.and_true, Bool.and_eq_true, decide_eq_true_eq, Prod.mk.injEq]
  simp only [beq_iff_eq]
  omega
theorem lay_pP : ∀ l : List (Nat × Int), PyData.canLayAll0 (l.map pP) = true
  | [] => rfl
  | p :: l => by simp [PyData.canLayAll0, lay_pP l, pP, PyData.canLay0]
theorem dep_pP : ∀ l : List (Nat × Int), PyData.depthAll (l.map pP) ≤ 1
  | [] => Nat.zero_le _
  | p :: l => by
    have := dep_pP l
    simp only [List.map_cons, PyData.depthAll]
    have e : (pP p).depth = 1 := rfl
    omega
theorem e_in (p : Nat × Int) (l : List (Nat × Int)) : inLD (pD p) (.lst (l.map pD)) = pu (.bl (decide (p ∈ l))) := by
  unfold inLD inD
  have e : (D.lst (l.map pD)).py.bind pyL = some (l.map pP) := by simp [D.py, pys_pD, pyL]
  have hs : SeqAt.shaped (.list (l.map pP)) = true := by
    have := dep_pP l
    exact Bool.and_eq_true_iff.mpr ⟨lay_pP l, decide_eq_true (by show PyData.depthAll (l.map pP) + 1 ≤ 64; omega)⟩
  rw [py_pD, opt_some, e, opt_some, chk_pos ⟨rfl, hs⟩]
  · congr 2
    rw [Bool.eq_iff_iff, List.any_map, List.any_eq_true, decide_eq_true_eq]
    constructor
    · rintro ⟨q, hq, h⟩
      have h' : PyData.eqv (pP q) (pP p) = true := h
      rw [eqv_pP] at h'
      rw [← of_decide_eq_true h']
      exact hq
    · intro h
      exact ⟨p, h, by show PyData.eqv (pP p) (pP p) = true; rw [eqv_pP]; simp⟩
/-! ### sizes -/
theorem rok_ints {l : List Int} (h : ∀ i ∈ l, i.natAbs < 10 ^ 30) : roks (l.map D.int) = true := by
  induction l with
  | nil => rfl
  | cons a l ih =>
    simp only [List.map_cons, roks, Bool.and_eq_true]
    exact ⟨by simp only [rok, decide_eq_true_eq]; exact h a List.mem_cons_self, ih fun i hi => h i (List.mem_cons_of_mem _ hi)⟩
theorem rok_wD {ws : List (Int × Int)} (h : ∀ w ∈ ws, -1000000000 ≤ w.1 ∧ w.1 ≤ w.2 ∧ w.2 ≤ 1000000000) : roks (ws.map wD) = true := by
  induction ws with
  | nil => rfl
  | cons a l ih =>
    obtain ⟨h1, h2, h3⟩ := h a List.mem_cons_self
    simp only [List.map_cons, roks, Bool.and_eq_true]
    refine ⟨?_, ih fun i hi => h i (List.mem_cons_of_mem _ hi)⟩
    simp only [wD, rok, roks, Bool.and_true, Bool.and_eq_true, decide_eq_true_eq]
    omega
theorem rok_cD {cs : List Cp} (h : ∀ c ∈ cs, c.i < c.j ∧ c.j < 1000 ∧ -10000000000 ≤ c.lo ∧ c.lo < c.hi ∧ c.hi ≤ 10000000000) : roks (cs.map cD) = true := by
  induction cs with
  | nil => rfl
  | cons a l ih =>
    obtain ⟨h1, h2, h3, h4, h5⟩ := h a List.mem_cons_self
    simp only [List.map_cons, roks, Bool.and_eq_true]
    refine ⟨?_, ih fun i hi => h i (List.mem_cons_of_mem _ hi)⟩
    simp only [cD, rok, roks, Bool.and_true, Bool.and_eq_true, decide_eq_true_eq]
    omega
theorem rok_pD {l : List (Nat × Int)} (h : ∀ p ∈ l, p.1 < 1000 ∧ (p.2 = -1 ∨ p.2 = 1)) : roks (l.map pD) = true := by
  induction l with
  | nil => rfl
  | cons a l ih =>
    obtain ⟨h1, h2⟩ := h a List.mem_cons_self
    simp only [List.map_cons, roks, Bool.and_eq_true]
    refine ⟨?_, ih fun i hi => h i (List.mem_cons_of_mem _ hi)⟩
    simp only [pD, rok, roks, Bool.and_true, Bool.and_eq_true, decide_eq_true_eq]
    omega
theorem wts_map {α : Type} (f : α → D) (k : Nat) (hf : ∀ a, wt (f a) ≤ k) : ∀ l : List α, wts (l.map f) ≤ (k + 1) * l.length
  | [] => Nat.zero_le _
  | a :: l => by
    have h1 := hf a
    have h2 := wts_map f k hf l
    simp only [List.map_cons, wts, List.length_cons]
    rw [Nat.mul_succ]
    omega
theorem dpts_map {α : Type} (f : α → D) (k : Nat) (hf : ∀ a, dpt (f a) ≤ k) : ∀ l : List α, dpts (l.map f) ≤ k
  | [] => Nat.zero_le _
  | a :: l => by
    have h1 := hf a
    have h2 := dpts_map f k hf l
    simp only [List.map_cons, dpts]
    omega
theorem r_lot {ws : List (Int × Int)} {cs : List Cp} {ss : List Int} (V : VY ws cs) (S : VS ws cs ss) : reprD (.lst [yD ws cs, sD ss]) = pu (.str (shD (.lst [yD ws cs, sD ss]))) := by
  have n40 := V.n40
  have few := V.few
  have hl := S.len
  refine e_repr ?_ ?_ ?_
  · simp only [rok, roks, yD, sD, Bool.and_true, Bool.and_eq_true]
    refine ⟨⟨rok_wD V.wok, rok_cD fun c hc => ?_⟩, rok_ints fun i hi => ?_⟩
    · obtain ⟨h1, h2, h3⟩ := V.cok c hc
      exact ⟨h1, by omega, h3⟩
    · obtain ⟨v, hv⟩ := List.mem_iff_getElem?.mp hi
      have hv' : v < ws.length := by rw [← hl]; exact (List.getElem?_eq_some_iff.mp hv).1
      have e : ss.getD v 0 = i := by rw [List.getD_eq_getElem?_getD, hv]; rfl
      have h1 := S.wal v _ (getW hv')
      have h2 := V.wok _ (List.mem_of_getElem? (getW hv'))
      rw [e] at h1
      omega
  · have h1 := dpts_map wD 1 (fun _ => Nat.le_refl _) ws
    have h2 := dpts_map cD 1 (fun _ => Nat.le_refl _) cs
    have h3 := dpts_map D.int 0 (fun _ => Nat.le_refl _) ss
    simp only [dpt, dpts, yD, sD]
    omega
  · have h1 := wts_map wD 204 (fun _ => Nat.le_refl _) ws
    have h2 := wts_map cD 408 (fun _ => Nat.le_refl _) cs
    have h3 := wts_map D.int 101 (fun _ => Nat.le_refl _) ss
    simp only [wt, wts, yD, sD]
    omega
theorem r_steps {f : Nat → Int → Bool} {n : Nat} (hn : n ≤ 40) : reprD (.lst [.tup ((stA f n).map pD), .tup ((stA f n).map pD)]) = pu (.str (shD (.lst [.tup ((stA f n).map pD), .tup ((stA f n).map pD)]))) := by
  have hl := stA_len f n
  have hr : roks ((stA f n).map pD) = true := rok_pD fun p hp => by
    obtain ⟨h1, h2, _⟩ := mem_stA.mp (show (p.1, p.2) ∈ stA f n from hp)
    exact ⟨by omega, h2⟩
  refine e_repr ?_ ?_ ?_
  · simp only [rok, roks, hr, Bool.and_true]
  · have h1 := dpts_map pD 1 (fun _ => Nat.le_refl _) (stA f n)
    simp only [dpt, dpts]
    omega
  · have h1 := wts_map pD 204 (fun _ => Nat.le_refl _) (stA f n)
    simp only [wt, wts]
    omega
theorem r_bls (b : Bool) : reprD (.lst [.bl b, .bl b]) = pu (.str (shD (.lst [.bl b, .bl b]))) := e_repr rfl (by show (1 : Nat) ≤ 60; decide) (by show (2 : Nat) ≤ 500000; decide)
theorem pick10 (a b : D) : DL.pick [1, 0] [a, b] = [b, a] := rfl
theorem pick210 (a b c : D) : DL.pick [2, 1, 0] [a, b, c] = [c, b, a] := rfl
theorem rep2 (a : D) : (List.replicate (Int.toNat 2) [a]).flatten = [a, a] := rfl
end DC
namespace CY
open PySem L2 DL
/-! ### what may come out -/
def Ens {α : Type} (w : DL.W α) (P : α → Prop) : Prop := ∀ Q X, (∀ a, P a → Q a) → w Q X
theorem Ens.pu {α : Type} {P : α → Prop} {a : α} (h : P a) : Ens (DL.pu a) P := fun Q X k => k a h
theorem Ens.bd {α β : Type} {m : DL.W α} {k : α → DL.W β} {P : α → Prop} {R : β → Prop} (h : Ens m P) (hk : ∀ a, P a → Ens (k a) R) : Ens (DL.bd m k) R := fun Q X q => h _ X fun a pa => hk a pa Q X q
theorem Ens.wk {α : Type} {m : DL.W α} {P R : α → Prop} (h : Ens m P) (s : ∀ a, P a → R a) : Ens m R := fun Q X q => h Q X fun a p => q a (s a p)
theorem Ens.chk {α : Type} {w : DL.W α} {p : Prop} {P : α → Prop} (hp : p) (h : Ens w P) : Ens (DL.chk p w) P := fun Q X q => ⟨hp, h Q X q⟩
theorem Ens.for {h : D → DL.Env → DL.W DL.Env} {g : DL.Env → DL.W (Fl × DL.Env)} (I : Nat → DL.Env → Prop) : ∀ (ds : List D) (δ : DL.Env) (n : Nat), I n δ →
    (∀ i d δ, ds[i]? = some d → I (n + i) δ → Ens (DL.bd (h d δ) g) fun r => ∃ δ', r = (.nx, δ') ∧ I (n + i + 1) δ') → Ens (forW h g ds δ) fun r => ∃ δ', r = (.nx, δ') ∧ I (n + ds.length) δ'
  | [], δ, n, h0, _ => Ens.pu ⟨δ, rfl, h0⟩
  | d :: ds, δ, n, h0, st => by
    rw [forW_cons]
    refine Ens.bd (st 0 d δ rfl h0) ?_
    rintro _ ⟨δ', rfl, h1⟩
    have ih := Ens.for (h := h) (g := g) I ds δ' (n + 1) h1 fun i d' δ2 q hi => by
      have := st (i + 1) d' δ2 (by simpa using q) (by rw [show n + (i + 1) = n + 1 + i by omega]; exact hi)
      rw [show n + (i + 1) = n + 1 + i by omega] at this
      exact this
    rw [List.length_cons, show n + (ds.length + 1) = n + 1 + ds.length by omega]
    exact ih
theorem Ens.bdFor {α : Type} {h : D → DL.Env → DL.W DL.Env} {g : DL.Env → DL.W (Fl × DL.Env)} {ds : List D} {δ : DL.Env} {k : Fl × DL.Env → DL.W α} {P : α → Prop} (I : Nat → DL.Env → Prop) (h0 : I 0 δ)
    (st : ∀ i d δ, ds[i]? = some d → I i δ → Ens (DL.bd (h d δ) g) fun r => ∃ δ', r = (.nx, δ') ∧ I (i + 1) δ') (fin : ∀ δ', I ds.length δ' → Ens (k (.nx, δ')) P) : Ens (DL.bd (forW h g ds δ) k) P := by
  refine Ens.bd (Ens.for I ds δ 0 h0 fun i d δ q hi => by rw [Nat.zero_add] at hi ⊢; exact st i d δ q hi) ?_
  rintro _ ⟨δ', rfl, h1⟩
  rw [Nat.zero_add] at h1
  exact fin δ' h1
/-- while: m bounds the turns -/
theorem Ens.wh {t : DL.Env → DL.W Bool} {g : DL.Env → DL.W (Fl × DL.Env)} (I : Nat → DL.Env → Prop) (R : DL.Env → Prop) (st : ∀ m δ, I m δ → (∃ b, t δ = DL.pu b ∧ (b = false → R δ) ∧ (b = true → 0 < m ∧ Ens (g δ) fun r => ∃ δ', r = (.nx, δ') ∧ I (m - 1) δ'))) :
    ∀ m δ, I m δ → Ens (whN t g (m + 1) δ) fun r => ∃ δ', r = (.nx, δ') ∧ R δ' := by
  intro m
  induction m with
  | zero =>
    intro δ hI
    obtain ⟨b, e, h1, h2⟩ := st 0 δ hI
    show Ens (DL.bd (t δ) fun b => if b = true then DL.bd (g δ) (again (whN t g 0)) else DL.pu (.nx, δ)) _
    rw [e, bd_pu]
    cases b with
    | true => exact absurd (h2 rfl).1 (Nat.lt_irrefl 0)
    | false => exact Ens.pu ⟨δ, rfl, h1 rfl⟩
  | succ m ih =>
    intro δ hI
    obtain ⟨b, e, h1, h2⟩ := st (m + 1) δ hI
    show Ens (DL.bd (t δ) fun b => if b = true then DL.bd (g δ) (again (whN t g (m + 1))) else DL.pu (.nx, δ)) _
    rw [e, bd_pu]
    cases b with
    | true =>
      rw [if_pos rfl]
      refine Ens.bd (h2 rfl).2 ?_
      rintro _ ⟨δ', rfl, h3⟩
      exact ih δ' h3
    | false => exact Ens.pu ⟨δ, rfl, h1 rfl⟩
theorem Ens.sWh {t : DL.Env → DL.W Bool} {g : DL.Env → DL.W (Fl × DL.Env)} (I : Nat → DL.Env → Prop) (R : DL.Env → Prop) {m : Nat} {δ : DL.Env} (h0 : I m δ)
    (st : ∀ m δ, I m δ → (∃ b, t δ = DL.pu b ∧ (b = false → R δ) ∧ (b = true → 0 < m ∧ Ens (g δ) fun r => ∃ δ', r = (.nx, δ') ∧ I (m - 1) δ'))) : Ens (DL.sWh t g δ) fun r => ∃ δ', r = (.nx, δ') ∧ R δ' :=
  fun Q X q => ⟨m + 1, Ens.wh I R st m δ h0 Q X q⟩
/-- a comprehension without a test, of anything -/
theorem Ens.lc {h : D → DL.Env → DL.W DL.Env} {f : DL.Env → DL.W D} {δ : DL.Env} (P : D → Prop) : ∀ (ds acc : List D), acc.length + ds.length < sizeLine → (∀ a ∈ acc, P a) → (∀ d ∈ ds, ∃ δ1, h d δ = DL.pu δ1 ∧ Ens (f δ1) fun e => P e ∧ e.imm = true) →
    Ens (lcW h dYes f δ ds acc) fun es => es.length = acc.length + ds.length ∧ ∀ a ∈ es, P a
  | [], acc, _, ha, _ => Ens.pu ⟨rfl, ha⟩
  | d :: ds, acc, hl, ha, st => by
    obtain ⟨δ1, e1, e2⟩ := st d List.mem_cons_self
    have hl' : acc.length + ds.length + 1 < sizeLine := by simpa [Nat.add_assoc] using hl
    show Ens (DL.bd (h d δ) fun δ1 => DL.bd (DL.pu true) fun b => if b = true then DL.bd (f δ1) fun e => DL.chk (e.imm = true ∧ acc.length < sizeLine) (lcW h dYes f δ ds (acc ++ [e])) else lcW h dYes f δ ds acc) _
    rw [e1, bd_pu, bd_pu, if_pos rfl]
    refine Ens.bd e2 fun e he => Ens.chk ⟨he.2, by omega⟩ ?_
    refine Ens.wk (Ens.lc P ds (acc ++ [e]) (by rw [List.length_append, List.length_singleton]; omega) (fun a ha' => ?_) fun d' q => st d' (List.mem_cons_of_mem _ q)) fun es ⟨h1, h2⟩ => ⟨?_, h2⟩
    · rcases List.mem_append.mp ha' with z | z
      · exact ha a z
      · rw [List.mem_singleton.mp z]; exact he.1
    · rw [h1, List.length_append, List.length_singleton, List.length_cons]
      omega
end CY
namespace DC
open PySem L2 DL CY
theorem n_next : Ens (F__law_next [.src]) fun d => ∃ r : Int, d = .int r ∧ 0 ≤ r ∧ r < 65536 := fun Q X q => ⟨rfl, fun r h0 h1 => q _ ⟨r, rfl, h0, h1⟩⟩
theorem mod_pos (i j : Int) (h : 0 < j) : modD (.int i) (.int j) = pu (.int (i % j)) := by
  show chk (0 < j) (pu (D.int (i % j))) = _
  rw [chk_pos h]
theorem idx_mod {l : List D} {r : Int} (h0 : 0 ≤ r) (hl : 0 < l.length) : ∃ d ∈ l, idxL l (r % (l.length : Nat)) = pu d := by
  have h1 : 0 ≤ r % (l.length : Nat) := Int.emod_nonneg _ (by omega)
  have h2 : r % (l.length : Nat) < (l.length : Nat) := Int.emod_lt_of_pos _ (by omega)
  have hk : (r % (l.length : Nat)).toNat < l.length := by omega
  refine ⟨l[(r % (l.length : Nat)).toNat], List.getElem_mem _, ?_⟩
  have e := idx_nat (List.getElem?_eq_getElem hk)
  rw [Int.toNat_of_nonneg h1] at e
  exact e
theorem n_pick {l : List (Nat × Int)} (hl : l ≠ []) : Ens (F__law_pick [.src, .lst (l.map pD)]) fun d => ∃ p ∈ l, d = pD p := by
  unfold F__law_pick g__law_pick
  have hp : 0 < l.length := List.length_pos_iff.mpr hl
  simp (decide := true) (implicitDefEqProofs := false) only [bodyD, env0, sSeq, thenF, sIf, sRet, sRetN, sRetV, sSet, sSetN, sExpr, sNil, sAsg, sPar, resD, dV, dC, dOp, dUn, dNot, dAnd, dOr, dNotT, dAndT, dOrT, dB, dIf, dChain, dTup, dCons, dNil, dLst, dLstB, dCB, dCall, dCallK, dImm, dYes, a1, a2, bTup, bLst, bCons, bNil, bName, fSeq, seqOf, fRng1, fRng2, fEn, fZip, zip2, one1, ints1, ints2, asB, asI, negD, addD, subD, modD, ltD, gtD, geD, leD, isND, isnND, intOp, intOpC, lenD_lst, lenD_tup, lenD_frz, len_sD, tupleD, listD, absD, max2D, min2D, allD, isiD, tyN, isiT_tt, isiT_ii, isiT_ib, idxD, lsA, gw, gt, opt_some, opt_none, bd_pu, bd_fl, bd_bd, chk_true, chk_tt, D.imm, D.imms, D.isN, List.map_cons, List.map_nil, List.length_cons, List.length_nil, List.set_cons_zero, List.set_cons_succ, List.getElem?_cons_zero, List.getElem?_cons_succ, List.getElem?_nil, Option.bind_some, Option.bind_none, Option.join_some, Option.join_none, Option.map_some, Bool.and_true, Bool.true_and, Bool.and_false, Bool.false_and, Bool.not_true, Bool.not_false, Bool.false_eq_true, Bool.true_eq_false, if_true, if_false, ite_true, ite_false, List.cons_append, List.nil_append, List.append_nil, Nat.zero_add, Nat.reduceAdd, Nat.reduceSub, Nat.reduceLeDiff, Int.reduceNeg, List.replicate_succ, List.replicate_zero, true_and, and_true, List.length_map, and_pu, or_pu, tand_pu, tor_pu, idx_0, idx_1, if_tt, if_ff, dSl, dNo, dSo, slD, imm_cD, imm_wD, intsD, sAppIx, sExt, sApp, lsD, sFor, seq_sD, eq_str, ne_str, eq_int, ne_int, nc0, nc1, nc2, nc3, nc4, decide_true, decide_false, ne_eq, not_true_eq_false, Int.reduceEq, not_false_eq_true, Bool.or_false, Bool.or_true, Bool.false_or, Bool.true_or, List.all_cons, List.all_nil, id_eq]
  refine Ens.bd n_next ?_
  rintro _ ⟨r, rfl, h0, h1⟩
  obtain ⟨d, hd, e⟩ := idx_mod (l := l.map pD) (r := r) h0 (by rw [List.length_map]; exact hp)
  rw [List.length_map] at e
  obtain ⟨p, hp', rfl⟩ := List.mem_map.mp hd
  have hz : (0 : Int) < (l.length : Nat) := by omega
  have ip : (pD p).imm = true := rfl
  simp (decide := true) (implicitDefEqProofs := false) only [bodyD, env0, sSeq, thenF, sIf, sRet, sRetN, sRetV, sSet, sSetN, sExpr, sNil, sAsg, sPar, resD, dV, dC, dOp, dUn, dNot, dAnd, dOr, dNotT, dAndT, dOrT, dB, dIf, dChain, dTup, dCons, dNil, dLst, dLstB, dCB, dCall, dCallK, dImm, dYes, a1, a2, bTup, bLst, bCons, bNil, bName, fSeq, seqOf, fRng1, fRng2, fEn, fZip, zip2, one1, ints1, ints2, asB, asI, negD, addD, subD, modD, ltD, gtD, geD, leD, isND, isnND, intOp, intOpC, lenD_lst, lenD_tup, lenD_frz, len_sD, tupleD, listD, absD, max2D, min2D, allD, isiD, tyN, isiT_tt, isiT_ii, isiT_ib, idxD, lsA, gw, gt, opt_some, opt_none, bd_pu, bd_fl, bd_bd, chk_true, chk_tt, D.imm, D.imms, D.isN, List.map_cons, List.map_nil, List.length_cons, List.length_nil, List.set_cons_zero, List.set_cons_succ, List.getElem?_cons_zero, List.getElem?_cons_succ, List.getElem?_nil, Option.bind_some, Option.bind_none, Option.join_some, Option.join_none, Option.map_some, Bool.and_true, Bool.true_and, Bool.and_false, Bool.false_and, Bool.not_true, Bool.not_false, Bool.false_eq_true, Bool.true_eq_false, if_true, if_false, ite_true, ite_false, List.cons_append, List.nil_append, List.append_nil, Nat.zero_add, Nat.reduceAdd, Nat.reduceSub, Nat.reduceLeDiff, Int.reduceNeg, List.replicate_succ, List.replicate_zero, true_and, and_true, List.length_map, and_pu, or_pu, tand_pu, tor_pu, idx_0, idx_1, if_tt, if_ff, dSl, dNo, dSo, slD, imm_cD, imm_wD, intsD, sAppIx, sExt, sApp, lsD, sFor, seq_sD, eq_str, ne_str, eq_int, ne_int, nc0, nc1, nc2, nc3, nc4, decide_true, decide_false, ne_eq, not_true_eq_false, Int.reduceEq, not_false_eq_true, Bool.or_false, Bool.or_true, Bool.false_or, Bool.true_or, List.all_cons, List.all_nil, id_eq, chk_pos hz, e, ip]
  exact Ens.pu ⟨p, hp', rfl⟩
theorem ne_nil (l : List (Nat × Int)) : neS (.lst (l.map pD)) (.lst []) = pu (.bl (!l.isEmpty)) := by
  have := dep_pP l
  have hs : SeqAt.shaped (.list (l.map pP)) = true := Bool.and_eq_true_iff.mpr ⟨lay_pP l, decide_eq_true (by show PyData.depthAll (l.map pP) + 1 ≤ 64; omega)⟩
  show neD _ _ = _
  unfold neD eqvD
  have e : (D.lst (l.map pD)).py = some (.list (l.map pP)) := by simp [D.py, pys_pD]
  rw [e, opt_some]
  have e2 : (D.lst []).py = some (.list []) := by simp [D.py, D.pys]
  rw [e2, opt_some, chk_pos ⟨hs, rfl⟩]
  cases l <;> simp [PyData.eqv, PyData.eqvAll]
theorem n_walked {ws : List (Int × Int)} {cs : List Cp} {ss : List Int} {m : Int} (V : VY ws cs) (S : VS ws cs ss) (hm : 0 ≤ m ∧ m < 100) : Ens (F__law_walked [.src, yD ws cs, sD ss, .int m]) fun d => ∃ ss', d = sD ss' ∧ VS ws cs ss' := by
  unfold F__law_walked g__law_walked
  have hn : -(2 ^ 62) ≤ m ∧ m < 2 ^ 62 := by omega
  simp (decide := true) (implicitDefEqProofs := false) only [bodyD, env0, sSeq, thenF, sIf, sRet, sRetN, sRetV, sSet, sSetN, sExpr, sNil, sAsg, sPar, resD, dV, dC, dOp, dUn, dNot, dAnd, dOr, dNotT, dAndT, dOrT, dB, dIf, dChain, dTup, dCons, dNil, dLst, dLstB, dCB, dCall, dCallK, dImm, dYes, a1, a2, bTup, bLst, bCons, bNil, bName, fSeq, seqOf, fRng1, fRng2, fEn, fZip, zip2, one1, ints1, ints2, asB, asI, negD, addD, subD, modD, ltD, gtD, geD, leD, isND, isnND, intOp, intOpC, lenD_lst, lenD_tup, lenD_frz, len_sD, tupleD, listD, absD, max2D, min2D, allD, isiD, tyN, isiT_tt, isiT_ii, isiT_ib, idxD, lsA, gw, gt, opt_some, opt_none, bd_pu, bd_fl, bd_bd, chk_true, chk_tt, D.imm, D.imms, D.isN, List.map_cons, List.map_nil, List.length_cons, List.length_nil, List.set_cons_zero, List.set_cons_succ, List.getElem?_cons_zero, List.getElem?_cons_succ, List.getElem?_nil, Option.bind_some, Option.bind_none, Option.join_some, Option.join_none, Option.map_some, Bool.and_true, Bool.true_and, Bool.and_false, Bool.false_and, Bool.not_true, Bool.not_false, Bool.false_eq_true, Bool.true_eq_false, if_true, if_false, ite_true, ite_false, List.cons_append, List.nil_append, List.append_nil, Nat.zero_add, Nat.reduceAdd, Nat.reduceSub, Nat.reduceLeDiff, Int.reduceNeg, List.replicate_succ, List.replicate_zero, true_and, and_true, List.length_map, and_pu, or_pu, tand_pu, tor_pu, idx_0, idx_1, if_tt, if_ff, dSl, dNo, dSo, slD, imm_cD, imm_wD, intsD, sAppIx, sExt, sApp, lsD, sFor, seq_sD, eq_str, ne_str, eq_int, ne_int, nc0, nc1, nc2, nc3, nc4, decide_true, decide_false, ne_eq, not_true_eq_false, Int.reduceEq, not_false_eq_true, Bool.or_false, Bool.or_true, Bool.false_or, Bool.true_or, List.all_cons, List.all_nil, id_eq, chk_pos hn]
  refine Ens.bdFor (fun i δ => ∃ (ss : List Int) (x y : Option D), VS ws cs ss ∧ δ = [some .src, some (yD ws cs), some (sD ss), some (.int m), x, y]) ⟨ss, none, none, S, rfl⟩ ?_ ?_
  · rintro i d δ hd ⟨ss, x, y, S, rfl⟩
    obtain ⟨hi, rfl⟩ := rngD_at hd
    simp (decide := true) (implicitDefEqProofs := false) only [bodyD, env0, sSeq, thenF, sIf, sRet, sRetN, sRetV, sSet, sSetN, sExpr, sNil, sAsg, sPar, resD, dV, dC, dOp, dUn, dNot, dAnd, dOr, dNotT, dAndT, dOrT, dB, dIf, dChain, dTup, dCons, dNil, dLst, dLstB, dCB, dCall, dCallK, dImm, dYes, a1, a2, bTup, bLst, bCons, bNil, bName, fSeq, seqOf, fRng1, fRng2, fEn, fZip, zip2, one1, ints1, ints2, asB, asI, negD, addD, subD, modD, ltD, gtD, geD, leD, isND, isnND, intOp, intOpC, lenD_lst, lenD_tup, lenD_frz, len_sD, tupleD, listD, absD, max2D, min2D, allD, isiD, tyN, isiT_tt, isiT_ii, isiT_ib, idxD, lsA, gw, gt, opt_some, opt_none, bd_pu, bd_fl, bd_bd, chk_true, chk_tt, D.imm, D.imms, D.isN, List.map_cons, List.map_nil, List.length_cons, List.length_nil, List.set_cons_zero, List.set_cons_succ, List.getElem?_cons_zero, List.getElem?_cons_succ, List.getElem?_nil, Option.bind_some, Option.bind_none, Option.join_some, Option.join_none, Option.map_some, Bool.and_true, Bool.true_and, Bool.and_false, Bool.false_and, Bool.not_true, Bool.not_false, Bool.false_eq_true, Bool.true_eq_false, if_true, if_false, ite_true, ite_false, List.cons_append, List.nil_append, List.append_nil, Nat.zero_add, Nat.reduceAdd, Nat.reduceSub, Nat.reduceLeDiff, Int.reduceNeg, List.replicate_succ, List.replicate_zero, true_and, and_true, List.length_map, and_pu, or_pu, tand_pu, tor_pu, idx_0, idx_1, if_tt, if_ff, dSl, dNo, dSo, slD, imm_cD, imm_wD, intsD, sAppIx, sExt, sApp, lsD, sFor, seq_sD, eq_str, ne_str, eq_int, ne_int, nc0, nc1, nc2, nc3, nc4, decide_true, decide_false, ne_eq, not_true_eq_false, Int.reduceEq, not_false_eq_true, Bool.or_false, Bool.or_true, Bool.false_or, Bool.true_or, List.all_cons, List.all_nil, id_eq, e_ready V S.len, ne_nil]
    cases hr : rdy ws cs ss with
    | nil =>
      simp (decide := true) (implicitDefEqProofs := false) only [bodyD, env0, sSeq, thenF, sIf, sRet, sRetN, sRetV, sSet, sSetN, sExpr, sNil, sAsg, sPar, resD, dV, dC, dOp, dUn, dNot, dAnd, dOr, dNotT, dAndT, dOrT, dB, dIf, dChain, dTup, dCons, dNil, dLst, dLstB, dCB, dCall, dCallK, dImm, dYes, a1, a2, bTup, bLst, bCons, bNil, bName, fSeq, seqOf, fRng1, fRng2, fEn, fZip, zip2, one1, ints1, ints2, asB, asI, negD, addD, subD, modD, ltD, gtD, geD, leD, isND, isnND, intOp, intOpC, lenD_lst, lenD_tup, lenD_frz, len_sD, tupleD, listD, absD, max2D, min2D, allD, isiD, tyN, isiT_tt, isiT_ii, isiT_ib, idxD, lsA, gw, gt, opt_some, opt_none, bd_pu, bd_fl, bd_bd, chk_true, chk_tt, D.imm, D.imms, D.isN, List.map_cons, List.map_nil, List.length_cons, List.length_nil, List.set_cons_zero, List.set_cons_succ, List.getElem?_cons_zero, List.getElem?_cons_succ, List.getElem?_nil, Option.bind_some, Option.bind_none, Option.join_some, Option.join_none, Option.map_some, Bool.and_true, Bool.true_and, Bool.and_false, Bool.false_and, Bool.not_true, Bool.not_false, Bool.false_eq_true, Bool.true_eq_false, if_true, if_false, ite_true, ite_false, List.cons_append, List.nil_append, List.append_nil, Nat.zero_add, Nat.reduceAdd, Nat.reduceSub, Nat.reduceLeDiff, Int.reduceNeg, List.replicate_succ, List.replicate_zero, true_and, and_true, List.length_map, and_pu, or_pu, tand_pu, tor_pu, idx_0, idx_1, if_tt, if_ff, dSl, dNo, dSo, slD, imm_cD, imm_wD, intsD, sAppIx, sExt, sApp, lsD, sFor, seq_sD, eq_str, ne_str, eq_int, ne_int, nc0, nc1, nc2, nc3, nc4, decide_true, decide_false, ne_eq, not_true_eq_false, Int.reduceEq, not_false_eq_true, Bool.or_false, Bool.or_true, Bool.false_or, Bool.true_or, List.all_cons, List.all_nil, id_eq, List.isEmpty_nil]
      exact Ens.pu ⟨_, rfl, ss, _, _, S, rfl⟩
    | cons p l =>
      simp (decide := true) (implicitDefEqProofs := false) only [bodyD, env0, sSeq, thenF, sIf, sRet, sRetN, sRetV, sSet, sSetN, sExpr, sNil, sAsg, sPar, resD, dV, dC, dOp, dUn, dNot, dAnd, dOr, dNotT, dAndT, dOrT, dB, dIf, dChain, dTup, dCons, dNil, dLst, dLstB, dCB, dCall, dCallK, dImm, dYes, a1, a2, bTup, bLst, bCons, bNil, bName, fSeq, seqOf, fRng1, fRng2, fEn, fZip, zip2, one1, ints1, ints2, asB, asI, negD, addD, subD, modD, ltD, gtD, geD, leD, isND, isnND, intOp, intOpC, lenD_lst, lenD_tup, lenD_frz, len_sD, tupleD, listD, absD, max2D, min2D, allD, isiD, tyN, isiT_tt, isiT_ii, isiT_ib, idxD, lsA, gw, gt, opt_some, opt_none, bd_pu, bd_fl, bd_bd, chk_true, chk_tt, D.imm, D.imms, D.isN, List.map_cons, List.map_nil, List.length_cons, List.length_nil, List.set_cons_zero, List.set_cons_succ, List.getElem?_cons_zero, List.getElem?_cons_succ, List.getElem?_nil, Option.bind_some, Option.bind_none, Option.join_some, Option.join_none, Option.map_some, Bool.and_true, Bool.true_and, Bool.and_false, Bool.false_and, Bool.not_true, Bool.not_false, Bool.false_eq_true, Bool.true_eq_false, if_true, if_false, ite_true, ite_false, List.cons_append, List.nil_append, List.append_nil, Nat.zero_add, Nat.reduceAdd, Nat.reduceSub, Nat.reduceLeDiff, Int.reduceNeg, List.replicate_succ, List.replicate_zero, true_and, and_true, List.length_map, and_pu, or_pu, tand_pu, tor_pu, idx_0, idx_1, if_tt, if_ff, dSl, dNo, dSo, slD, imm_cD, imm_wD, intsD, sAppIx, sExt, sApp, lsD, sFor, seq_sD, eq_str, ne_str, eq_int, ne_int, nc0, nc1, nc2, nc3, nc4, decide_true, decide_false, ne_eq, not_true_eq_false, Int.reduceEq, not_false_eq_true, Bool.or_false, Bool.or_true, Bool.false_or, Bool.true_or, List.all_cons, List.all_nil, id_eq, List.isEmpty_cons]
      have np := n_pick (l := p :: l) (List.cons_ne_nil _ _)
      simp only [List.map_cons] at np
      refine Ens.bd np ?_
      rintro _ ⟨⟨w, g⟩, hp, rfl⟩
      have hp' : (w, g) ∈ rdy ws cs ss := by rw [hr]; exact hp
      obtain ⟨hw, hg, hh⟩ := mem_stA.mp hp'
      have em := e_moved (g := g) (show w < ss.length by rw [S.len]; exact hw) (by rw [S.len]; exact V.n40)
      rw [show pD (w, g) = D.tup [.int w, .int g] from rfl, em]
      simp (decide := true) (implicitDefEqProofs := false) only [bodyD, env0, sSeq, thenF, sIf, sRet, sRetN, sRetV, sSet, sSetN, sExpr, sNil, sAsg, sPar, resD, dV, dC, dOp, dUn, dNot, dAnd, dOr, dNotT, dAndT, dOrT, dB, dIf, dChain, dTup, dCons, dNil, dLst, dLstB, dCB, dCall, dCallK, dImm, dYes, a1, a2, bTup, bLst, bCons, bNil, bName, fSeq, seqOf, fRng1, fRng2, fEn, fZip, zip2, one1, ints1, ints2, asB, asI, negD, addD, subD, modD, ltD, gtD, geD, leD, isND, isnND, intOp, intOpC, lenD_lst, lenD_tup, lenD_frz, len_sD, tupleD, listD, absD, max2D, min2D, allD, isiD, tyN, isiT_tt, isiT_ii, isiT_ib, idxD, lsA, gw, gt, opt_some, opt_none, bd_pu, bd_fl, bd_bd, chk_true, chk_tt, D.imm, D.imms, D.isN, List.map_cons, List.map_nil, List.length_cons, List.length_nil, List.set_cons_zero, List.set_cons_succ, List.getElem?_cons_zero, List.getElem?_cons_succ, List.getElem?_nil, Option.bind_some, Option.bind_none, Option.join_some, Option.join_none, Option.map_some, Bool.and_true, Bool.true_and, Bool.and_false, Bool.false_and, Bool.not_true, Bool.not_false, Bool.false_eq_true, Bool.true_eq_false, if_true, if_false, ite_true, ite_false, List.cons_append, List.nil_append, List.append_nil, Nat.zero_add, Nat.reduceAdd, Nat.reduceSub, Nat.reduceLeDiff, Int.reduceNeg, List.replicate_succ, List.replicate_zero, true_and, and_true, List.length_map, and_pu, or_pu, tand_pu, tor_pu, idx_0, idx_1, if_tt, if_ff, dSl, dNo, dSo, slD, imm_cD, imm_wD, intsD, sAppIx, sExt, sApp, lsD, sFor, seq_sD, eq_str, ne_str, eq_int, ne_int, nc0, nc1, nc2, nc3, nc4, decide_true, decide_false, ne_eq, not_true_eq_false, Int.reduceEq, not_false_eq_true, Bool.or_false, Bool.or_true, Bool.false_or, Bool.true_or, List.all_cons, List.all_nil, id_eq]
      have hl : (mvd ss w g).length = ws.length := by unfold mvd; rw [List.length_set, S.len]
      exact Ens.pu ⟨_, rfl, _, _, _, (holds_iff hl).mp hh, rfl⟩
  · rintro δ' ⟨ss, x, y, S, rfl⟩
    simp (decide := true) (implicitDefEqProofs := false) only [bodyD, env0, sSeq, thenF, sIf, sRet, sRetN, sRetV, sSet, sSetN, sExpr, sNil, sAsg, sPar, resD, dV, dC, dOp, dUn, dNot, dAnd, dOr, dNotT, dAndT, dOrT, dB, dIf, dChain, dTup, dCons, dNil, dLst, dLstB, dCB, dCall, dCallK, dImm, dYes, a1, a2, bTup, bLst, bCons, bNil, bName, fSeq, seqOf, fRng1, fRng2, fEn, fZip, zip2, one1, ints1, ints2, asB, asI, negD, addD, subD, modD, ltD, gtD, geD, leD, isND, isnND, intOp, intOpC, lenD_lst, lenD_tup, lenD_frz, len_sD, tupleD, listD, absD, max2D, min2D, allD, isiD, tyN, isiT_tt, isiT_ii, isiT_ib, idxD, lsA, gw, gt, opt_some, opt_none, bd_pu, bd_fl, bd_bd, chk_true, chk_tt, D.imm, D.imms, D.isN, List.map_cons, List.map_nil, List.length_cons, List.length_nil, List.set_cons_zero, List.set_cons_succ, List.getElem?_cons_zero, List.getElem?_cons_succ, List.getElem?_nil, Option.bind_some, Option.bind_none, Option.join_some, Option.join_none, Option.map_some, Bool.and_true, Bool.true_and, Bool.and_false, Bool.false_and, Bool.not_true, Bool.not_false, Bool.false_eq_true, Bool.true_eq_false, if_true, if_false, ite_true, ite_false, List.cons_append, List.nil_append, List.append_nil, Nat.zero_add, Nat.reduceAdd, Nat.reduceSub, Nat.reduceLeDiff, Int.reduceNeg, List.replicate_succ, List.replicate_zero, true_and, and_true, List.length_map, and_pu, or_pu, tand_pu, tor_pu, idx_0, idx_1, if_tt, if_ff, dSl, dNo, dSo, slD, imm_cD, imm_wD, intsD, sAppIx, sExt, sApp, lsD, sFor, seq_sD, eq_str, ne_str, eq_int, ne_int, nc0, nc1, nc2, nc3, nc4, decide_true, decide_false, ne_eq, not_true_eq_false, Int.reduceEq, not_false_eq_true, Bool.or_false, Bool.or_true, Bool.false_or, Bool.true_or, List.all_cons, List.all_nil, id_eq, imm_sD]
    exact Ens.pu ⟨ss, rfl, S⟩
end DC
namespace DC
open PySem L2 DL CY
def nI (l : List Nat) : List Int := l.map fun v : Nat => (v : Int)
theorem pys_int : ∀ l : List Int, D.pys (l.map D.int) = some (l.map PyData.int)
  | [] => rfl
  | p :: l => by simp [D.pys, D.py, pys_int l]
theorem lay_int : ∀ l : List Int, PyData.canLayAll0 (l.map PyData.int) = true
  | [] => rfl
  | p :: l => by simp [PyData.canLayAll0, lay_int l, PyData.canLay0]
theorem dep_int : ∀ l : List Int, PyData.depthAll (l.map PyData.int) ≤ 0
  | [] => Nat.le_refl _
  | p :: l => by
    have := dep_int l
    simp only [List.map_cons, PyData.depthAll, PyData.depth]
    omega
theorem ne_nilI (l : List Int) : neS (.lst (l.map D.int)) (.lst []) = pu (.bl (!l.isEmpty)) := by
  have := dep_int l
  have hs : SeqAt.shaped (.list (l.map PyData.int)) = true := Bool.and_eq_true_iff.mpr ⟨lay_int l, decide_eq_true (by show PyData.depthAll (l.map PyData.int) + 1 ≤ 64; omega)⟩
  show neD _ _ = _
  unfold neD eqvD
  have e : (D.lst (l.map D.int)).py = some (.list (l.map PyData.int)) := by simp [D.py, pys_int]
  have e2 : (D.lst []).py = some (.list []) := by simp [D.py, D.pys]
  rw [e, opt_some, e2, opt_some, chk_pos ⟨hs, rfl⟩]
  cases l <;> simp [PyData.eqv, PyData.eqvAll]
theorem rngD_nI (n : Nat) : rngD 0 n = (nI (List.range n)).map D.int := by
  unfold rngD nI
  rw [List.map_map]
  simp
theorem erase_map {α β : Type} (f : α → β) : ∀ (k : Nat) (l : List α), (l.map f).eraseIdx k = (l.eraseIdx k).map f
  | _, [] => by simp
  | 0, a :: l => rfl
  | k + 1, a :: l => by simp [erase_map f k l]
theorem erase_perm {α : Type} : ∀ (k : Nat) (l : List α) (h : k < l.length), (l[k] :: l.eraseIdx k).Perm l
  | _, [], h => absurd h (Nat.not_lt_zero _)
  | 0, a :: l, _ => List.Perm.refl _
  | k + 1, a :: l, h => by
    have ih := erase_perm k l (by simpa using h)
    simp only [List.getElem_cons_succ, List.eraseIdx_cons_succ]
    exact (List.Perm.swap _ _ _).trans (ih.cons a)
theorem n_shuffled {n : Nat} (hn : n ≤ 40) : Ens (F__law_shuffled [.src, .int n]) fun d => ∃ l : List Nat, l.Perm (List.range n) ∧ d = .lst ((nI l).map D.int) := by
  unfold F__law_shuffled g__law_shuffled
  have h0 : ((n : Nat) : Int) ≤ 16777216 ∧ (0 : Int) ≤ (n : Nat) := by omega
  simp (decide := true) (implicitDefEqProofs := false) only [bodyD, env0, sSeq, thenF, sIf, sRet, sRetN, sRetV, sSet, sSetN, sExpr, sNil, sAsg, sPar, resD, dV, dC, dOp, dUn, dNot, dAnd, dOr, dNotT, dAndT, dOrT, dB, dIf, dChain, dTup, dCons, dNil, dLst, dLstB, dCB, dCall, dCallK, dImm, dYes, a1, a2, bTup, bLst, bCons, bNil, bName, fSeq, seqOf, fRng1, fRng2, fEn, fZip, zip2, one1, ints1, ints2, asB, asI, negD, addD, subD, modD, ltD, gtD, geD, leD, isND, isnND, intOp, intOpC, lenD_lst, lenD_tup, lenD_frz, len_sD, tupleD, listD, absD, max2D, min2D, allD, isiD, tyN, isiT_tt, isiT_ii, isiT_ib, idxD, lsA, gw, gt, opt_some, opt_none, bd_pu, bd_fl, bd_bd, chk_true, chk_tt, D.imm, D.imms, D.isN, List.map_cons, List.map_nil, List.length_cons, List.length_nil, List.set_cons_zero, List.set_cons_succ, List.getElem?_cons_zero, List.getElem?_cons_succ, List.getElem?_nil, Option.bind_some, Option.bind_none, Option.join_some, Option.join_none, Option.map_some, Bool.and_true, Bool.true_and, Bool.and_false, Bool.false_and, Bool.not_true, Bool.not_false, Bool.false_eq_true, Bool.true_eq_false, if_true, if_false, ite_true, ite_false, List.cons_append, List.nil_append, List.append_nil, Nat.zero_add, Nat.reduceAdd, Nat.reduceSub, Nat.reduceLeDiff, Int.reduceNeg, List.replicate_succ, List.replicate_zero, true_and, and_true, List.length_map, and_pu, or_pu, tand_pu, tor_pu, idx_0, idx_1, if_tt, if_ff, dSl, dNo, dSo, slD, imm_cD, imm_wD, intsD, sAppIx, sExt, sApp, lsD, sFor, seq_sD, eq_str, ne_str, eq_int, ne_int, nc0, nc1, nc2, nc3, nc4, decide_true, decide_false, ne_eq, not_true_eq_false, Int.reduceEq, not_false_eq_true, Bool.or_false, Bool.or_true, Bool.false_or, Bool.true_or, List.all_cons, List.all_nil, id_eq, listRng, chk_pos h0, Int.toNat_natCast, rngD_nI]
  refine Ens.bd (Ens.sWh (fun m δ => ∃ pile found : List Nat, pile.length = m ∧ found.length ≤ 40 ∧ (found ++ pile).Perm (List.range n) ∧ δ = [some .src, some (.int n), some (.lst ((nI pile).map D.int)), some (.lst ((nI found).map D.int))])
    (fun δ => ∃ found : List Nat, found.Perm (List.range n) ∧ δ = [some .src, some (.int n), some (.lst []), some (.lst ((nI found).map D.int))]) (m := n) ⟨List.range n, [], List.length_range, Nat.zero_le _, List.Perm.refl _, rfl⟩ ?_) ?_
  · rintro m δ ⟨pile, found, hm, hf, hp, rfl⟩
    refine ⟨!(nI pile).isEmpty, ?_, fun h => ?_, fun h => ?_⟩
    · simp (decide := true) (implicitDefEqProofs := false) only [bodyD, env0, sSeq, thenF, sIf, sRet, sRetN, sRetV, sSet, sSetN, sExpr, sNil, sAsg, sPar, resD, dV, dC, dOp, dUn, dNot, dAnd, dOr, dNotT, dAndT, dOrT, dB, dIf, dChain, dTup, dCons, dNil, dLst, dLstB, dCB, dCall, dCallK, dImm, dYes, a1, a2, bTup, bLst, bCons, bNil, bName, fSeq, seqOf, fRng1, fRng2, fEn, fZip, zip2, one1, ints1, ints2, asB, asI, negD, addD, subD, modD, ltD, gtD, geD, leD, isND, isnND, intOp, intOpC, lenD_lst, lenD_tup, lenD_frz, len_sD, tupleD, listD, absD, max2D, min2D, allD, isiD, tyN, isiT_tt, isiT_ii, isiT_ib, idxD, lsA, gw, gt, opt_some, opt_none, bd_pu, bd_fl, bd_bd, chk_true, chk_tt, D.imm, D.imms, D.isN, List.map_cons, List.map_nil, List.length_cons, List.length_nil, List.set_cons_zero, List.set_cons_succ, List.getElem?_cons_zero, List.getElem?_cons_succ, List.getElem?_nil, Option.bind_some, Option.bind_none, Option.join_some, Option.join_none, Option.map_some, Bool.and_true, Bool.true_and, Bool.and_false, Bool.false_and, Bool.not_true, Bool.not_false, Bool.false_eq_true, Bool.true_eq_false, if_true, if_false, ite_true, ite_false, List.cons_append, List.nil_append, List.append_nil, Nat.zero_add, Nat.reduceAdd, Nat.reduceSub, Nat.reduceLeDiff, Int.reduceNeg, List.replicate_succ, List.replicate_zero, true_and, and_true, List.length_map, and_pu, or_pu, tand_pu, tor_pu, idx_0, idx_1, if_tt, if_ff, dSl, dNo, dSo, slD, imm_cD, imm_wD, intsD, sAppIx, sExt, sApp, lsD, sFor, seq_sD, eq_str, ne_str, eq_int, ne_int, nc0, nc1, nc2, nc3, nc4, decide_true, decide_false, ne_eq, not_true_eq_false, Int.reduceEq, not_false_eq_true, Bool.or_false, Bool.or_true, Bool.false_or, Bool.true_or, List.all_cons, List.all_nil, id_eq, ne_nilI]
    · have e : pile = [] := by
        cases pile with
        | nil => rfl
        | cons a l => simp [nI] at h
      subst e
      rw [List.append_nil] at hp
      exact ⟨found, hp, rfl⟩
    · have hpos : 0 < pile.length := by
        cases pile with
        | nil => simp [nI] at h
        | cons a l => exact Nat.succ_pos _
      refine ⟨by omega, ?_⟩
      have lp : (nI pile).length = pile.length := by unfold nI; rw [List.length_map]
      have lf : (nI found).length = found.length := by unfold nI; rw [List.length_map]
      simp (decide := true) (implicitDefEqProofs := false) only [bodyD, env0, sSeq, thenF, sIf, sRet, sRetN, sRetV, sSet, sSetN, sExpr, sNil, sAsg, sPar, resD, dV, dC, dOp, dUn, dNot, dAnd, dOr, dNotT, dAndT, dOrT, dB, dIf, dChain, dTup, dCons, dNil, dLst, dLstB, dCB, dCall, dCallK, dImm, dYes, a1, a2, bTup, bLst, bCons, bNil, bName, fSeq, seqOf, fRng1, fRng2, fEn, fZip, zip2, one1, ints1, ints2, asB, asI, negD, addD, subD, modD, ltD, gtD, geD, leD, isND, isnND, intOp, intOpC, lenD_lst, lenD_tup, lenD_frz, len_sD, tupleD, listD, absD, max2D, min2D, allD, isiD, tyN, isiT_tt, isiT_ii, isiT_ib, idxD, lsA, gw, gt, opt_some, opt_none, bd_pu, bd_fl, bd_bd, chk_true, chk_tt, D.imm, D.imms, D.isN, List.map_cons, List.map_nil, List.length_cons, List.length_nil, List.set_cons_zero, List.set_cons_succ, List.getElem?_cons_zero, List.getElem?_cons_succ, List.getElem?_nil, Option.bind_some, Option.bind_none, Option.join_some, Option.join_none, Option.map_some, Bool.and_true, Bool.true_and, Bool.and_false, Bool.false_and, Bool.not_true, Bool.not_false, Bool.false_eq_true, Bool.true_eq_false, if_true, if_false, ite_true, ite_false, List.cons_append, List.nil_append, List.append_nil, Nat.zero_add, Nat.reduceAdd, Nat.reduceSub, Nat.reduceLeDiff, Int.reduceNeg, List.replicate_succ, List.replicate_zero, true_and, and_true, List.length_map, and_pu, or_pu, tand_pu, tor_pu, idx_0, idx_1, if_tt, if_ff, dSl, dNo, dSo, slD, imm_cD, imm_wD, intsD, sAppIx, sExt, sApp, lsD, sFor, seq_sD, eq_str, ne_str, eq_int, ne_int, nc0, nc1, nc2, nc3, nc4, decide_true, decide_false, ne_eq, not_true_eq_false, Int.reduceEq, not_false_eq_true, Bool.or_false, Bool.or_true, Bool.false_or, Bool.true_or, List.all_cons, List.all_nil, id_eq, sAppPop, popAt, lp]
      refine Ens.bd n_next ?_
      rintro _ ⟨r, rfl, r0, r1⟩
      have hz : (0 : Int) < (pile.length : Nat) := by omega
      have q1 : 0 ≤ r % (pile.length : Nat) := Int.emod_nonneg _ (by omega)
      have q2 : r % (pile.length : Nat) < (pile.length : Nat) := Int.emod_lt_of_pos _ (by omega)
      obtain ⟨k, hk⟩ := Int.eq_ofNat_of_zero_le q1
      have hk' : k < pile.length := by omega
      have e1 : seqIndex? (k : Int) pile.length = some k := (L2.ixN_seq (ixN_nat hk')).1
      have e2 : ((nI pile).map D.int)[k]? = some (.int (pile[k] : Nat)) := by
        unfold nI
        rw [List.getElem?_map, List.getElem?_map, List.getElem?_eq_getElem hk']
        rfl
      have e3 : ((nI pile).map D.int).eraseIdx k = (nI (pile.eraseIdx k)).map D.int := by
        unfold nI
        rw [List.map_map, List.map_map, erase_map]
      have lp40 : pile.length ≤ 40 := by
        have := hp.length_eq
        rw [List.length_append, List.length_range] at this
        omega
      have e4 : -(2 ^ 63) ≤ (k : Int) ∧ (k : Int) < 2 ^ 63 := by omega
      have e5 : found.length < sizeLine := small (by omega)
      simp (decide := true) (implicitDefEqProofs := false) only [bodyD, env0, sSeq, thenF, sIf, sRet, sRetN, sRetV, sSet, sSetN, sExpr, sNil, sAsg, sPar, resD, dV, dC, dOp, dUn, dNot, dAnd, dOr, dNotT, dAndT, dOrT, dB, dIf, dChain, dTup, dCons, dNil, dLst, dLstB, dCB, dCall, dCallK, dImm, dYes, a1, a2, bTup, bLst, bCons, bNil, bName, fSeq, seqOf, fRng1, fRng2, fEn, fZip, zip2, one1, ints1, ints2, asB, asI, negD, addD, subD, modD, ltD, gtD, geD, leD, isND, isnND, intOp, intOpC, lenD_lst, lenD_tup, lenD_frz, len_sD, tupleD, listD, absD, max2D, min2D, allD, isiD, tyN, isiT_tt, isiT_ii, isiT_ib, idxD, lsA, gw, gt, opt_some, opt_none, bd_pu, bd_fl, bd_bd, chk_true, chk_tt, D.imm, D.imms, D.isN, List.map_cons, List.map_nil, List.length_cons, List.length_nil, List.set_cons_zero, List.set_cons_succ, List.getElem?_cons_zero, List.getElem?_cons_succ, List.getElem?_nil, Option.bind_some, Option.bind_none, Option.join_some, Option.join_none, Option.map_some, Bool.and_true, Bool.true_and, Bool.and_false, Bool.false_and, Bool.not_true, Bool.not_false, Bool.false_eq_true, Bool.true_eq_false, if_true, if_false, ite_true, ite_false, List.cons_append, List.nil_append, List.append_nil, Nat.zero_add, Nat.reduceAdd, Nat.reduceSub, Nat.reduceLeDiff, Int.reduceNeg, List.replicate_succ, List.replicate_zero, true_and, and_true, List.length_map, and_pu, or_pu, tand_pu, tor_pu, idx_0, idx_1, if_tt, if_ff, dSl, dNo, dSo, slD, imm_cD, imm_wD, intsD, sAppIx, sExt, sApp, lsD, sFor, seq_sD, eq_str, ne_str, eq_int, ne_int, nc0, nc1, nc2, nc3, nc4, decide_true, decide_false, ne_eq, not_true_eq_false, Int.reduceEq, not_false_eq_true, Bool.or_false, Bool.or_true, Bool.false_or, Bool.true_or, List.all_cons, List.all_nil, id_eq, chk_pos hz, hk, e1, e2, e3, chk_pos e4, imms_int, lf, e5]
      refine Ens.pu ⟨_, rfl, pile.eraseIdx k, found ++ [pile[k]], ?_, ?_, ?_, ?_⟩
      · rw [List.length_eraseIdx_of_lt hk', hm]
      · rw [List.length_append, List.length_singleton]
        have := hp.length_eq
        rw [List.length_append, List.length_range] at this
        omega
      · refine List.Perm.trans ?_ hp
        rw [List.append_assoc]
        exact List.Perm.append_left _ (erase_perm _ _ hk')
      · unfold nI
        rw [List.map_append, List.map_append]
        rfl
  · rintro _ ⟨_, rfl, found, hp, rfl⟩
    simp (decide := true) (implicitDefEqProofs := false) only [bodyD, env0, sSeq, thenF, sIf, sRet, sRetN, sRetV, sSet, sSetN, sExpr, sNil, sAsg, sPar, resD, dV, dC, dOp, dUn, dNot, dAnd, dOr, dNotT, dAndT, dOrT, dB, dIf, dChain, dTup, dCons, dNil, dLst, dLstB, dCB, dCall, dCallK, dImm, dYes, a1, a2, bTup, bLst, bCons, bNil, bName, fSeq, seqOf, fRng1, fRng2, fEn, fZip, zip2, one1, ints1, ints2, asB, asI, negD, addD, subD, modD, ltD, gtD, geD, leD, isND, isnND, intOp, intOpC, lenD_lst, lenD_tup, lenD_frz, len_sD, tupleD, listD, absD, max2D, min2D, allD, isiD, tyN, isiT_tt, isiT_ii, isiT_ib, idxD, lsA, gw, gt, opt_some, opt_none, bd_pu, bd_fl, bd_bd, chk_true, chk_tt, D.imm, D.imms, D.isN, List.map_cons, List.map_nil, List.length_cons, List.length_nil, List.set_cons_zero, List.set_cons_succ, List.getElem?_cons_zero, List.getElem?_cons_succ, List.getElem?_nil, Option.bind_some, Option.bind_none, Option.join_some, Option.join_none, Option.map_some, Bool.and_true, Bool.true_and, Bool.and_false, Bool.false_and, Bool.not_true, Bool.not_false, Bool.false_eq_true, Bool.true_eq_false, if_true, if_false, ite_true, ite_false, List.cons_append, List.nil_append, List.append_nil, Nat.zero_add, Nat.reduceAdd, Nat.reduceSub, Nat.reduceLeDiff, Int.reduceNeg, List.replicate_succ, List.replicate_zero, true_and, and_true, List.length_map, and_pu, or_pu, tand_pu, tor_pu, idx_0, idx_1, if_tt, if_ff, dSl, dNo, dSo, slD, imm_cD, imm_wD, intsD, sAppIx, sExt, sApp, lsD, sFor, seq_sD, eq_str, ne_str, eq_int, ne_int, nc0, nc1, nc2, nc3, nc4, decide_true, decide_false, ne_eq, not_true_eq_false, Int.reduceEq, not_false_eq_true, Bool.or_false, Bool.or_true, Bool.false_or, Bool.true_or, List.all_cons, List.all_nil, id_eq]
    exact Ens.pu ⟨found, hp, rfl⟩
end DC
namespace DC
open PySem L2 DL CY
/-! ### a forest that grows -/
structure For (ol : List Nat) (ss : List Int) (k : Nat) (cs : List Cp) : Prop where
  at_ : ∀ c ∈ cs, ∃ p q, p < k ∧ q < k ∧ c.i = ol.getD p 0 ∧ c.j = ol.getD q 0
  cut : ∀ c ∈ cs, ∃ s : Nat → Bool, s c.i ≠ s c.j ∧ ∀ d ∈ cs, (d.i, d.j) ≠ (c.i, c.j) → s d.i = s d.j
  dis : cs.Pairwise fun a b => (a.i, a.j) ≠ (b.i, b.j)
  ok : ∀ c ∈ cs, c.i < c.j ∧ c.j < ol.length ∧ -10000000000 ≤ c.lo ∧ c.lo < c.hi ∧ c.hi ≤ 10000000000 ∧ c.lo ≤ ss.getD c.j 0 - ss.getD c.i 0 ∧ ss.getD c.j 0 - ss.getD c.i 0 ≤ c.hi
  few : cs.length < k
theorem For.skip {ol : List Nat} {ss : List Int} {k : Nat} {cs : List Cp} (F : For ol ss k cs) : For ol ss (k + 1) cs :=
  ⟨fun c hc => let ⟨p, q, h1, h2, h⟩ := F.at_ c hc; ⟨p, q, by omega, by omega, h⟩, F.cut, F.dis, F.ok, by have := F.few; omega⟩
theorem getD_inj {ol : List Nat} (nd : ol.Nodup) {p q : Nat} (hp : p < ol.length) (hq : q < ol.length) (h : ol.getD p 0 = ol.getD q 0) : p = q := by
  rw [List.getD_eq_getElem?_getD, List.getD_eq_getElem?_getD, List.getElem?_eq_getElem hp, List.getElem?_eq_getElem hq] at h
  have h' : ol[p] = ol[q] := h
  rcases Nat.lt_trichotomy p q with l | l | l
  · exact absurd h' (List.pairwise_iff_getElem.mp nd p q hp hq l)
  · exact l
  · exact absurd h'.symm (List.pairwise_iff_getElem.mp nd q p hq hp l)
theorem For.add {ol : List Nat} {ss : List Int} {k : Nat} {cs : List Cp} (F : For ol ss k cs) (nd : ol.Nodup) (hk : k < ol.length) {c : Cp} {q : Nat} (hq : q < k) (hc : (c.i = ol.getD k 0 ∧ c.j = ol.getD q 0) ∨ (c.j = ol.getD k 0 ∧ c.i = ol.getD q 0))
    (ok : c.i < c.j ∧ c.j < ol.length ∧ -10000000000 ≤ c.lo ∧ c.lo < c.hi ∧ c.hi ≤ 10000000000 ∧ c.lo ≤ ss.getD c.j 0 - ss.getD c.i 0 ∧ ss.getD c.j 0 - ss.getD c.i 0 ≤ c.hi) : For ol ss (k + 1) (cs ++ [c]) := by
  have nk : ∀ p, p < k → ol.getD p 0 ≠ ol.getD k 0 := fun p hp h => by
    have := getD_inj nd (by omega) hk h
    omega
  have old : ∀ d ∈ cs, d.i ≠ ol.getD k 0 ∧ d.j ≠ ol.getD k 0 := fun d hd => by
    obtain ⟨p, r, h1, h2, h3, h4⟩ := F.at_ d hd
    exact ⟨h3 ▸ nk p h1, h4 ▸ nk r h2⟩
  have new : c.i = ol.getD k 0 ∨ c.j = ol.getD k 0 := hc.elim (fun h => .inl h.1) fun h => .inr h.1
  have neq : ∀ d ∈ cs, (d.i, d.j) ≠ (c.i, c.j) := fun d hd h => by
    obtain ⟨h1, h2⟩ := Prod.mk.inj h
    rcases new with e | e
    · exact (old d hd).1 (h1.trans e)
    · exact (old d hd).2 (h2.trans e)
  refine ⟨fun d hd => ?_, fun d hd => ?_, ?_, fun d hd => ?_, ?_⟩
  · rcases List.mem_append.mp hd with hd | hd
    · obtain ⟨p, r, h1, h2, h⟩ := F.at_ d hd
      exact ⟨p, r, by omega, by omega, h⟩
    · rw [List.mem_singleton.mp hd]
      rcases hc with ⟨h1, h2⟩ | ⟨h1, h2⟩
      · exact ⟨k, q, by omega, by omega, h1, h2⟩
      · exact ⟨q, k, by omega, by omega, h2, h1⟩
  · rcases List.mem_append.mp hd with hd | hd
    · obtain ⟨s, s1, s2⟩ := F.cut d hd
      obtain ⟨o1, o2⟩ := old d hd
      have sk : ∀ v, v ≠ ol.getD k 0 → (if v = ol.getD k 0 then s (ol.getD q 0) else s v) = s v := fun v hv => if_neg hv
      refine ⟨fun v => if v = ol.getD k 0 then s (ol.getD q 0) else s v, ?_, fun e he ne => ?_⟩
      · show (if d.i = _ then _ else _) ≠ (if d.j = _ then _ else _)
        rw [sk _ o1, sk _ o2]
        exact s1
      · show (if e.i = _ then _ else _) = (if e.j = _ then _ else _)
        rcases List.mem_append.mp he with he | he
        · obtain ⟨e1, e2⟩ := old e he
          rw [sk _ e1, sk _ e2]
          exact s2 e he ne
        · rw [List.mem_singleton.mp he]
          rcases hc with ⟨h1, h2⟩ | ⟨h1, h2⟩
          · rw [if_pos h1, h2, sk _ (nk q hq)]
          · rw [if_pos h1, h2, sk _ (nk q hq)]
    · rw [List.mem_singleton.mp hd]
      refine ⟨fun v => decide (v = ol.getD k 0), ?_, fun e he ne => ?_⟩
      · show decide (c.i = _) ≠ decide (c.j = _)
        rcases hc with ⟨h1, h2⟩ | ⟨h1, h2⟩
        · rw [decide_eq_true h1, decide_eq_false (by rw [h2]; exact nk q hq)]
          exact fun z => nomatch z
        · rw [decide_eq_true h1, decide_eq_false (by rw [h2]; exact nk q hq)]
          exact fun z => nomatch z
      · show decide (e.i = _) = decide (e.j = _)
        rcases List.mem_append.mp he with he | he
        · obtain ⟨e1, e2⟩ := old e he
          rw [decide_eq_false e1, decide_eq_false e2]
        · rw [List.mem_singleton.mp he] at ne
          exact absurd rfl ne
  · rw [List.pairwise_append]
    exact ⟨F.dis, List.pairwise_singleton _ _, fun a ha b hb => by rw [List.mem_singleton.mp hb]; exact neq a ha⟩
  · rcases List.mem_append.mp hd with hd | hd
    · exact F.ok d hd
    · rw [List.mem_singleton.mp hd]; exact ok
  · rw [List.length_append, List.length_singleton]
    have := F.few
    omega
/-! ### the couplings in order -/
def cI (c : Cp) : List Int := [c.i, c.j, c.lo, c.hi]
def unI : List Int → Cp
  | [a, b, c, d] => ⟨a.toNat, b.toNat, c, d⟩
  | _ => ⟨0, 0, 0, 0⟩
theorem unI_cI (c : Cp) : unI (cI c) = c := by
  unfold cI unI
  simp
theorem cD_cI (c : Cp) : cD c = .tup ((cI c).map D.int) := rfl
theorem lTups_cD : ∀ cs : List Cp, intsTs (cs.map cD) = some (cs.map cI)
  | [] => rfl
  | c :: cs => by
    have e : intsT (cD c) = some (cI c) := by
      rw [cD_cI]
      show intsD _ = _
      exact intsD_map _
    simp only [List.map_cons, intsTs, e, Option.bind_some, lTups_cD cs, Option.map_some]
theorem n_sortT (cs : List Cp) : Ens (sortTD (.lst (cs.map cD))) fun d => ∃ cs' : List Cp, cs'.Perm cs ∧ (cs'.map cI).Pairwise leT ∧ d = .lst (cs'.map cD) := by
  intro Q X q
  refine ⟨cs.map cI, lTups_cD cs, fun n hn => ?_, fun ms hp hs => ?_⟩
  · obtain ⟨c, _, rfl⟩ := List.mem_map.mp hn
    exact fun z => nomatch z
  have e : (ms.map unI).map cI = ms := by
    rw [List.map_map]
    refine (List.map_congr_left fun m hm => ?_).trans (List.map_id ms)
    obtain ⟨c, _, rfl⟩ := List.mem_map.mp (hp.mem_iff.mp hm)
    show cI (unI (cI c)) = _
    rw [unI_cI]
    rfl
  refine q _ ⟨ms.map unI, ?_, by rw [e]; exact hs, ?_⟩
  · have := hp.map unI
    rw [List.map_map] at this
    refine this.trans (List.Perm.of_eq ((List.map_congr_left fun c _ => unI_cI c).trans (List.map_id cs)))
  · have e2 : (ms.map unI).map cD = ((ms.map unI).map cI).map fun m => D.tup (m.map D.int) := by
      exact (List.map_map (l := ms.map unI) (f := cI) (g := fun m : List Int => D.tup (m.map D.int))).symm
    rw [e2, e]
theorem For.yard {ol : List Nat} {ss : List Int} {k : Nat} {cs cs' : List Cp} {ws : List (Int × Int)} (F : For ol ss k cs) (hp : cs'.Perm cs) (hs : (cs'.map cI).Pairwise leT) (n1 : 1 ≤ ws.length) (n40 : ws.length ≤ 40) (hl : ol.length = ws.length) (hk : k ≤ ws.length)
    (hss : ss.length = ws.length) (wok : ∀ v w, ws[v]? = some w → -1000000000 ≤ w.1 ∧ w.1 ≤ ss.getD v 0 ∧ ss.getD v 0 ≤ w.2 ∧ w.2 ≤ 1000000000) : VY ws cs' ∧ VS ws cs' ss := by
  have srt : cs'.Pairwise fun a b => a.i < b.i ∨ (a.i = b.i ∧ a.j < b.j) := by
    have h1 : cs'.Pairwise fun a b => leT (cI a) (cI b) := (List.pairwise_map.mp hs)
    have h2 : cs'.Pairwise fun a b => (a.i, a.j) ≠ (b.i, b.j) := (hp.pairwise_iff (fun {a b} h => h.symm)).mpr F.dis
    refine (h1.and h2).imp fun {a b} ⟨h, ne⟩ => ?_
    have h' : (a.i : Int) < b.i ∨ ((a.i : Int) = b.i ∧ ((a.j : Int) < b.j ∨ ((a.j : Int) = b.j ∧ _))) := h
    rcases h' with h | ⟨h1, h | ⟨h2, _⟩⟩
    · exact .inl (by omega)
    · exact .inr ⟨by omega, by omega⟩
    · exact absurd (by rw [show a.i = b.i by omega, show a.j = b.j by omega]) ne
  refine ⟨⟨n1, n40, fun w hw => ?_, fun c hc => ?_, srt, fun i c hc => ?_, by have := hp.length_eq; have := F.few; omega⟩, ⟨hss, fun v w hv => ?_, fun c hc => ?_⟩⟩
  · obtain ⟨v, hv⟩ := List.mem_iff_getElem?.mp hw
    have := wok v w hv
    omega
  · have := F.ok c (hp.mem_iff.mp hc)
    omega
  · obtain ⟨s, s1, s2⟩ := F.cut c (hp.mem_iff.mp (List.mem_of_getElem? hc))
    refine ⟨s, s1, fun l d hd hl => s2 d (hp.mem_iff.mp (List.mem_of_getElem? hd)) fun e => ?_⟩
    obtain ⟨e1, e2⟩ := Prod.mk.inj e
    obtain ⟨hl', rfl⟩ := List.getElem?_eq_some_iff.mp hd
    obtain ⟨hi', rfl⟩ := List.getElem?_eq_some_iff.mp hc
    rcases Nat.lt_or_gt_of_ne hl with h | h
    · have := List.pairwise_iff_getElem.mp srt l i hl' hi' h
      omega
    · have := List.pairwise_iff_getElem.mp srt i l hi' hl' h
      omega
  · have := wok v w hv
    omega
  · have := F.ok c (hp.mem_iff.mp hc)
    omega
end DC
namespace DC
open PySem L2 DL CY
theorem pow109 : powD (.int 10) (.int 9) = pu (.int 1000000000) := by
  show chk (CPow 10 9) (pu (D.int (10 ^ (9 : Int).toNat))) = _
  rw [chk_pos ⟨by decide, by decide, by decide⟩]
  rfl
theorem fdiv_of (i j : Int) (h : 0 < j) (h2 : j.natAbs < 2 ^ 64) : fdivD (.int i) (.int j) = pu (.int (i / j)) := by
  show chk (CDivW i j) (pu (D.int (i / j))) = _
  rw [chk_pos ⟨h, Nat.lt_trans (PySem.Flt.log2_lt_of (by decide) h2) (by decide)⟩]
theorem f16 (i : Int) : fdivD (.int i) (.int 16) = pu (.int (i / 16)) := fdiv_of _ _ (by decide) (by decide)
theorem f192 (i : Int) : fdivD (.int i) (.int 192) = pu (.int (i / 192)) := fdiv_of _ _ (by decide) (by decide)
theorem f4 (i : Int) : fdivD (.int i) (.int 4) = pu (.int (i / 4)) := fdiv_of _ _ (by decide) (by decide)
theorem f5 (i : Int) : fdivD (.int i) (.int 5) = pu (.int (i / 5)) := fdiv_of _ _ (by decide) (by decide)
theorem f20 (i : Int) : fdivD (.int i) (.int 20) = pu (.int (i / 20)) := fdiv_of _ _ (by decide) (by decide)
theorem idx4 {r : Int} (r0 : 0 ≤ r) (a b c d : Int) : ∃ x, (x = a ∨ x = b ∨ x = c ∨ x = d) ∧ idxL [.int a, .int b, .int c, .int d] (r % 4) = pu (.int x) := by
  obtain ⟨y, hy, e⟩ := idx_mod (l := [.int a, .int b, .int c, .int d]) (r := r) r0 (by show 0 < 4; decide)
  simp only [List.mem_cons, List.not_mem_nil, or_false] at hy
  rcases hy with rfl | rfl | rfl | rfl
  · exact ⟨a, .inl rfl, e⟩
  · exact ⟨b, .inr (.inl rfl), e⟩
  · exact ⟨c, .inr (.inr (.inl rfl)), e⟩
  · exact ⟨d, .inr (.inr (.inr rfl)), e⟩
theorem idx5 {r : Int} (r0 : 0 ≤ r) (a b c d f : Int) : ∃ x, (x = a ∨ x = b ∨ x = c ∨ x = d ∨ x = f) ∧ idxL [.int a, .int b, .int c, .int d, .int f] (r % 5) = pu (.int x) := by
  obtain ⟨y, hy, e⟩ := idx_mod (l := [.int a, .int b, .int c, .int d, .int f]) (r := r) r0 (by show 0 < 5; decide)
  simp only [List.mem_cons, List.not_mem_nil, or_false] at hy
  rcases hy with rfl | rfl | rfl | rfl | rfl
  · exact ⟨a, .inl rfl, e⟩
  · exact ⟨b, .inr (.inl rfl), e⟩
  · exact ⟨c, .inr (.inr (.inl rfl)), e⟩
  · exact ⟨d, .inr (.inr (.inr (.inl rfl))), e⟩
  · exact ⟨f, .inr (.inr (.inr (.inr rfl))), e⟩
theorem n_sort2 (a b : Int) : Ens (sortID (.lst [.int a, .int b])) fun d => (a ≤ b ∧ d = .lst [.int a, .int b]) ∨ (b ≤ a ∧ d = .lst [.int b, .int a]) := by
  intro Q X q
  refine ⟨[a, b], rfl, fun ms hp hs => ?_⟩
  have hl := hp.length_eq
  match ms, hl with
  | [x, y], _ =>
    have hxy : x ≤ y := (List.pairwise_cons.mp hs).1 y (by simp)
    have hx : x = a ∨ x = b := by simpa using hp.mem_iff.mp (show x ∈ [x, y] by simp)
    rcases hx with rfl | rfl
    · have : y = b := by simpa using (List.Perm.cons_inv hp).mem_iff.mp (show y ∈ [y] by simp)
      subst this
      exact q _ (.inl ⟨hxy, rfl⟩)
    · have : y = a := by simpa using (List.Perm.cons_inv (hp.trans (List.Perm.swap _ _ _))).mem_iff.mp (show y ∈ [y] by simp)
      subst this
      exact q _ (.inr ⟨hxy, rfl⟩)
theorem all_ints {P : Int → Prop} : ∀ {es : List D}, (∀ e ∈ es, ∃ v, e = .int v ∧ P v) → ∃ ss : List Int, es = ss.map D.int ∧ ∀ v ∈ ss, P v
  | [], _ => ⟨[], rfl, fun _ z => nomatch z⟩
  | e :: es, h => by
    obtain ⟨v, rfl, hv⟩ := h e List.mem_cons_self
    obtain ⟨ss, rfl, hs⟩ := all_ints (es := es) fun e he => h e (List.mem_cons_of_mem _ he)
    exact ⟨v :: ss, rfl, fun u hu => by
      rcases List.mem_cons.mp hu with z | z
      · rw [z]; exact hv
      · exact hs u z⟩
theorem rngL_at {n i : Nat} {d : D} (h : (rngD 1 ((n : Int) - 1).toNat)[i]? = some d) : i < n - 1 ∧ d = .int (1 + (i : Nat)) := by
  unfold rngD at h
  rw [List.getElem?_map] at h
  have e : ((n : Int) - 1).toNat = n - 1 := by omega
  rw [e] at h
  by_cases hi : i < n - 1
  · rw [List.getElem?_range hi] at h
    exact ⟨hi, (Option.some.inj h).symm⟩
  · rw [List.getElem?_eq_none (by simpa using hi)] at h
    cases h
theorem rngL_len {n : Nat} : (rngD 1 ((n : Int) - 1).toNat).length = n - 1 := by
  unfold rngD
  rw [List.length_map, List.length_range]
  omega
theorem n_lot {most : Nat} (hm : 1 ≤ most ∧ most ≤ 40) : Ens (F__law_lot [.src, .int most]) fun d => ∃ ws cs ss, d = .tup [yD ws cs, sD ss] ∧ VY ws cs ∧ VS ws cs ss := by
  unfold F__law_lot g__law_lot
  simp (decide := true) (implicitDefEqProofs := false) only [bodyD, env0, sSeq, thenF, sIf, sRet, sRetN, sRetV, sSet, sSetN, sExpr, sNil, sAsg, sPar, resD, dV, dC, dOp, dUn, dNot, dAnd, dOr, dNotT, dAndT, dOrT, dB, dIf, dChain, dTup, dCons, dNil, dLst, dLstB, dCB, dCall, dCallK, dImm, dYes, a1, a2, bTup, bLst, bCons, bNil, bName, fSeq, seqOf, fRng1, fRng2, fEn, fZip, zip2, one1, ints1, ints2, asB, asI, negD, addD, subD, modD, ltD, gtD, geD, leD, isND, isnND, intOp, intOpC, lenD_lst, lenD_tup, lenD_frz, len_sD, tupleD, listD, absD, max2D, min2D, allD, isiD, tyN, isiT_tt, isiT_ii, isiT_ib, idxD, lsA, gw, gt, opt_some, opt_none, bd_pu, bd_fl, bd_bd, chk_true, chk_tt, D.imm, D.imms, D.isN, List.map_cons, List.map_nil, List.length_cons, List.length_nil, List.set_cons_zero, List.set_cons_succ, List.getElem?_cons_zero, List.getElem?_cons_succ, List.getElem?_nil, Option.bind_some, Option.bind_none, Option.join_some, Option.join_none, Option.map_some, Bool.and_true, Bool.true_and, Bool.and_false, Bool.false_and, Bool.not_true, Bool.not_false, Bool.false_eq_true, Bool.true_eq_false, if_true, if_false, ite_true, ite_false, List.cons_append, List.nil_append, List.append_nil, Nat.zero_add, Nat.reduceAdd, Nat.reduceSub, Nat.reduceLeDiff, Int.reduceNeg, List.replicate_succ, List.replicate_zero, true_and, and_true, List.length_map, and_pu, or_pu, tand_pu, tor_pu, idx_0, idx_1, if_tt, if_ff, dSl, dNo, dSo, slD, imm_cD, imm_wD, intsD, sAppIx, sExt, sApp, lsD, sFor, seq_sD, eq_str, ne_str, eq_int, ne_int, nc0, nc1, nc2, nc3, nc4, decide_true, decide_false, ne_eq, not_true_eq_false, Int.reduceEq, not_false_eq_true, Bool.or_false, Bool.or_true, Bool.false_or, Bool.true_or, List.all_cons, List.all_nil, id_eq]
  refine Ens.bd n_next ?_
  rintro _ ⟨r1, rfl, r10, r11⟩
  have hz : (0 : Int) < (most : Nat) := by omega
  have q1 : 0 ≤ r1 % (most : Nat) := Int.emod_nonneg _ (by omega)
  have q2 : r1 % (most : Nat) < (most : Nat) := Int.emod_lt_of_pos _ (by omega)
  obtain ⟨n, hn⟩ : ∃ n : Nat, 1 + r1 % (most : Nat) = n := ⟨(1 + r1 % (most : Nat)).toNat, by omega⟩
  simp (decide := true) (implicitDefEqProofs := false) only [bodyD, env0, sSeq, thenF, sIf, sRet, sRetN, sRetV, sSet, sSetN, sExpr, sNil, sAsg, sPar, resD, dV, dC, dOp, dUn, dNot, dAnd, dOr, dNotT, dAndT, dOrT, dB, dIf, dChain, dTup, dCons, dNil, dLst, dLstB, dCB, dCall, dCallK, dImm, dYes, a1, a2, bTup, bLst, bCons, bNil, bName, fSeq, seqOf, fRng1, fRng2, fEn, fZip, zip2, one1, ints1, ints2, asB, asI, negD, addD, subD, modD, ltD, gtD, geD, leD, isND, isnND, intOp, intOpC, lenD_lst, lenD_tup, lenD_frz, len_sD, tupleD, listD, absD, max2D, min2D, allD, isiD, tyN, isiT_tt, isiT_ii, isiT_ib, idxD, lsA, gw, gt, opt_some, opt_none, bd_pu, bd_fl, bd_bd, chk_true, chk_tt, D.imm, D.imms, D.isN, List.map_cons, List.map_nil, List.length_cons, List.length_nil, List.set_cons_zero, List.set_cons_succ, List.getElem?_cons_zero, List.getElem?_cons_succ, List.getElem?_nil, Option.bind_some, Option.bind_none, Option.join_some, Option.join_none, Option.map_some, Bool.and_true, Bool.true_and, Bool.and_false, Bool.false_and, Bool.not_true, Bool.not_false, Bool.false_eq_true, Bool.true_eq_false, if_true, if_false, ite_true, ite_false, List.cons_append, List.nil_append, List.append_nil, Nat.zero_add, Nat.reduceAdd, Nat.reduceSub, Nat.reduceLeDiff, Int.reduceNeg, List.replicate_succ, List.replicate_zero, true_and, and_true, List.length_map, and_pu, or_pu, tand_pu, tor_pu, idx_0, idx_1, if_tt, if_ff, dSl, dNo, dSo, slD, imm_cD, imm_wD, intsD, sAppIx, sExt, sApp, lsD, sFor, seq_sD, eq_str, ne_str, eq_int, ne_int, nc0, nc1, nc2, nc3, nc4, decide_true, decide_false, ne_eq, not_true_eq_false, Int.reduceEq, not_false_eq_true, Bool.or_false, Bool.or_true, Bool.false_or, Bool.true_or, List.all_cons, List.all_nil, id_eq, chk_pos hz, hn, pow109]
  refine Ens.bd n_next ?_
  rintro _ ⟨r2, rfl, r20, r21⟩
  obtain ⟨base, hb, eb⟩ := idx5 r20 0 0 0 (1000000000 - 8) (0 - 1000000000)
  simp (decide := true) (implicitDefEqProofs := false) only [bodyD, env0, sSeq, thenF, sIf, sRet, sRetN, sRetV, sSet, sSetN, sExpr, sNil, sAsg, sPar, resD, dV, dC, dOp, dUn, dNot, dAnd, dOr, dNotT, dAndT, dOrT, dB, dIf, dChain, dTup, dCons, dNil, dLst, dLstB, dCB, dCall, dCallK, dImm, dYes, a1, a2, bTup, bLst, bCons, bNil, bName, fSeq, seqOf, fRng1, fRng2, fEn, fZip, zip2, one1, ints1, ints2, asB, asI, negD, addD, subD, modD, ltD, gtD, geD, leD, isND, isnND, intOp, intOpC, lenD_lst, lenD_tup, lenD_frz, len_sD, tupleD, listD, absD, max2D, min2D, allD, isiD, tyN, isiT_tt, isiT_ii, isiT_ib, idxD, lsA, gw, gt, opt_some, opt_none, bd_pu, bd_fl, bd_bd, chk_true, chk_tt, D.imm, D.imms, D.isN, List.map_cons, List.map_nil, List.length_cons, List.length_nil, List.set_cons_zero, List.set_cons_succ, List.getElem?_cons_zero, List.getElem?_cons_succ, List.getElem?_nil, Option.bind_some, Option.bind_none, Option.join_some, Option.join_none, Option.map_some, Bool.and_true, Bool.true_and, Bool.and_false, Bool.false_and, Bool.not_true, Bool.not_false, Bool.false_eq_true, Bool.true_eq_false, if_true, if_false, ite_true, ite_false, List.cons_append, List.nil_append, List.append_nil, Nat.zero_add, Nat.reduceAdd, Nat.reduceSub, Nat.reduceLeDiff, Int.reduceNeg, List.replicate_succ, List.replicate_zero, true_and, and_true, List.length_map, and_pu, or_pu, tand_pu, tor_pu, idx_0, idx_1, if_tt, if_ff, dSl, dNo, dSo, slD, imm_cD, imm_wD, intsD, sAppIx, sExt, sApp, lsD, sFor, seq_sD, eq_str, ne_str, eq_int, ne_int, nc0, nc1, nc2, nc3, nc4, decide_true, decide_false, ne_eq, not_true_eq_false, Int.reduceEq, not_false_eq_true, Bool.or_false, Bool.or_true, Bool.false_or, Bool.true_or, List.all_cons, List.all_nil, id_eq, eb]
  have hnr : -(2 ^ 62) ≤ (n : Int) ∧ (n : Int) < 2 ^ 62 := by omega
  simp (decide := true) (implicitDefEqProofs := false) only [bodyD, env0, sSeq, thenF, sIf, sRet, sRetN, sRetV, sSet, sSetN, sExpr, sNil, sAsg, sPar, resD, dV, dC, dOp, dUn, dNot, dAnd, dOr, dNotT, dAndT, dOrT, dB, dIf, dChain, dTup, dCons, dNil, dLst, dLstB, dCB, dCall, dCallK, dImm, dYes, a1, a2, bTup, bLst, bCons, bNil, bName, fSeq, seqOf, fRng1, fRng2, fEn, fZip, zip2, one1, ints1, ints2, asB, asI, negD, addD, subD, modD, ltD, gtD, geD, leD, isND, isnND, intOp, intOpC, lenD_lst, lenD_tup, lenD_frz, len_sD, tupleD, listD, absD, max2D, min2D, allD, isiD, tyN, isiT_tt, isiT_ii, isiT_ib, idxD, lsA, gw, gt, opt_some, opt_none, bd_pu, bd_fl, bd_bd, chk_true, chk_tt, D.imm, D.imms, D.isN, List.map_cons, List.map_nil, List.length_cons, List.length_nil, List.set_cons_zero, List.set_cons_succ, List.getElem?_cons_zero, List.getElem?_cons_succ, List.getElem?_nil, Option.bind_some, Option.bind_none, Option.join_some, Option.join_none, Option.map_some, Bool.and_true, Bool.true_and, Bool.and_false, Bool.false_and, Bool.not_true, Bool.not_false, Bool.false_eq_true, Bool.true_eq_false, if_true, if_false, ite_true, ite_false, List.cons_append, List.nil_append, List.append_nil, Nat.zero_add, Nat.reduceAdd, Nat.reduceSub, Nat.reduceLeDiff, Int.reduceNeg, List.replicate_succ, List.replicate_zero, true_and, and_true, List.length_map, and_pu, or_pu, tand_pu, tor_pu, idx_0, idx_1, if_tt, if_ff, dSl, dNo, dSo, slD, imm_cD, imm_wD, intsD, sAppIx, sExt, sApp, lsD, sFor, seq_sD, eq_str, ne_str, eq_int, ne_int, nc0, nc1, nc2, nc3, nc4, decide_true, decide_false, ne_eq, not_true_eq_false, Int.reduceEq, not_false_eq_true, Bool.or_false, Bool.or_true, Bool.false_or, Bool.true_or, List.all_cons, List.all_nil, id_eq, chk_pos hnr, dLc, wipeE, Int.toNat_natCast]
  refine Ens.bd (Ens.lc (fun e => ∃ v, e = .int v ∧ base ≤ v ∧ v ≤ base + 8) (rngD 0 n) [] (by rw [rngD_len]; exact small (by show 0 + n ≤ 1000; omega)) (fun _ z => nomatch z) fun d hd => ?_) ?_
  · obtain ⟨i, hi⟩ := List.mem_iff_getElem?.mp hd
    obtain ⟨_, rfl⟩ := rngD_at hi
    refine ⟨_, by simp (decide := true) (implicitDefEqProofs := false) only [bodyD, env0, sSeq, thenF, sIf, sRet, sRetN, sRetV, sSet, sSetN, sExpr, sNil, sAsg, sPar, resD, dV, dC, dOp, dUn, dNot, dAnd, dOr, dNotT, dAndT, dOrT, dB, dIf, dChain, dTup, dCons, dNil, dLst, dLstB, dCB, dCall, dCallK, dImm, dYes, a1, a2, bTup, bLst, bCons, bNil, bName, fSeq, seqOf, fRng1, fRng2, fEn, fZip, zip2, one1, ints1, ints2, asB, asI, negD, addD, subD, modD, ltD, gtD, geD, leD, isND, isnND, intOp, intOpC, lenD_lst, lenD_tup, lenD_frz, len_sD, tupleD, listD, absD, max2D, min2D, allD, isiD, tyN, isiT_tt, isiT_ii, isiT_ib, idxD, lsA, gw, gt, opt_some, opt_none, bd_pu, bd_fl, bd_bd, chk_true, chk_tt, D.imm, D.imms, D.isN, List.map_cons, List.map_nil, List.length_cons, List.length_nil, List.set_cons_zero, List.set_cons_succ, List.getElem?_cons_zero, List.getElem?_cons_succ, List.getElem?_nil, Option.bind_some, Option.bind_none, Option.join_some, Option.join_none, Option.map_some, Bool.and_true, Bool.true_and, Bool.and_false, Bool.false_and, Bool.not_true, Bool.not_false, Bool.false_eq_true, Bool.true_eq_false, if_true, if_false, ite_true, ite_false, List.cons_append, List.nil_append, List.append_nil, Nat.zero_add, Nat.reduceAdd, Nat.reduceSub, Nat.reduceLeDiff, Int.reduceNeg, List.replicate_succ, List.replicate_zero, true_and, and_true, List.length_map, and_pu, or_pu, tand_pu, tor_pu, idx_0, idx_1, if_tt, if_ff, dSl, dNo, dSo, slD, imm_cD, imm_wD, intsD, sAppIx, sExt, sApp, lsD, sFor, seq_sD, eq_str, ne_str, eq_int, ne_int, nc0, nc1, nc2, nc3, nc4, decide_true, decide_false, ne_eq, not_true_eq_false, Int.reduceEq, not_false_eq_true, Bool.or_false, Bool.or_true, Bool.false_or, Bool.true_or, List.all_cons, List.all_nil, id_eq]; rfl, ?_⟩
    simp (decide := true) (implicitDefEqProofs := false) only [bodyD, env0, sSeq, thenF, sIf, sRet, sRetN, sRetV, sSet, sSetN, sExpr, sNil, sAsg, sPar, resD, dV, dC, dOp, dUn, dNot, dAnd, dOr, dNotT, dAndT, dOrT, dB, dIf, dChain, dTup, dCons, dNil, dLst, dLstB, dCB, dCall, dCallK, dImm, dYes, a1, a2, bTup, bLst, bCons, bNil, bName, fSeq, seqOf, fRng1, fRng2, fEn, fZip, zip2, one1, ints1, ints2, asB, asI, negD, addD, subD, modD, ltD, gtD, geD, leD, isND, isnND, intOp, intOpC, lenD_lst, lenD_tup, lenD_frz, len_sD, tupleD, listD, absD, max2D, min2D, allD, isiD, tyN, isiT_tt, isiT_ii, isiT_ib, idxD, lsA, gw, gt, opt_some, opt_none, bd_pu, bd_fl, bd_bd, chk_true, chk_tt, D.imm, D.imms, D.isN, List.map_cons, List.map_nil, List.length_cons, List.length_nil, List.set_cons_zero, List.set_cons_succ, List.getElem?_cons_zero, List.getElem?_cons_succ, List.getElem?_nil, Option.bind_some, Option.bind_none, Option.join_some, Option.join_none, Option.map_some, Bool.and_true, Bool.true_and, Bool.and_false, Bool.false_and, Bool.not_true, Bool.not_false, Bool.false_eq_true, Bool.true_eq_false, if_true, if_false, ite_true, ite_false, List.cons_append, List.nil_append, List.append_nil, Nat.zero_add, Nat.reduceAdd, Nat.reduceSub, Nat.reduceLeDiff, Int.reduceNeg, List.replicate_succ, List.replicate_zero, true_and, and_true, List.length_map, and_pu, or_pu, tand_pu, tor_pu, idx_0, idx_1, if_tt, if_ff, dSl, dNo, dSo, slD, imm_cD, imm_wD, intsD, sAppIx, sExt, sApp, lsD, sFor, seq_sD, eq_str, ne_str, eq_int, ne_int, nc0, nc1, nc2, nc3, nc4, decide_true, decide_false, ne_eq, not_true_eq_false, Int.reduceEq, not_false_eq_true, Bool.or_false, Bool.or_true, Bool.false_or, Bool.true_or, List.all_cons, List.all_nil, id_eq]
    refine Ens.bd n_next ?_
    rintro _ ⟨r, rfl, r0, r1⟩
    simp (decide := true) (implicitDefEqProofs := false) only [bodyD, env0, sSeq, thenF, sIf, sRet, sRetN, sRetV, sSet, sSetN, sExpr, sNil, sAsg, sPar, resD, dV, dC, dOp, dUn, dNot, dAnd, dOr, dNotT, dAndT, dOrT, dB, dIf, dChain, dTup, dCons, dNil, dLst, dLstB, dCB, dCall, dCallK, dImm, dYes, a1, a2, bTup, bLst, bCons, bNil, bName, fSeq, seqOf, fRng1, fRng2, fEn, fZip, zip2, one1, ints1, ints2, asB, asI, negD, addD, subD, modD, ltD, gtD, geD, leD, isND, isnND, intOp, intOpC, lenD_lst, lenD_tup, lenD_frz, len_sD, tupleD, listD, absD, max2D, min2D, allD, isiD, tyN, isiT_tt, isiT_ii, isiT_ib, idxD, lsA, gw, gt, opt_some, opt_none, bd_pu, bd_fl, bd_bd, chk_true, chk_tt, D.imm, D.imms, D.isN, List.map_cons, List.map_nil, List.length_cons, List.length_nil, List.set_cons_zero, List.set_cons_succ, List.getElem?_cons_zero, List.getElem?_cons_succ, List.getElem?_nil, Option.bind_some, Option.bind_none, Option.join_some, Option.join_none, Option.map_some, Bool.and_true, Bool.true_and, Bool.and_false, Bool.false_and, Bool.not_true, Bool.not_false, Bool.false_eq_true, Bool.true_eq_false, if_true, if_false, ite_true, ite_false, List.cons_append, List.nil_append, List.append_nil, Nat.zero_add, Nat.reduceAdd, Nat.reduceSub, Nat.reduceLeDiff, Int.reduceNeg, List.replicate_succ, List.replicate_zero, true_and, and_true, List.length_map, and_pu, or_pu, tand_pu, tor_pu, idx_0, idx_1, if_tt, if_ff, dSl, dNo, dSo, slD, imm_cD, imm_wD, intsD, sAppIx, sExt, sApp, lsD, sFor, seq_sD, eq_str, ne_str, eq_int, ne_int, nc0, nc1, nc2, nc3, nc4, decide_true, decide_false, ne_eq, not_true_eq_false, Int.reduceEq, not_false_eq_true, Bool.or_false, Bool.or_true, Bool.false_or, Bool.true_or, List.all_cons, List.all_nil, id_eq]
    exact Ens.pu ⟨⟨_, rfl, by omega, by omega⟩, rfl⟩
  · rintro es ⟨hl, hes⟩
    rw [rngD_len, List.length_nil, Nat.zero_add] at hl
    obtain ⟨ss, rfl, hss⟩ := all_ints hes
    rw [List.length_map] at hl
    simp (decide := true) (implicitDefEqProofs := false) only [bodyD, env0, sSeq, thenF, sIf, sRet, sRetN, sRetV, sSet, sSetN, sExpr, sNil, sAsg, sPar, resD, dV, dC, dOp, dUn, dNot, dAnd, dOr, dNotT, dAndT, dOrT, dB, dIf, dChain, dTup, dCons, dNil, dLst, dLstB, dCB, dCall, dCallK, dImm, dYes, a1, a2, bTup, bLst, bCons, bNil, bName, fSeq, seqOf, fRng1, fRng2, fEn, fZip, zip2, one1, ints1, ints2, asB, asI, negD, addD, subD, modD, ltD, gtD, geD, leD, isND, isnND, intOp, intOpC, lenD_lst, lenD_tup, lenD_frz, len_sD, tupleD, listD, absD, max2D, min2D, allD, isiD, tyN, isiT_tt, isiT_ii, isiT_ib, idxD, lsA, gw, gt, opt_some, opt_none, bd_pu, bd_fl, bd_bd, chk_true, chk_tt, D.imm, D.imms, D.isN, List.map_cons, List.map_nil, List.length_cons, List.length_nil, List.set_cons_zero, List.set_cons_succ, List.getElem?_cons_zero, List.getElem?_cons_succ, List.getElem?_nil, Option.bind_some, Option.bind_none, Option.join_some, Option.join_none, Option.map_some, Bool.and_true, Bool.true_and, Bool.and_false, Bool.false_and, Bool.not_true, Bool.not_false, Bool.false_eq_true, Bool.true_eq_false, if_true, if_false, ite_true, ite_false, List.cons_append, List.nil_append, List.append_nil, Nat.zero_add, Nat.reduceAdd, Nat.reduceSub, Nat.reduceLeDiff, Int.reduceNeg, List.replicate_succ, List.replicate_zero, true_and, and_true, List.length_map, and_pu, or_pu, tand_pu, tor_pu, idx_0, idx_1, if_tt, if_ff, dSl, dNo, dSo, slD, imm_cD, imm_wD, intsD, sAppIx, sExt, sApp, lsD, sFor, seq_sD, eq_str, ne_str, eq_int, ne_int, nc0, nc1, nc2, nc3, nc4, decide_true, decide_false, ne_eq, not_true_eq_false, Int.reduceEq, not_false_eq_true, Bool.or_false, Bool.or_true, Bool.false_or, Bool.true_or, List.all_cons, List.all_nil, id_eq, imms_int]
    refine Ens.bdFor (fun i δ => ∃ (ws : List (Int × Int)) (a b c d : Option D), ws.length = i ∧ (∀ v w, ws[v]? = some w → -1000000000 ≤ w.1 ∧ w.1 ≤ ss.getD v 0 ∧ ss.getD v 0 ≤ w.2 ∧ w.2 ≤ 1000000000) ∧
      δ = [some .src, some (.int most), some (.int n), some (.int base), some (.lst (ss.map D.int)), some (.lst (ws.map wD)), a, b, c, d, none, none, none, none, none, none, none, none]) ⟨[], none, none, none, none, rfl, fun v w h => by simp at h, rfl⟩ ?_ ?_
    · rintro i d δ hd ⟨ws, a, b, c, d', hw, hok, rfl⟩
      obtain ⟨sp, hsp, rfl⟩ := map_at D.int ss hd
      have hsp' := hss sp (List.mem_of_getElem? hsp)
      have hsi : ss.getD i 0 = sp := by rw [List.getD_eq_getElem?_getD, hsp]; rfl
      have hi : i < n := by rw [← hl]; exact (List.getElem?_eq_some_iff.mp hsp).1
      simp (decide := true) (implicitDefEqProofs := false) only [bodyD, env0, sSeq, thenF, sIf, sRet, sRetN, sRetV, sSet, sSetN, sExpr, sNil, sAsg, sPar, resD, dV, dC, dOp, dUn, dNot, dAnd, dOr, dNotT, dAndT, dOrT, dB, dIf, dChain, dTup, dCons, dNil, dLst, dLstB, dCB, dCall, dCallK, dImm, dYes, a1, a2, bTup, bLst, bCons, bNil, bName, fSeq, seqOf, fRng1, fRng2, fEn, fZip, zip2, one1, ints1, ints2, asB, asI, negD, addD, subD, modD, ltD, gtD, geD, leD, isND, isnND, intOp, intOpC, lenD_lst, lenD_tup, lenD_frz, len_sD, tupleD, listD, absD, max2D, min2D, allD, isiD, tyN, isiT_tt, isiT_ii, isiT_ib, idxD, lsA, gw, gt, opt_some, opt_none, bd_pu, bd_fl, bd_bd, chk_true, chk_tt, D.imm, D.imms, D.isN, List.map_cons, List.map_nil, List.length_cons, List.length_nil, List.set_cons_zero, List.set_cons_succ, List.getElem?_cons_zero, List.getElem?_cons_succ, List.getElem?_nil, Option.bind_some, Option.bind_none, Option.join_some, Option.join_none, Option.map_some, Bool.and_true, Bool.true_and, Bool.and_false, Bool.false_and, Bool.not_true, Bool.not_false, Bool.false_eq_true, Bool.true_eq_false, if_true, if_false, ite_true, ite_false, List.cons_append, List.nil_append, List.append_nil, Nat.zero_add, Nat.reduceAdd, Nat.reduceSub, Nat.reduceLeDiff, Int.reduceNeg, List.replicate_succ, List.replicate_zero, true_and, and_true, List.length_map, and_pu, or_pu, tand_pu, tor_pu, idx_0, idx_1, if_tt, if_ff, dSl, dNo, dSo, slD, imm_cD, imm_wD, intsD, sAppIx, sExt, sApp, lsD, sFor, seq_sD, eq_str, ne_str, eq_int, ne_int, nc0, nc1, nc2, nc3, nc4, decide_true, decide_false, ne_eq, not_true_eq_false, Int.reduceEq, not_false_eq_true, Bool.or_false, Bool.or_true, Bool.false_or, Bool.true_or, List.all_cons, List.all_nil, id_eq]
      refine Ens.bd n_next ?_
      rintro _ ⟨r, rfl, r0, r1⟩
      obtain ⟨x, hx, ex⟩ := idx4 r0 0 1 3 (r / 16 % 12)
      obtain ⟨y, hy, ey⟩ := idx4 (show 0 ≤ r / 4 by omega) 0 2 4 (r / 192 % 12)
      have hx' : 0 ≤ x ∧ x ≤ 11 := by omega
      have hy' : 0 ≤ y ∧ y ≤ 11 := by omega
      have hwl : ws.length < sizeLine := small (by omega)
      simp (decide := true) (implicitDefEqProofs := false) only [bodyD, env0, sSeq, thenF, sIf, sRet, sRetN, sRetV, sSet, sSetN, sExpr, sNil, sAsg, sPar, resD, dV, dC, dOp, dUn, dNot, dAnd, dOr, dNotT, dAndT, dOrT, dB, dIf, dChain, dTup, dCons, dNil, dLst, dLstB, dCB, dCall, dCallK, dImm, dYes, a1, a2, bTup, bLst, bCons, bNil, bName, fSeq, seqOf, fRng1, fRng2, fEn, fZip, zip2, one1, ints1, ints2, asB, asI, negD, addD, subD, modD, ltD, gtD, geD, leD, isND, isnND, intOp, intOpC, lenD_lst, lenD_tup, lenD_frz, len_sD, tupleD, listD, absD, max2D, min2D, allD, isiD, tyN, isiT_tt, isiT_ii, isiT_ib, idxD, lsA, gw, gt, opt_some, opt_none, bd_pu, bd_fl, bd_bd, chk_true, chk_tt, D.imm, D.imms, D.isN, List.map_cons, List.map_nil, List.length_cons, List.length_nil, List.set_cons_zero, List.set_cons_succ, List.getElem?_cons_zero, List.getElem?_cons_succ, List.getElem?_nil, Option.bind_some, Option.bind_none, Option.join_some, Option.join_none, Option.map_some, Bool.and_true, Bool.true_and, Bool.and_false, Bool.false_and, Bool.not_true, Bool.not_false, Bool.false_eq_true, Bool.true_eq_false, if_true, if_false, ite_true, ite_false, List.cons_append, List.nil_append, List.append_nil, Nat.zero_add, Nat.reduceAdd, Nat.reduceSub, Nat.reduceLeDiff, Int.reduceNeg, List.replicate_succ, List.replicate_zero, true_and, and_true, List.length_map, and_pu, or_pu, tand_pu, tor_pu, idx_0, idx_1, if_tt, if_ff, dSl, dNo, dSo, slD, imm_cD, imm_wD, intsD, sAppIx, sExt, sApp, lsD, sFor, seq_sD, eq_str, ne_str, eq_int, ne_int, nc0, nc1, nc2, nc3, nc4, decide_true, decide_false, ne_eq, not_true_eq_false, Int.reduceEq, not_false_eq_true, Bool.or_false, Bool.or_true, Bool.false_or, Bool.true_or, List.all_cons, List.all_nil, id_eq, f16, f4, f192, ex, ey, pow109, imms_wD, hwl]
      have ew2 : ws.map wD ++ [D.tup [D.int (if 0 - 1000000000 > sp - x then 0 - 1000000000 else sp - x), D.int (if 1000000000 < sp + y then 1000000000 else sp + y)]] = (ws ++ [((if 0 - 1000000000 > sp - x then 0 - 1000000000 else sp - x), (if 1000000000 < sp + y then 1000000000 else sp + y))]).map wD := by
        rw [List.map_append]
        rfl
      rw [ew2]
      refine Ens.pu ⟨_, rfl, ws ++ [((if 0 - 1000000000 > sp - x then 0 - 1000000000 else sp - x), (if 1000000000 < sp + y then 1000000000 else sp + y))], _, _, _, _, ?_, ?_, rfl⟩
      · rw [List.length_append, List.length_singleton, hw]
      · intro v w hv
        by_cases hvl : v < ws.length
        · rw [List.getElem?_append_left hvl] at hv
          exact hok v w hv
        · have : v = ws.length := by
            have := (List.getElem?_eq_some_iff.mp hv).1
            rw [List.length_append, List.length_singleton] at this
            omega
          subst this
          rw [List.getElem?_append_right (Nat.le_refl _), Nat.sub_self] at hv
          have ew := (Option.some.inj hv).symm
          subst ew
          rw [hw, hsi]
          show -1000000000 ≤ (if 0 - 1000000000 > sp - x then 0 - 1000000000 else sp - x) ∧ (if 0 - 1000000000 > sp - x then 0 - 1000000000 else sp - x) ≤ sp ∧ sp ≤ (if 1000000000 < sp + y then 1000000000 else sp + y) ∧ (if 1000000000 < sp + y then 1000000000 else sp + y) ≤ 1000000000
          split <;> split <;> omega
    · rintro δ' ⟨ws, a, b, c, d', hw, hok, rfl⟩
      rw [List.length_map, hl] at hw
      simp (decide := true) (implicitDefEqProofs := false) only [bodyD, env0, sSeq, thenF, sIf, sRet, sRetN, sRetV, sSet, sSetN, sExpr, sNil, sAsg, sPar, resD, dV, dC, dOp, dUn, dNot, dAnd, dOr, dNotT, dAndT, dOrT, dB, dIf, dChain, dTup, dCons, dNil, dLst, dLstB, dCB, dCall, dCallK, dImm, dYes, a1, a2, bTup, bLst, bCons, bNil, bName, fSeq, seqOf, fRng1, fRng2, fEn, fZip, zip2, one1, ints1, ints2, asB, asI, negD, addD, subD, modD, ltD, gtD, geD, leD, isND, isnND, intOp, intOpC, lenD_lst, lenD_tup, lenD_frz, len_sD, tupleD, listD, absD, max2D, min2D, allD, isiD, tyN, isiT_tt, isiT_ii, isiT_ib, idxD, lsA, gw, gt, opt_some, opt_none, bd_pu, bd_fl, bd_bd, chk_true, chk_tt, D.imm, D.imms, D.isN, List.map_cons, List.map_nil, List.length_cons, List.length_nil, List.set_cons_zero, List.set_cons_succ, List.getElem?_cons_zero, List.getElem?_cons_succ, List.getElem?_nil, Option.bind_some, Option.bind_none, Option.join_some, Option.join_none, Option.map_some, Bool.and_true, Bool.true_and, Bool.and_false, Bool.false_and, Bool.not_true, Bool.not_false, Bool.false_eq_true, Bool.true_eq_false, if_true, if_false, ite_true, ite_false, List.cons_append, List.nil_append, List.append_nil, Nat.zero_add, Nat.reduceAdd, Nat.reduceSub, Nat.reduceLeDiff, Int.reduceNeg, List.replicate_succ, List.replicate_zero, true_and, and_true, List.length_map, and_pu, or_pu, tand_pu, tor_pu, idx_0, idx_1, if_tt, if_ff, dSl, dNo, dSo, slD, imm_cD, imm_wD, intsD, sAppIx, sExt, sApp, lsD, sFor, seq_sD, eq_str, ne_str, eq_int, ne_int, nc0, nc1, nc2, nc3, nc4, decide_true, decide_false, ne_eq, not_true_eq_false, Int.reduceEq, not_false_eq_true, Bool.or_false, Bool.or_true, Bool.false_or, Bool.true_or, List.all_cons, List.all_nil, id_eq]
      refine Ens.bd (n_shuffled (n := n) (by omega)) ?_
      rintro _ ⟨ol, hp, rfl⟩
      have hol : ol.length = n := by rw [hp.length_eq, List.length_range]
      have nd : ol.Nodup := hp.nodup_iff.mpr List.nodup_range
      have olt : ∀ p, p < n → ol.getD p 0 < n := fun p hp' => by
        have h1 : ol.getD p 0 ∈ ol := by
          rw [List.getD_eq_getElem?_getD, List.getElem?_eq_getElem (by omega)]
          exact List.getElem_mem _
        exact List.mem_range.mp (hp.mem_iff.mp h1)
      have nIl : (nI ol).length = n := by unfold nI; rw [List.length_map, hol]
      have nId : ∀ p, p < n → idxL ((nI ol).map D.int) (p : Int) = pu (.int (ol.getD p 0 : Nat)) := fun p hp' => by
        rw [idx_int (by omega)]
        unfold nI
        rw [List.getD_eq_getElem?_getD, List.getElem?_map, List.getD_eq_getElem?_getD, List.getElem?_eq_getElem (by omega)]
        rfl
      have hn2 : -(2 ^ 62) ≤ (1 : Int) ∧ (1 : Int) < 2 ^ 62 ∧ -(2 ^ 62) ≤ (n : Int) ∧ (n : Int) < 2 ^ 62 := by omega
      simp (decide := true) (implicitDefEqProofs := false) only [bodyD, env0, sSeq, thenF, sIf, sRet, sRetN, sRetV, sSet, sSetN, sExpr, sNil, sAsg, sPar, resD, dV, dC, dOp, dUn, dNot, dAnd, dOr, dNotT, dAndT, dOrT, dB, dIf, dChain, dTup, dCons, dNil, dLst, dLstB, dCB, dCall, dCallK, dImm, dYes, a1, a2, bTup, bLst, bCons, bNil, bName, fSeq, seqOf, fRng1, fRng2, fEn, fZip, zip2, one1, ints1, ints2, asB, asI, negD, addD, subD, modD, ltD, gtD, geD, leD, isND, isnND, intOp, intOpC, lenD_lst, lenD_tup, lenD_frz, len_sD, tupleD, listD, absD, max2D, min2D, allD, isiD, tyN, isiT_tt, isiT_ii, isiT_ib, idxD, lsA, gw, gt, opt_some, opt_none, bd_pu, bd_fl, bd_bd, chk_true, chk_tt, D.imm, D.imms, D.isN, List.map_cons, List.map_nil, List.length_cons, List.length_nil, List.set_cons_zero, List.set_cons_succ, List.getElem?_cons_zero, List.getElem?_cons_succ, List.getElem?_nil, Option.bind_some, Option.bind_none, Option.join_some, Option.join_none, Option.map_some, Bool.and_true, Bool.true_and, Bool.and_false, Bool.false_and, Bool.not_true, Bool.not_false, Bool.false_eq_true, Bool.true_eq_false, if_true, if_false, ite_true, ite_false, List.cons_append, List.nil_append, List.append_nil, Nat.zero_add, Nat.reduceAdd, Nat.reduceSub, Nat.reduceLeDiff, Int.reduceNeg, List.replicate_succ, List.replicate_zero, true_and, and_true, List.length_map, and_pu, or_pu, tand_pu, tor_pu, idx_0, idx_1, if_tt, if_ff, dSl, dNo, dSo, slD, imm_cD, imm_wD, intsD, sAppIx, sExt, sApp, lsD, sFor, seq_sD, eq_str, ne_str, eq_int, ne_int, nc0, nc1, nc2, nc3, nc4, decide_true, decide_false, ne_eq, not_true_eq_false, Int.reduceEq, not_false_eq_true, Bool.or_false, Bool.or_true, Bool.false_or, Bool.true_or, List.all_cons, List.all_nil, id_eq, chk_pos hnr]
      refine Ens.bdFor (fun i δ => ∃ (cs : List Cp) (x y z u e f g h o p : Option D), For ol ss (i + 1) cs ∧
        δ = [some .src, some (.int most), some (.int n), some (.int base), some (.lst (ss.map D.int)), some (.lst (ws.map wD)), x, y, z, u, some (.lst ((nI ol).map D.int)), some (.lst (cs.map cD)), e, f, g, h, o, p])
        ⟨[], _, _, _, _, _, _, _, _, _, _, ⟨(fun _ z => nomatch z), (fun _ z => nomatch z), List.Pairwise.nil, (fun _ z => nomatch z), by show 0 < 0 + 1; omega⟩, rfl⟩ ?_ ?_
      · rintro i d δ hd ⟨cs, x, y, z, u, e, f, g, h, o, p, F, rfl⟩
        obtain ⟨hi, rfl⟩ := rngL_at hd
        have hk : i + 1 < n := by omega
        rw [show (1 : Int) + (i : Int) = ((i + 1 : Nat) : Int) by omega]
        simp (decide := true) (implicitDefEqProofs := false) only [bodyD, env0, sSeq, thenF, sIf, sRet, sRetN, sRetV, sSet, sSetN, sExpr, sNil, sAsg, sPar, resD, dV, dC, dOp, dUn, dNot, dAnd, dOr, dNotT, dAndT, dOrT, dB, dIf, dChain, dTup, dCons, dNil, dLst, dLstB, dCB, dCall, dCallK, dImm, dYes, a1, a2, bTup, bLst, bCons, bNil, bName, fSeq, seqOf, fRng1, fRng2, fEn, fZip, zip2, one1, ints1, ints2, asB, asI, negD, addD, subD, modD, ltD, gtD, geD, leD, isND, isnND, intOp, intOpC, lenD_lst, lenD_tup, lenD_frz, len_sD, tupleD, listD, absD, max2D, min2D, allD, isiD, tyN, isiT_tt, isiT_ii, isiT_ib, idxD, lsA, gw, gt, opt_some, opt_none, bd_pu, bd_fl, bd_bd, chk_true, chk_tt, D.imm, D.imms, D.isN, List.map_cons, List.map_nil, List.length_cons, List.length_nil, List.set_cons_zero, List.set_cons_succ, List.getElem?_cons_zero, List.getElem?_cons_succ, List.getElem?_nil, Option.bind_some, Option.bind_none, Option.join_some, Option.join_none, Option.map_some, Bool.and_true, Bool.true_and, Bool.and_false, Bool.false_and, Bool.not_true, Bool.not_false, Bool.false_eq_true, Bool.true_eq_false, if_true, if_false, ite_true, ite_false, List.cons_append, List.nil_append, List.append_nil, Nat.zero_add, Nat.reduceAdd, Nat.reduceSub, Nat.reduceLeDiff, Int.reduceNeg, List.replicate_succ, List.replicate_zero, true_and, and_true, List.length_map, and_pu, or_pu, tand_pu, tor_pu, idx_0, idx_1, if_tt, if_ff, dSl, dNo, dSo, slD, imm_cD, imm_wD, intsD, sAppIx, sExt, sApp, lsD, sFor, seq_sD, eq_str, ne_str, eq_int, ne_int, nc0, nc1, nc2, nc3, nc4, decide_true, decide_false, ne_eq, not_true_eq_false, Int.reduceEq, not_false_eq_true, Bool.or_false, Bool.or_true, Bool.false_or, Bool.true_or, List.all_cons, List.all_nil, id_eq]
        refine Ens.bd n_next ?_
        rintro _ ⟨r, rfl, r0, r1⟩
        simp (decide := true) (implicitDefEqProofs := false) only [bodyD, env0, sSeq, thenF, sIf, sRet, sRetN, sRetV, sSet, sSetN, sExpr, sNil, sAsg, sPar, resD, dV, dC, dOp, dUn, dNot, dAnd, dOr, dNotT, dAndT, dOrT, dB, dIf, dChain, dTup, dCons, dNil, dLst, dLstB, dCB, dCall, dCallK, dImm, dYes, a1, a2, bTup, bLst, bCons, bNil, bName, fSeq, seqOf, fRng1, fRng2, fEn, fZip, zip2, one1, ints1, ints2, asB, asI, negD, addD, subD, modD, ltD, gtD, geD, leD, isND, isnND, intOp, intOpC, lenD_lst, lenD_tup, lenD_frz, len_sD, tupleD, listD, absD, max2D, min2D, allD, isiD, tyN, isiT_tt, isiT_ii, isiT_ib, idxD, lsA, gw, gt, opt_some, opt_none, bd_pu, bd_fl, bd_bd, chk_true, chk_tt, D.imm, D.imms, D.isN, List.map_cons, List.map_nil, List.length_cons, List.length_nil, List.set_cons_zero, List.set_cons_succ, List.getElem?_cons_zero, List.getElem?_cons_succ, List.getElem?_nil, Option.bind_some, Option.bind_none, Option.join_some, Option.join_none, Option.map_some, Bool.and_true, Bool.true_and, Bool.and_false, Bool.false_and, Bool.not_true, Bool.not_false, Bool.false_eq_true, Bool.true_eq_false, if_true, if_false, ite_true, ite_false, List.cons_append, List.nil_append, List.append_nil, Nat.zero_add, Nat.reduceAdd, Nat.reduceSub, Nat.reduceLeDiff, Int.reduceNeg, List.replicate_succ, List.replicate_zero, true_and, and_true, List.length_map, and_pu, or_pu, tand_pu, tor_pu, idx_0, idx_1, if_tt, if_ff, dSl, dNo, dSo, slD, imm_cD, imm_wD, intsD, sAppIx, sExt, sApp, lsD, sFor, seq_sD, eq_str, ne_str, eq_int, ne_int, nc0, nc1, nc2, nc3, nc4, decide_true, decide_false, ne_eq, not_true_eq_false, Int.reduceEq, not_false_eq_true, Bool.or_false, Bool.or_true, Bool.false_or, Bool.true_or, List.all_cons, List.all_nil, id_eq]
        by_cases hr : 0 < r % 5
        · have hrd : decide (0 < r % 5) = true := decide_eq_true hr
          simp (decide := true) (implicitDefEqProofs := false) only [bodyD, env0, sSeq, thenF, sIf, sRet, sRetN, sRetV, sSet, sSetN, sExpr, sNil, sAsg, sPar, resD, dV, dC, dOp, dUn, dNot, dAnd, dOr, dNotT, dAndT, dOrT, dB, dIf, dChain, dTup, dCons, dNil, dLst, dLstB, dCB, dCall, dCallK, dImm, dYes, a1, a2, bTup, bLst, bCons, bNil, bName, fSeq, seqOf, fRng1, fRng2, fEn, fZip, zip2, one1, ints1, ints2, asB, asI, negD, addD, subD, modD, ltD, gtD, geD, leD, isND, isnND, intOp, intOpC, lenD_lst, lenD_tup, lenD_frz, len_sD, tupleD, listD, absD, max2D, min2D, allD, isiD, tyN, isiT_tt, isiT_ii, isiT_ib, idxD, lsA, gw, gt, opt_some, opt_none, bd_pu, bd_fl, bd_bd, chk_true, chk_tt, D.imm, D.imms, D.isN, List.map_cons, List.map_nil, List.length_cons, List.length_nil, List.set_cons_zero, List.set_cons_succ, List.getElem?_cons_zero, List.getElem?_cons_succ, List.getElem?_nil, Option.bind_some, Option.bind_none, Option.join_some, Option.join_none, Option.map_some, Bool.and_true, Bool.true_and, Bool.and_false, Bool.false_and, Bool.not_true, Bool.not_false, Bool.false_eq_true, Bool.true_eq_false, if_true, if_false, ite_true, ite_false, List.cons_append, List.nil_append, List.append_nil, Nat.zero_add, Nat.reduceAdd, Nat.reduceSub, Nat.reduceLeDiff, Int.reduceNeg, List.replicate_succ, List.replicate_zero, true_and, and_true, List.length_map, and_pu, or_pu, tand_pu, tor_pu, idx_0, idx_1, if_tt, if_ff, dSl, dNo, dSo, slD, imm_cD, imm_wD, intsD, sAppIx, sExt, sApp, lsD, sFor, seq_sD, eq_str, ne_str, eq_int, ne_int, nc0, nc1, nc2, nc3, nc4, decide_true, decide_false, ne_eq, not_true_eq_false, Int.reduceEq, not_false_eq_true, Bool.or_false, Bool.or_true, Bool.false_or, Bool.true_or, List.all_cons, List.all_nil, id_eq, hrd, nId (i + 1) hk]
          refine Ens.bd n_next ?_
          rintro _ ⟨r', rfl, r0', r1'⟩
          have hz2 : (0 : Int) < ((i + 1 : Nat) : Int) := by omega
          have w1 : 0 ≤ r' % ((i + 1 : Nat) : Int) := Int.emod_nonneg _ (by omega)
          have w2 : r' % ((i + 1 : Nat) : Int) < ((i + 1 : Nat) : Int) := Int.emod_lt_of_pos _ hz2
          obtain ⟨q, hq⟩ := Int.eq_ofNat_of_zero_le w1
          have hq' : q < i + 1 := by omega
          simp (decide := true) (implicitDefEqProofs := false) only [bodyD, env0, sSeq, thenF, sIf, sRet, sRetN, sRetV, sSet, sSetN, sExpr, sNil, sAsg, sPar, resD, dV, dC, dOp, dUn, dNot, dAnd, dOr, dNotT, dAndT, dOrT, dB, dIf, dChain, dTup, dCons, dNil, dLst, dLstB, dCB, dCall, dCallK, dImm, dYes, a1, a2, bTup, bLst, bCons, bNil, bName, fSeq, seqOf, fRng1, fRng2, fEn, fZip, zip2, one1, ints1, ints2, asB, asI, negD, addD, subD, modD, ltD, gtD, geD, leD, isND, isnND, intOp, intOpC, lenD_lst, lenD_tup, lenD_frz, len_sD, tupleD, listD, absD, max2D, min2D, allD, isiD, tyN, isiT_tt, isiT_ii, isiT_ib, idxD, lsA, gw, gt, opt_some, opt_none, bd_pu, bd_fl, bd_bd, chk_true, chk_tt, D.imm, D.imms, D.isN, List.map_cons, List.map_nil, List.length_cons, List.length_nil, List.set_cons_zero, List.set_cons_succ, List.getElem?_cons_zero, List.getElem?_cons_succ, List.getElem?_nil, Option.bind_some, Option.bind_none, Option.join_some, Option.join_none, Option.map_some, Bool.and_true, Bool.true_and, Bool.and_false, Bool.false_and, Bool.not_true, Bool.not_false, Bool.false_eq_true, Bool.true_eq_false, if_true, if_false, ite_true, ite_false, List.cons_append, List.nil_append, List.append_nil, Nat.zero_add, Nat.reduceAdd, Nat.reduceSub, Nat.reduceLeDiff, Int.reduceNeg, List.replicate_succ, List.replicate_zero, true_and, and_true, List.length_map, and_pu, or_pu, tand_pu, tor_pu, idx_0, idx_1, if_tt, if_ff, dSl, dNo, dSo, slD, imm_cD, imm_wD, intsD, sAppIx, sExt, sApp, lsD, sFor, seq_sD, eq_str, ne_str, eq_int, ne_int, nc0, nc1, nc2, nc3, nc4, decide_true, decide_false, ne_eq, not_true_eq_false, Int.reduceEq, not_false_eq_true, Bool.or_false, Bool.or_true, Bool.false_or, Bool.true_or, List.all_cons, List.all_nil, id_eq, chk_pos hz2, hq, nId q (by omega)]
          have nk : ol.getD (i + 1) 0 ≠ ol.getD q 0 := fun z => by
            have := getD_inj nd (by omega) (by omega) z
            omega
          have hs2 : Ens (sortID (.lst [.int (ol.getD (i + 1) 0 : Nat), .int (ol.getD q 0 : Nat)])) fun d => ∃ A B : Nat, A < B ∧ ((A = ol.getD (i + 1) 0 ∧ B = ol.getD q 0) ∨ (B = ol.getD (i + 1) 0 ∧ A = ol.getD q 0)) ∧ d = .lst [.int A, .int B] :=
            (n_sort2 _ _).wk fun d hd => by
              rcases hd with ⟨h1, rfl⟩ | ⟨h1, rfl⟩
              · exact ⟨_, _, by omega, .inl ⟨rfl, rfl⟩, rfl⟩
              · exact ⟨_, _, by omega, .inr ⟨rfl, rfl⟩, rfl⟩
          refine Ens.bd hs2 ?_
          rintro _ ⟨A, B, hAB, hc, rfl⟩
          have hA : A < ss.length := by
            have h1 := olt (i + 1) hk
            have h2 := olt q (by omega)
            omega
          have hB : B < ss.length := by
            have h1 := olt (i + 1) hk
            have h2 := olt q (by omega)
            omega
          obtain ⟨nr, hnr', en⟩ := idx4 (show 0 ≤ r / 5 by omega) 0 0 1 2
          obtain ⟨tp, htp, et⟩ := idx4 (show 0 ≤ r / 20 by omega) 0 1 0 3
          have hcl : cs.length < sizeLine := small (by have := F.few; omega)
          simp (decide := true) (implicitDefEqProofs := false) only [bodyD, env0, sSeq, thenF, sIf, sRet, sRetN, sRetV, sSet, sSetN, sExpr, sNil, sAsg, sPar, resD, dV, dC, dOp, dUn, dNot, dAnd, dOr, dNotT, dAndT, dOrT, dB, dIf, dChain, dTup, dCons, dNil, dLst, dLstB, dCB, dCall, dCallK, dImm, dYes, a1, a2, bTup, bLst, bCons, bNil, bName, fSeq, seqOf, fRng1, fRng2, fEn, fZip, zip2, one1, ints1, ints2, asB, asI, negD, addD, subD, modD, ltD, gtD, geD, leD, isND, isnND, intOp, intOpC, lenD_lst, lenD_tup, lenD_frz, len_sD, tupleD, listD, absD, max2D, min2D, allD, isiD, tyN, isiT_tt, isiT_ii, isiT_ib, idxD, lsA, gw, gt, opt_some, opt_none, bd_pu, bd_fl, bd_bd, chk_true, chk_tt, D.imm, D.imms, D.isN, List.map_cons, List.map_nil, List.length_cons, List.length_nil, List.set_cons_zero, List.set_cons_succ, List.getElem?_cons_zero, List.getElem?_cons_succ, List.getElem?_nil, Option.bind_some, Option.bind_none, Option.join_some, Option.join_none, Option.map_some, Bool.and_true, Bool.true_and, Bool.and_false, Bool.false_and, Bool.not_true, Bool.not_false, Bool.false_eq_true, Bool.true_eq_false, if_true, if_false, ite_true, ite_false, List.cons_append, List.nil_append, List.append_nil, Nat.zero_add, Nat.reduceAdd, Nat.reduceSub, Nat.reduceLeDiff, Int.reduceNeg, List.replicate_succ, List.replicate_zero, true_and, and_true, List.length_map, and_pu, or_pu, tand_pu, tor_pu, idx_0, idx_1, if_tt, if_ff, dSl, dNo, dSo, slD, imm_cD, imm_wD, intsD, sAppIx, sExt, sApp, lsD, sFor, seq_sD, eq_str, ne_str, eq_int, ne_int, nc0, nc1, nc2, nc3, nc4, decide_true, decide_false, ne_eq, not_true_eq_false, Int.reduceEq, not_false_eq_true, Bool.or_false, Bool.or_true, Bool.false_or, Bool.true_or, List.all_cons, List.all_nil, id_eq, idx_int hA, idx_int hB, f5, f20, en, et, imms_cD, hcl]
          have ec2 : cs.map cD ++ [D.tup [D.int (A : Nat), D.int (B : Nat), D.int (ss.getD B 0 - ss.getD A 0 - nr), D.int (ss.getD B 0 - ss.getD A 0 + if 1 - nr > tp then 1 - nr else tp)]] = (cs ++ [Cp.mk A B (ss.getD B 0 - ss.getD A 0 - nr) (ss.getD B 0 - ss.getD A 0 + if 1 - nr > tp then 1 - nr else tp)]).map cD := by
            rw [List.map_append]
            rfl
          rw [ec2]
          refine Ens.pu ⟨_, rfl, _, _, _, _, _, _, _, _, _, _, _, F.add nd (by omega) hq' ?_ ?_, rfl⟩
          · rcases hc with ⟨h1, h2⟩ | ⟨h1, h2⟩
            · exact .inl ⟨h1, h2⟩
            · exact .inr ⟨h1, h2⟩
          · have gA : base ≤ ss.getD A 0 ∧ ss.getD A 0 ≤ base + 8 := hss _ (List.mem_of_getElem? (getD_at (α := Int) hA))
            have gB : base ≤ ss.getD B 0 ∧ ss.getD B 0 ≤ base + 8 := hss _ (List.mem_of_getElem? (getD_at (α := Int) hB))
            refine ⟨hAB, by show B < ol.length; omega, ?_⟩
            show -10000000000 ≤ ss.getD B 0 - ss.getD A 0 - nr ∧ ss.getD B 0 - ss.getD A 0 - nr < ss.getD B 0 - ss.getD A 0 + (if 1 - nr > tp then 1 - nr else tp) ∧ ss.getD B 0 - ss.getD A 0 + (if 1 - nr > tp then 1 - nr else tp) ≤ 10000000000 ∧ ss.getD B 0 - ss.getD A 0 - nr ≤ ss.getD B 0 - ss.getD A 0 ∧ ss.getD B 0 - ss.getD A 0 ≤ ss.getD B 0 - ss.getD A 0 + (if 1 - nr > tp then 1 - nr else tp)
            split <;> omega
        · have hrd : decide (0 < r % 5) = false := decide_eq_false hr
          simp (decide := true) (implicitDefEqProofs := false) only [bodyD, env0, sSeq, thenF, sIf, sRet, sRetN, sRetV, sSet, sSetN, sExpr, sNil, sAsg, sPar, resD, dV, dC, dOp, dUn, dNot, dAnd, dOr, dNotT, dAndT, dOrT, dB, dIf, dChain, dTup, dCons, dNil, dLst, dLstB, dCB, dCall, dCallK, dImm, dYes, a1, a2, bTup, bLst, bCons, bNil, bName, fSeq, seqOf, fRng1, fRng2, fEn, fZip, zip2, one1, ints1, ints2, asB, asI, negD, addD, subD, modD, ltD, gtD, geD, leD, isND, isnND, intOp, intOpC, lenD_lst, lenD_tup, lenD_frz, len_sD, tupleD, listD, absD, max2D, min2D, allD, isiD, tyN, isiT_tt, isiT_ii, isiT_ib, idxD, lsA, gw, gt, opt_some, opt_none, bd_pu, bd_fl, bd_bd, chk_true, chk_tt, D.imm, D.imms, D.isN, List.map_cons, List.map_nil, List.length_cons, List.length_nil, List.set_cons_zero, List.set_cons_succ, List.getElem?_cons_zero, List.getElem?_cons_succ, List.getElem?_nil, Option.bind_some, Option.bind_none, Option.join_some, Option.join_none, Option.map_some, Bool.and_true, Bool.true_and, Bool.and_false, Bool.false_and, Bool.not_true, Bool.not_false, Bool.false_eq_true, Bool.true_eq_false, if_true, if_false, ite_true, ite_false, List.cons_append, List.nil_append, List.append_nil, Nat.zero_add, Nat.reduceAdd, Nat.reduceSub, Nat.reduceLeDiff, Int.reduceNeg, List.replicate_succ, List.replicate_zero, true_and, and_true, List.length_map, and_pu, or_pu, tand_pu, tor_pu, idx_0, idx_1, if_tt, if_ff, dSl, dNo, dSo, slD, imm_cD, imm_wD, intsD, sAppIx, sExt, sApp, lsD, sFor, seq_sD, eq_str, ne_str, eq_int, ne_int, nc0, nc1, nc2, nc3, nc4, decide_true, decide_false, ne_eq, not_true_eq_false, Int.reduceEq, not_false_eq_true, Bool.or_false, Bool.or_true, Bool.false_or, Bool.true_or, List.all_cons, List.all_nil, id_eq, hrd]
          exact Ens.pu ⟨_, rfl, cs, _, _, _, _, _, _, _, _, _, _, F.skip, rfl⟩
      · rintro δ' ⟨cs, x, y, z, u, e, f, g, h, o, p, F, rfl⟩
        rw [rngL_len] at F
        simp (decide := true) (implicitDefEqProofs := false) only [bodyD, env0, sSeq, thenF, sIf, sRet, sRetN, sRetV, sSet, sSetN, sExpr, sNil, sAsg, sPar, resD, dV, dC, dOp, dUn, dNot, dAnd, dOr, dNotT, dAndT, dOrT, dB, dIf, dChain, dTup, dCons, dNil, dLst, dLstB, dCB, dCall, dCallK, dImm, dYes, a1, a2, bTup, bLst, bCons, bNil, bName, fSeq, seqOf, fRng1, fRng2, fEn, fZip, zip2, one1, ints1, ints2, asB, asI, negD, addD, subD, modD, ltD, gtD, geD, leD, isND, isnND, intOp, intOpC, lenD_lst, lenD_tup, lenD_frz, len_sD, tupleD, listD, absD, max2D, min2D, allD, isiD, tyN, isiT_tt, isiT_ii, isiT_ib, idxD, lsA, gw, gt, opt_some, opt_none, bd_pu, bd_fl, bd_bd, chk_true, chk_tt, D.imm, D.imms, D.isN, List.map_cons, List.map_nil, List.length_cons, List.length_nil, List.set_cons_zero, List.set_cons_succ, List.getElem?_cons_zero, List.getElem?_cons_succ, List.getElem?_nil, Option.bind_some, Option.bind_none, Option.join_some, Option.join_none, Option.map_some, Bool.and_true, Bool.true_and, Bool.and_false, Bool.false_and, Bool.not_true, Bool.not_false, Bool.false_eq_true, Bool.true_eq_false, if_true, if_false, ite_true, ite_false, List.cons_append, List.nil_append, List.append_nil, Nat.zero_add, Nat.reduceAdd, Nat.reduceSub, Nat.reduceLeDiff, Int.reduceNeg, List.replicate_succ, List.replicate_zero, true_and, and_true, List.length_map, and_pu, or_pu, tand_pu, tor_pu, idx_0, idx_1, if_tt, if_ff, dSl, dNo, dSo, slD, imm_cD, imm_wD, intsD, sAppIx, sExt, sApp, lsD, sFor, seq_sD, eq_str, ne_str, eq_int, ne_int, nc0, nc1, nc2, nc3, nc4, decide_true, decide_false, ne_eq, not_true_eq_false, Int.reduceEq, not_false_eq_true, Bool.or_false, Bool.or_true, Bool.false_or, Bool.true_or, List.all_cons, List.all_nil, id_eq]
        refine Ens.bd (n_sortT cs) ?_
        rintro _ ⟨cs', hp', hs', rfl⟩
        obtain ⟨VV, SS⟩ := F.yard hp' hs' (ws := ws) (by omega) (by omega) (by omega) (by omega) (by omega) hok
        simp (decide := true) (implicitDefEqProofs := false) only [bodyD, env0, sSeq, thenF, sIf, sRet, sRetN, sRetV, sSet, sSetN, sExpr, sNil, sAsg, sPar, resD, dV, dC, dOp, dUn, dNot, dAnd, dOr, dNotT, dAndT, dOrT, dB, dIf, dChain, dTup, dCons, dNil, dLst, dLstB, dCB, dCall, dCallK, dImm, dYes, a1, a2, bTup, bLst, bCons, bNil, bName, fSeq, seqOf, fRng1, fRng2, fEn, fZip, zip2, one1, ints1, ints2, asB, asI, negD, addD, subD, modD, ltD, gtD, geD, leD, isND, isnND, intOp, intOpC, lenD_lst, lenD_tup, lenD_frz, len_sD, tupleD, listD, absD, max2D, min2D, allD, isiD, tyN, isiT_tt, isiT_ii, isiT_ib, idxD, lsA, gw, gt, opt_some, opt_none, bd_pu, bd_fl, bd_bd, chk_true, chk_tt, D.imm, D.imms, D.isN, List.map_cons, List.map_nil, List.length_cons, List.length_nil, List.set_cons_zero, List.set_cons_succ, List.getElem?_cons_zero, List.getElem?_cons_succ, List.getElem?_nil, Option.bind_some, Option.bind_none, Option.join_some, Option.join_none, Option.map_some, Bool.and_true, Bool.true_and, Bool.and_false, Bool.false_and, Bool.not_true, Bool.not_false, Bool.false_eq_true, Bool.true_eq_false, if_true, if_false, ite_true, ite_false, List.cons_append, List.nil_append, List.append_nil, Nat.zero_add, Nat.reduceAdd, Nat.reduceSub, Nat.reduceLeDiff, Int.reduceNeg, List.replicate_succ, List.replicate_zero, true_and, and_true, List.length_map, and_pu, or_pu, tand_pu, tor_pu, idx_0, idx_1, if_tt, if_ff, dSl, dNo, dSo, slD, imm_cD, imm_wD, intsD, sAppIx, sExt, sApp, lsD, sFor, seq_sD, eq_str, ne_str, eq_int, ne_int, nc0, nc1, nc2, nc3, nc4, decide_true, decide_false, ne_eq, not_true_eq_false, Int.reduceEq, not_false_eq_true, Bool.or_false, Bool.or_true, Bool.false_or, Bool.true_or, List.all_cons, List.all_nil, id_eq, imms_wD, imms_cD, imms_int]
        exact Ens.pu ⟨ws, cs', ss, rfl, VV, SS⟩
end DC
namespace DC
open PySem L2 DL CY
theorem f8 (i : Int) : fdivD (.int i) (.int 8) = pu (.int (i / 8)) := fdiv_of _ _ (by decide) (by decide)
theorem cut63 {α : Type} (xs : List α) : DL.cut xs none (some 63) = xs.take 63 := cut_to xs 63
theorem pow1018 : powD (.int 10) (.int 18) = pu (.int 1000000000000000000) := by
  show chk (CPow 10 18) (pu (D.int (10 ^ (18 : Int).toNat))) = _
  rw [chk_pos ⟨by decide, by decide, by decide⟩]
  rfl
def v1 : DL.Env → DL.W D := dSl (dV 0) dNo (dSo (dC (.int 63)))
def v2 : DL.Env → DL.W D := dLc [1] (fSeq (dSl (dV 0) dNo (dSo (dC (.int 63))))) (bName 1) (dB (dOp geD (dV 1) (dOp powD (dC (.int 10)) (dC (.int 18))))) (dV 1)
theorem e_v1 (ns : List Int) : v1 [some (.frz (ns.map D.int)), none] = pu (.lst ((ns.take 63).map D.int)) := by
  unfold v1
  simp (decide := true) (implicitDefEqProofs := false) only [bodyD, env0, sSeq, thenF, sIf, sRet, sRetN, sRetV, sSet, sSetN, sExpr, sNil, sAsg, sPar, resD, dV, dC, dOp, dUn, dNot, dAnd, dOr, dNotT, dAndT, dOrT, dB, dIf, dChain, dTup, dCons, dNil, dLst, dLstB, dCB, dCall, dCallK, dImm, dYes, a1, a2, bTup, bLst, bCons, bNil, bName, fSeq, seqOf, fRng1, fRng2, fEn, fZip, zip2, one1, ints1, ints2, asB, asI, negD, addD, subD, modD, ltD, gtD, geD, leD, isND, isnND, intOp, intOpC, lenD_lst, lenD_tup, lenD_frz, len_sD, tupleD, listD, absD, max2D, min2D, allD, isiD, tyN, isiT_tt, isiT_ii, isiT_ib, idxD, lsA, gw, gt, opt_some, opt_none, bd_pu, bd_fl, bd_bd, chk_true, chk_tt, D.imm, D.imms, D.isN, List.map_cons, List.map_nil, List.length_cons, List.length_nil, List.set_cons_zero, List.set_cons_succ, List.getElem?_cons_zero, List.getElem?_cons_succ, List.getElem?_nil, Option.bind_some, Option.bind_none, Option.join_some, Option.join_none, Option.map_some, Bool.and_true, Bool.true_and, Bool.and_false, Bool.false_and, Bool.not_true, Bool.not_false, Bool.false_eq_true, Bool.true_eq_false, if_true, if_false, ite_true, ite_false, List.cons_append, List.nil_append, List.append_nil, Nat.zero_add, Nat.reduceAdd, Nat.reduceSub, Nat.reduceLeDiff, Int.reduceNeg, List.replicate_succ, List.replicate_zero, true_and, and_true, List.length_map, and_pu, or_pu, tand_pu, tor_pu, idx_0, idx_1, if_tt, if_ff, dSl, dNo, dSo, slD, imm_cD, imm_wD, intsD, sAppIx, sExt, sApp, lsD, sFor, seq_sD, eq_str, ne_str, eq_int, ne_int, nc0, nc1, nc2, nc3, nc4, decide_true, decide_false, ne_eq, not_true_eq_false, Int.reduceEq, not_false_eq_true, Bool.or_false, Bool.or_true, Bool.false_or, Bool.true_or, List.all_cons, List.all_nil, id_eq, cut63, List.map_take]
theorem e_v2 (ns : List Int) : v2 [some (.frz (ns.map D.int)), none] = pu (.lst (((ns.take 63).filter fun z => decide (1000000000000000000 ≤ z)).map D.int)) := by
  unfold v2
  simp (decide := true) (implicitDefEqProofs := false) only [bodyD, env0, sSeq, thenF, sIf, sRet, sRetN, sRetV, sSet, sSetN, sExpr, sNil, sAsg, sPar, resD, dV, dC, dOp, dUn, dNot, dAnd, dOr, dNotT, dAndT, dOrT, dB, dIf, dChain, dTup, dCons, dNil, dLst, dLstB, dCB, dCall, dCallK, dImm, dYes, a1, a2, bTup, bLst, bCons, bNil, bName, fSeq, seqOf, fRng1, fRng2, fEn, fZip, zip2, one1, ints1, ints2, asB, asI, negD, addD, subD, modD, ltD, gtD, geD, leD, isND, isnND, intOp, intOpC, lenD_lst, lenD_tup, lenD_frz, len_sD, tupleD, listD, absD, max2D, min2D, allD, isiD, tyN, isiT_tt, isiT_ii, isiT_ib, idxD, lsA, gw, gt, opt_some, opt_none, bd_pu, bd_fl, bd_bd, chk_true, chk_tt, D.imm, D.imms, D.isN, List.map_cons, List.map_nil, List.length_cons, List.length_nil, List.set_cons_zero, List.set_cons_succ, List.getElem?_cons_zero, List.getElem?_cons_succ, List.getElem?_nil, Option.bind_some, Option.bind_none, Option.join_some, Option.join_none, Option.map_some, Bool.and_true, Bool.true_and, Bool.and_false, Bool.false_and, Bool.not_true, Bool.not_false, Bool.false_eq_true, Bool.true_eq_false, if_true, if_false, ite_true, ite_false, List.cons_append, List.nil_append, List.append_nil, Nat.zero_add, Nat.reduceAdd, Nat.reduceSub, Nat.reduceLeDiff, Int.reduceNeg, List.replicate_succ, List.replicate_zero, true_and, and_true, List.length_map, and_pu, or_pu, tand_pu, tor_pu, idx_0, idx_1, if_tt, if_ff, dSl, dNo, dSo, slD, imm_cD, imm_wD, intsD, sAppIx, sExt, sApp, lsD, sFor, seq_sD, eq_str, ne_str, eq_int, ne_int, nc0, nc1, nc2, nc3, nc4, decide_true, decide_false, ne_eq, not_true_eq_false, Int.reduceEq, not_false_eq_true, Bool.or_false, Bool.or_true, Bool.false_or, Bool.true_or, List.all_cons, List.all_nil, id_eq, cut63, dLc, wipeE]
  rw [← List.map_take]
  simp (decide := true) (implicitDefEqProofs := false) only [bodyD, env0, sSeq, thenF, sIf, sRet, sRetN, sRetV, sSet, sSetN, sExpr, sNil, sAsg, sPar, resD, dV, dC, dOp, dUn, dNot, dAnd, dOr, dNotT, dAndT, dOrT, dB, dIf, dChain, dTup, dCons, dNil, dLst, dLstB, dCB, dCall, dCallK, dImm, dYes, a1, a2, bTup, bLst, bCons, bNil, bName, fSeq, seqOf, fRng1, fRng2, fEn, fZip, zip2, one1, ints1, ints2, asB, asI, negD, addD, subD, modD, ltD, gtD, geD, leD, isND, isnND, intOp, intOpC, lenD_lst, lenD_tup, lenD_frz, len_sD, tupleD, listD, absD, max2D, min2D, allD, isiD, tyN, isiT_tt, isiT_ii, isiT_ib, idxD, lsA, gw, gt, opt_some, opt_none, bd_pu, bd_fl, bd_bd, chk_true, chk_tt, D.imm, D.imms, D.isN, List.map_cons, List.map_nil, List.length_cons, List.length_nil, List.set_cons_zero, List.set_cons_succ, List.getElem?_cons_zero, List.getElem?_cons_succ, List.getElem?_nil, Option.bind_some, Option.bind_none, Option.join_some, Option.join_none, Option.map_some, Bool.and_true, Bool.true_and, Bool.and_false, Bool.false_and, Bool.not_true, Bool.not_false, Bool.false_eq_true, Bool.true_eq_false, if_true, if_false, ite_true, ite_false, List.cons_append, List.nil_append, List.append_nil, Nat.zero_add, Nat.reduceAdd, Nat.reduceSub, Nat.reduceLeDiff, Int.reduceNeg, List.replicate_succ, List.replicate_zero, true_and, and_true, List.length_map, and_pu, or_pu, tand_pu, tor_pu, idx_0, idx_1, if_tt, if_ff, dSl, dNo, dSo, slD, imm_cD, imm_wD, intsD, sAppIx, sExt, sApp, lsD, sFor, seq_sD, eq_str, ne_str, eq_int, ne_int, nc0, nc1, nc2, nc3, nc4, decide_true, decide_false, ne_eq, not_true_eq_false, Int.reduceEq, not_false_eq_true, Bool.or_false, Bool.or_true, Bool.false_or, Bool.true_or, List.all_cons, List.all_nil, id_eq, imms_int]
  rw [lc_pick (onI fun z => decide (1000000000000000000 ≤ z)) id ((ns.take 63).map D.int) [] (by rw [List.length_map, List.length_take, List.length_nil]; exact small (by omega)) (fun d q => by
    obtain ⟨z, _, rfl⟩ := List.mem_map.mp q
    refine ⟨_, by simp (decide := true) (implicitDefEqProofs := false) only [bodyD, env0, sSeq, thenF, sIf, sRet, sRetN, sRetV, sSet, sSetN, sExpr, sNil, sAsg, sPar, resD, dV, dC, dOp, dUn, dNot, dAnd, dOr, dNotT, dAndT, dOrT, dB, dIf, dChain, dTup, dCons, dNil, dLst, dLstB, dCB, dCall, dCallK, dImm, dYes, a1, a2, bTup, bLst, bCons, bNil, bName, fSeq, seqOf, fRng1, fRng2, fEn, fZip, zip2, one1, ints1, ints2, asB, asI, negD, addD, subD, modD, ltD, gtD, geD, leD, isND, isnND, intOp, intOpC, lenD_lst, lenD_tup, lenD_frz, len_sD, tupleD, listD, absD, max2D, min2D, allD, isiD, tyN, isiT_tt, isiT_ii, isiT_ib, idxD, lsA, gw, gt, opt_some, opt_none, bd_pu, bd_fl, bd_bd, chk_true, chk_tt, D.imm, D.imms, D.isN, List.map_cons, List.map_nil, List.length_cons, List.length_nil, List.set_cons_zero, List.set_cons_succ, List.getElem?_cons_zero, List.getElem?_cons_succ, List.getElem?_nil, Option.bind_some, Option.bind_none, Option.join_some, Option.join_none, Option.map_some, Bool.and_true, Bool.true_and, Bool.and_false, Bool.false_and, Bool.not_true, Bool.not_false, Bool.false_eq_true, Bool.true_eq_false, if_true, if_false, ite_true, ite_false, List.cons_append, List.nil_append, List.append_nil, Nat.zero_add, Nat.reduceAdd, Nat.reduceSub, Nat.reduceLeDiff, Int.reduceNeg, List.replicate_succ, List.replicate_zero, true_and, and_true, List.length_map, and_pu, or_pu, tand_pu, tor_pu, idx_0, idx_1, if_tt, if_ff, dSl, dNo, dSo, slD, imm_cD, imm_wD, intsD, sAppIx, sExt, sApp, lsD, sFor, seq_sD, eq_str, ne_str, eq_int, ne_int, nc0, nc1, nc2, nc3, nc4, decide_true, decide_false, ne_eq, not_true_eq_false, Int.reduceEq, not_false_eq_true, Bool.or_false, Bool.or_true, Bool.false_or, Bool.true_or, List.all_cons, List.all_nil, id_eq]; rfl, ?_, fun _ => ⟨?_, rfl⟩⟩
    · simp (decide := true) (implicitDefEqProofs := false) only [bodyD, env0, sSeq, thenF, sIf, sRet, sRetN, sRetV, sSet, sSetN, sExpr, sNil, sAsg, sPar, resD, dV, dC, dOp, dUn, dNot, dAnd, dOr, dNotT, dAndT, dOrT, dB, dIf, dChain, dTup, dCons, dNil, dLst, dLstB, dCB, dCall, dCallK, dImm, dYes, a1, a2, bTup, bLst, bCons, bNil, bName, fSeq, seqOf, fRng1, fRng2, fEn, fZip, zip2, one1, ints1, ints2, asB, asI, negD, addD, subD, modD, ltD, gtD, geD, leD, isND, isnND, intOp, intOpC, lenD_lst, lenD_tup, lenD_frz, len_sD, tupleD, listD, absD, max2D, min2D, allD, isiD, tyN, isiT_tt, isiT_ii, isiT_ib, idxD, lsA, gw, gt, opt_some, opt_none, bd_pu, bd_fl, bd_bd, chk_true, chk_tt, D.imm, D.imms, D.isN, List.map_cons, List.map_nil, List.length_cons, List.length_nil, List.set_cons_zero, List.set_cons_succ, List.getElem?_cons_zero, List.getElem?_cons_succ, List.getElem?_nil, Option.bind_some, Option.bind_none, Option.join_some, Option.join_none, Option.map_some, Bool.and_true, Bool.true_and, Bool.and_false, Bool.false_and, Bool.not_true, Bool.not_false, Bool.false_eq_true, Bool.true_eq_false, if_true, if_false, ite_true, ite_false, List.cons_append, List.nil_append, List.append_nil, Nat.zero_add, Nat.reduceAdd, Nat.reduceSub, Nat.reduceLeDiff, Int.reduceNeg, List.replicate_succ, List.replicate_zero, true_and, and_true, List.length_map, and_pu, or_pu, tand_pu, tor_pu, idx_0, idx_1, if_tt, if_ff, dSl, dNo, dSo, slD, imm_cD, imm_wD, intsD, sAppIx, sExt, sApp, lsD, sFor, seq_sD, eq_str, ne_str, eq_int, ne_int, nc0, nc1, nc2, nc3, nc4, decide_true, decide_false, ne_eq, not_true_eq_false, Int.reduceEq, not_false_eq_true, Bool.or_false, Bool.or_true, Bool.false_or, Bool.true_or, List.all_cons, List.all_nil, id_eq, pow1018, onI_int]
    · simp (decide := true) (implicitDefEqProofs := false) only [bodyD, env0, sSeq, thenF, sIf, sRet, sRetN, sRetV, sSet, sSetN, sExpr, sNil, sAsg, sPar, resD, dV, dC, dOp, dUn, dNot, dAnd, dOr, dNotT, dAndT, dOrT, dB, dIf, dChain, dTup, dCons, dNil, dLst, dLstB, dCB, dCall, dCallK, dImm, dYes, a1, a2, bTup, bLst, bCons, bNil, bName, fSeq, seqOf, fRng1, fRng2, fEn, fZip, zip2, one1, ints1, ints2, asB, asI, negD, addD, subD, modD, ltD, gtD, geD, leD, isND, isnND, intOp, intOpC, lenD_lst, lenD_tup, lenD_frz, len_sD, tupleD, listD, absD, max2D, min2D, allD, isiD, tyN, isiT_tt, isiT_ii, isiT_ib, idxD, lsA, gw, gt, opt_some, opt_none, bd_pu, bd_fl, bd_bd, chk_true, chk_tt, D.imm, D.imms, D.isN, List.map_cons, List.map_nil, List.length_cons, List.length_nil, List.set_cons_zero, List.set_cons_succ, List.getElem?_cons_zero, List.getElem?_cons_succ, List.getElem?_nil, Option.bind_some, Option.bind_none, Option.join_some, Option.join_none, Option.map_some, Bool.and_true, Bool.true_and, Bool.and_false, Bool.false_and, Bool.not_true, Bool.not_false, Bool.false_eq_true, Bool.true_eq_false, if_true, if_false, ite_true, ite_false, List.cons_append, List.nil_append, List.append_nil, Nat.zero_add, Nat.reduceAdd, Nat.reduceSub, Nat.reduceLeDiff, Int.reduceNeg, List.replicate_succ, List.replicate_zero, true_and, and_true, List.length_map, and_pu, or_pu, tand_pu, tor_pu, idx_0, idx_1, if_tt, if_ff, dSl, dNo, dSo, slD, imm_cD, imm_wD, intsD, sAppIx, sExt, sApp, lsD, sFor, seq_sD, eq_str, ne_str, eq_int, ne_int, nc0, nc1, nc2, nc3, nc4, decide_true, decide_false, ne_eq, not_true_eq_false, Int.reduceEq, not_false_eq_true, Bool.or_false, Bool.or_true, Bool.false_or, Bool.true_or, List.all_cons, List.all_nil, id_eq])]
  simp (decide := true) (implicitDefEqProofs := false) only [bodyD, env0, sSeq, thenF, sIf, sRet, sRetN, sRetV, sSet, sSetN, sExpr, sNil, sAsg, sPar, resD, dV, dC, dOp, dUn, dNot, dAnd, dOr, dNotT, dAndT, dOrT, dB, dIf, dChain, dTup, dCons, dNil, dLst, dLstB, dCB, dCall, dCallK, dImm, dYes, a1, a2, bTup, bLst, bCons, bNil, bName, fSeq, seqOf, fRng1, fRng2, fEn, fZip, zip2, one1, ints1, ints2, asB, asI, negD, addD, subD, modD, ltD, gtD, geD, leD, isND, isnND, intOp, intOpC, lenD_lst, lenD_tup, lenD_frz, len_sD, tupleD, listD, absD, max2D, min2D, allD, isiD, tyN, isiT_tt, isiT_ii, isiT_ib, idxD, lsA, gw, gt, opt_some, opt_none, bd_pu, bd_fl, bd_bd, chk_true, chk_tt, D.imm, D.imms, D.isN, List.map_cons, List.map_nil, List.length_cons, List.length_nil, List.set_cons_zero, List.set_cons_succ, List.getElem?_cons_zero, List.getElem?_cons_succ, List.getElem?_nil, Option.bind_some, Option.bind_none, Option.join_some, Option.join_none, Option.map_some, Bool.and_true, Bool.true_and, Bool.and_false, Bool.false_and, Bool.not_true, Bool.not_false, Bool.false_eq_true, Bool.true_eq_false, if_true, if_false, ite_true, ite_false, List.cons_append, List.nil_append, List.append_nil, Nat.zero_add, Nat.reduceAdd, Nat.reduceSub, Nat.reduceLeDiff, Int.reduceNeg, List.replicate_succ, List.replicate_zero, true_and, and_true, List.length_map, and_pu, or_pu, tand_pu, tor_pu, idx_0, idx_1, if_tt, if_ff, dSl, dNo, dSo, slD, imm_cD, imm_wD, intsD, sAppIx, sExt, sApp, lsD, sFor, seq_sD, eq_str, ne_str, eq_int, ne_int, nc0, nc1, nc2, nc3, nc4, decide_true, decide_false, ne_eq, not_true_eq_false, Int.reduceEq, not_false_eq_true, Bool.or_false, Bool.or_true, Bool.false_or, Bool.true_or, List.all_cons, List.all_nil, id_eq, List.map_id, List.filter_map]
  rfl
theorem mul_small {i j : Int} (h1 : i.natAbs < 2 ^ 64) (h2 : j.natAbs < 2 ^ 64) : mulD (.int i) (.int j) = pu (.int (i * j)) := by
  show chk (CMulW i j) (pu (D.int (i * j))) = _
  have l1 := PySem.Flt.log2_lt_of (by decide) h1
  have l2 := PySem.Flt.log2_lt_of (by decide) h2
  rw [chk_pos (show CMulW i j from by unfold CMulW; omega)]
theorem e_mixed (x k : Int) (h : 0 ≤ k ∧ k < 1000) : ∃ r, F__law_mixed [.int x, .int k] = pu (.int r) := by
  unfold F__law_mixed g__law_mixed
  obtain ⟨h0, h1⟩ := h
  have a0 : 0 ≤ x % 2147483647 := Int.emod_nonneg _ (by decide)
  have a1 : x % 2147483647 < 2147483647 := Int.emod_lt_of_pos _ (by decide)
  have kk : k * k ≤ 999 * 999 := Int.mul_le_mul (by omega) (by omega) h0 (by decide)
  have k0 : 0 ≤ k * k := Int.mul_nonneg h0 h0
  have m1 : mulD (.int 7919) (.int k) = pu (.int (7919 * k)) := mul_small (by decide) (by omega)
  have m2 : mulD (.int (7919 * k)) (.int k) = pu (.int (7919 * k * k)) := mul_small (by omega) (by omega)
  have m3 : mulD (.int 31) (.int k) = pu (.int (31 * k)) := mul_small (by decide) (by omega)
  have e1 : 7919 * k * k = 7919 * (k * k) := Int.mul_assoc _ _ _
  have m4 : mulD (.int (x % 2147483647 + 7919 * k * k + 31 * k + 5)) (.int 48271) = pu (.int ((x % 2147483647 + 7919 * k * k + 31 * k + 5) * 48271)) := mul_small (by omega) (by decide)
  have b0 : 0 ≤ (x % 2147483647 + 7919 * k * k + 31 * k + 5) * 48271 % 2147483647 := Int.emod_nonneg _ (by decide)
  have b1 : (x % 2147483647 + 7919 * k * k + 31 * k + 5) * 48271 % 2147483647 < 2147483647 := Int.emod_lt_of_pos _ (by decide)
  have m5 : mulD (.int ((x % 2147483647 + 7919 * k * k + 31 * k + 5) * 48271 % 2147483647)) (.int 69621) = pu (.int ((x % 2147483647 + 7919 * k * k + 31 * k + 5) * 48271 % 2147483647 * 69621)) := mul_small (by omega) (by decide)
  have f64 : ∀ i : Int, fdivD (.int i) (.int 64) = pu (.int (i / 64)) := fun i => fdiv_of _ _ (by decide) (by decide)
  simp (decide := true) (implicitDefEqProofs := false) only [bodyD, env0, sSeq, thenF, sIf, sRet, sRetN, sRetV, sSet, sSetN, sExpr, sNil, sAsg, sPar, resD, dV, dC, dOp, dUn, dNot, dAnd, dOr, dNotT, dAndT, dOrT, dB, dIf, dChain, dTup, dCons, dNil, dLst, dLstB, dCB, dCall, dCallK, dImm, dYes, a1, a2, bTup, bLst, bCons, bNil, bName, fSeq, seqOf, fRng1, fRng2, fEn, fZip, zip2, one1, ints1, ints2, asB, asI, negD, addD, subD, modD, ltD, gtD, geD, leD, isND, isnND, intOp, intOpC, lenD_lst, lenD_tup, lenD_frz, len_sD, tupleD, listD, absD, max2D, min2D, allD, isiD, tyN, isiT_tt, isiT_ii, isiT_ib, idxD, lsA, gw, gt, opt_some, opt_none, bd_pu, bd_fl, bd_bd, chk_true, chk_tt, D.imm, D.imms, D.isN, List.map_cons, List.map_nil, List.length_cons, List.length_nil, List.set_cons_zero, List.set_cons_succ, List.getElem?_cons_zero, List.getElem?_cons_succ, List.getElem?_nil, Option.bind_some, Option.bind_none, Option.join_some, Option.join_none, Option.map_some, Bool.and_true, Bool.true_and, Bool.and_false, Bool.false_and, Bool.not_true, Bool.not_false, Bool.false_eq_true, Bool.true_eq_false, if_true, if_false, ite_true, ite_false, List.cons_append, List.nil_append, List.append_nil, Nat.zero_add, Nat.reduceAdd, Nat.reduceSub, Nat.reduceLeDiff, Int.reduceNeg, List.replicate_succ, List.replicate_zero, true_and, and_true, List.length_map, and_pu, or_pu, tand_pu, tor_pu, idx_0, idx_1, if_tt, if_ff, dSl, dNo, dSo, slD, imm_cD, imm_wD, intsD, sAppIx, sExt, sApp, lsD, sFor, seq_sD, eq_str, ne_str, eq_int, ne_int, nc0, nc1, nc2, nc3, nc4, decide_true, decide_false, ne_eq, not_true_eq_false, Int.reduceEq, not_false_eq_true, Bool.or_false, Bool.or_true, Bool.false_or, Bool.true_or, List.all_cons, List.all_nil, id_eq, m1, m2, m3, m4, m5, f64]
  exact ⟨_, rfl⟩
def gNo (K : PySem.W.Frag) : Gx K := ⟨none, [], fun _ => True, fun _ _ _ _ => trivial, fun _ _ _ z => (nomatch z), fun _ z => (nomatch z)⟩
def cNo (K : PySem.W.Frag) (H : Hp) : Cd K := ⟨gNo K, H, [], fun _ => False⟩
/-! ### the dice's heap -/
structure Ds (H0 H : Hp) (d l g : Addr) (xs gs : List Int) (t : Int) : Prop where
  hd : H d = some (.dK (dkv l g t))
  hl : H l = some (.lst (xs.map V.int))
  hg : H g = some (.lst (gs.map V.int))
  g63 : gs.length ≤ 63
  nlg : l ≠ g
  kp : ∀ b o, H0 b = some o → b ∉ [d, l, g] → H b = some o
  dm : ∀ b, H0 b ≠ none → H b ≠ none
theorem Ds.fresh {H0 H : Hp} {d l g : Addr} {xs gs : List Int} {t : Int} (D : Ds H0 H d l g xs gs t) {p : Addr} (hp : H p = none) (o : HO) : Ds H0 (upd H p o) d l g xs gs t := by
  have n : ∀ {b : Addr} {u : HO}, H b = some u → b ≠ p := fun e z => by rw [z, hp] at e; cases e
  exact ⟨by rw [upd_ne (n D.hd)]; exact D.hd, by rw [upd_ne (n D.hl)]; exact D.hl, by rw [upd_ne (n D.hg)]; exact D.hg, D.g63, D.nlg, fun b u e m => by rw [upd_ne (n (D.kp b u e m))]; exact D.kp b u e m, fun b e => by
    by_cases z : b = p
    · rw [z, upd_same]; exact fun z => nomatch z
    · rw [upd_ne z]; exact D.dm b e⟩
theorem Ds.setg {H0 H : Hp} {d l g : Addr} {xs gs gs' : List Int} {t : Int} (D : Ds H0 H d l g xs gs t) (h : gs'.length ≤ 63) : Ds H0 (upd H g (.lst (gs'.map V.int))) d l g xs gs' t := by
  have nd : d ≠ g := fun z => by have := D.hd; rw [z, D.hg] at this; cases this
  exact ⟨by rw [upd_ne nd]; exact D.hd, by rw [upd_ne D.nlg]; exact D.hl, upd_same, h, D.nlg, fun b u e m => by rw [upd_ne (fun z => m (by simp [z]))]; exact D.kp b u e m, fun b e => by
    by_cases z : b = g
    · rw [z, upd_same]; exact fun z => nomatch z
    · rw [upd_ne z]; exact D.dm b e⟩
theorem Ds.kpG {K : PySem.W.Frag} {G : Gx K} {H0 H : Hp} {d l g : Addr} {xs gs : List Int} {t : Int} (D : Ds H0 H d l g xs gs t) (hrt : G.rt = some d) (hS : G.S = [d, l, g]) (x63 : xs.length ≤ 63) (ok : G.ok H0) : Kp G H0 H :=
  ⟨fun b o e n => D.kp b o e (hS ▸ n), D.dm, ok, (G.fam d hrt H).mpr ⟨l, g, xs, gs, t, hS, D.nlg, x63, D.g63, D.hd, D.hl, D.hg⟩⟩
theorem dpI {K : PySem.W.Frag} {H : Hp} {a : Addr} {ns : List Int} (h : H a = some (.lst (ns.map V.int))) : Dp K H (.ref a) (.list (ns.map PyData.int)) :=
  Rp.dp (G := gNo K) (.lst (ns.map D.int)) _ _ _ (.lst h .of_ints) (by simp [D.py, pys_int])
theorem rd_ne {K : PySem.W.Frag} {σ : St} {H : Hp} {i : Nat} {g : Addr} {ns : List Int} {Q : Bool → Hp → Prop} (hσ : σ[i]? = some (some (.ref g))) (hg : H g = some (.lst (ns.map V.int))) (k : ∀ q, H q = none → Q (!ns.isEmpty) (upd H q (.lst []))) :
    tTest (tOp (rNeD K) (tVar i) (tLst tNil)) σ H Q := by
  refine ⟨_, hσ, Nat.zero_le _, fun q hq => ?_⟩
  have n : g ≠ q := fun z => by rw [z, hq] at hg; cases hg
  have := dep_int ns
  have hs : SeqAt.shaped (.list (ns.map PyData.int)) = true := Bool.and_eq_true_iff.mpr ⟨lay_int ns, decide_eq_true (by show PyData.depthAll (ns.map PyData.int) + 1 ≤ 64; omega)⟩
  refine ⟨_, .list [], dpI (by rw [upd_ne n]; exact hg), dpI (ns := []) upd_same, hs, rfl, _, rfl, ?_⟩
  have e : (!PyData.eqv (.list (ns.map PyData.int)) (.list [])) = !ns.isEmpty := by cases ns <;> simp [PyData.eqv, PyData.eqvAll]
  rw [e]
  exact k q hq
theorem rd_test {K : PySem.W.Frag} {σ : St} {H0 H : Hp} {d l g : Addr} {xs gs : List Int} {t : Int} {Q : Bool → Hp → Prop} (hσ : σ[1]? = some (some (.ref g))) (D : Ds H0 H d l g xs gs t) (k : ∀ b H', Ds H0 H' d l g xs gs t → (b = true → ∃ rest, gs = 0 :: rest) → Q b H') :
    tAnd (tTest (tOp (rNeD K) (tVar 1) (tLst tNil))) (tTest (tOp rEq (tOp (rIxL K) (tVar 1) (tC (.int 0))) (tC (.int 0)))) σ H Q := by
  refine rd_ne hσ D.hg fun q hq => ?_
  have D3 := D.fresh hq (.lst [])
  cases gs with
  | nil => exact k false _ D3 (fun z => nomatch z)
  | cons n rest =>
    refine iteT ?_
    refine ⟨_, hσ, g, _, 0, .int n, rfl, rfl, SqL.of D3.hg, atI_nat (k := 0) rfl, rfl, _, rfl, k _ _ D3 fun h => ?_⟩
    have e := of_decide_eq_true h
    cases e
    exact ⟨rest, rfl⟩
theorem Ds.kpN {K : PySem.W.Frag} {H0 H H' : Hp} {d l g : Addr} {xs gs : List Int} {t : Int} (D : Ds H0 H d l g xs gs t) (k : Kp (gNo K) H H') : Ds H0 H' d l g xs gs t :=
  ⟨k.kp _ _ D.hd (fun z => nomatch z), k.kp _ _ D.hl (fun z => nomatch z), k.kp _ _ D.hg (fun z => nomatch z), D.g63, D.nlg, fun b o e m => k.kp _ _ (D.kp b o e m) (fun z => nomatch z), fun b e => k.dm b (D.dm b e)⟩
theorem sp_mixed {K : PySem.W.Frag} {H0 H : Hp} {d l g : Addr} {xs gs : List Int} {t : Int} (D : Ds H0 H d l g xs gs t) (a b : Int) (hb : 0 ≤ b ∧ b < 1000) {Q : VK} {E : XK} (k : ∀ r H', Ds H0 H' d l g xs gs t → Q (.int r) H') : spD (K := K) F__law_mixed [.int a, .int b] H Q E := by
  obtain ⟨r, e⟩ := e_mixed a b hb
  refine ⟨gNo K, [.int a, .int b], [], fun d => d = .int r, fun _ => False, trivial, (fun _ z => nomatch z), RpA.of_ints (ns := [a, b]), by rw [e]; rfl, fun dd hd v H' F' kp rv fr nd => ?_⟩
  subst hd
  obtain ⟨rfl, _⟩ := Rp.intI rv
  exact k r H' (D.kpN kp)
theorem rd_cell {K : PySem.W.Frag} {σ : St} {H0 H : Hp} {d l g : Addr} {xs gs : List Int} {t a : Int} {Q : VK} (h3 : σ[3]? = some (some (.ref l))) (h4 : σ[4]? = some (some (.int a))) (D : Ds H0 H d l g xs gs t) (k : ∀ cv H', Ds H0 H' d l g xs gs t → Q (.int cv) H') :
    L2.tIf (tTest (tOp (rNeD K) (tVar 3) (tLst tNil))) (tOp (rIxL K) (tVar 3) (tOp (rI (fun _ j => 0 < j) fun i j => .int (i % j)) (tVar 4) (tCB (fun xs H Q => ∃ p ys, xs = [.ref p] ∧ (SqL K H p ys ∨ SqT K H p ys) ∧ Q (.int ys.length) H) (tCons (tVar 3) tNil)))) (tC (.int 0)) σ H Q := by
  refine rd_ne h3 D.hl fun q hq => ?_
  have D3 := D.fresh hq (.lst [])
  cases hx : xs with
  | nil => exact k 0 _ D3
  | cons n rest =>
    refine iteT ?_
    have hlen : ((xs.map V.int).length : Int) = (xs.length : Nat) := by rw [List.length_map]
    have hz : (0 : Int) < (xs.length : Nat) := by rw [hx]; simp
    have q1 : 0 ≤ a % (xs.length : Nat) := Int.emod_nonneg _ (by omega)
    have q2 : a % (xs.length : Nat) < (xs.length : Nat) := Int.emod_lt_of_pos _ (by omega)
    obtain ⟨j, hj⟩ := Int.eq_ofNat_of_zero_le q1
    have hj' : j < xs.length := by omega
    refine ⟨_, h3, _, h4, _, h3, _, xs.map V.int, rfl, .inl (SqL.of D3.hl), a, _, rfl, rfl, by rw [hlen]; exact hz, l, xs.map V.int, _, .int (xs[j]), rfl, rfl, SqL.of D3.hl, ?_, k _ _ D3⟩
    rw [hlen, hj]
    refine CY.atI_nat ?_
    rw [List.getElem?_map, List.getElem?_eq_getElem hj']
    rfl
end DC
namespace CY
open PySem L2 DL
abbrev N_reason : List Str := ["yard", "arrangement", "step", "wagon", "sign", "links", "chain"]
def g_reason : DL.Env → DL.W (Fl × DL.Env) := (sSeq (sExpr (dCall F_validate_arrangement (dCons (dV 0) (dCons (dV 1) dNil)))) (sSeq (sExpr (dCall F_validate_step (dCons (dV 0) (dCons (dV 2) dNil)))) (sSeq (sAsg (dV 2) (bTup 2 (bCons (bName 3) (bCons (bName 4) bNil)))) (sSeq (sPar 5 6 (dCall F_own_links (dCons (dV 0) dNil)) (dLst (dCons (dV 3) dNil))) (sSeq (sIf (dB (dCall F_can_step (dCons (dV 0) (dCons (dV 5) (dCons (dV 1) (dCons (dV 3) (dCons (dV 4) dNil))))))) (sRet (dC .non)) sNil) (sSeq (sWh (dNotT (dB (dCall F_can_step (dCons (dV 0) (dCons (dV 5) (dCons (dV 1) (dCons (dOp idxD (dV 6) (dUn negD (dC (.int 1)))) (dCons (dV 4) dNil)))))))) (sSeq (sIf (dB (dCall F_is_at_wall (dCons (dV 0) (dCons (dV 1) (dCons (dOp idxD (dV 6) (dUn negD (dC (.int 1)))) (dCons (dV 4) dNil)))))) (sRet (dTup (dCons (dCB (a1 tupleD) (dCons (dV 6) dNil)) (dCons (dC (.str "wall")) dNil)))) sNil) (sApp 6 (dCall F_holder_of (dCons (dV 5) (dCons (dV 1) (dCons (dOp idxD (dV 6) (dUn negD (dC (.int 1)))) (dCons (dV 4) dNil)))))))) (sRet (dTup (dCons (dCB (a1 tupleD) (dCons (dV 6) dNil)) (dCons (dC (.str "free")) dNil))))))))))
def F_reason : List D → DL.W D := bodyD 3 N_reason.length g_reason
end CY
namespace K14
open PySem L2 DL CY DC
abbrev N__law_far : List Str := ["lot", "sign", "spots", "turn", "i", "j", "least", "top", "ends_here"]
def g__law_far : DL.Env → DL.W (Fl × DL.Env) := (sSeq (sSetN 2 (dLc [8] (fSeq (dOp idxD (dV 0) (dC (.int 0)))) (bName 8) dYes (dOp idxD (dV 8) (dIf (dB (dOp gtD (dV 1) (dC (.int 0)))) (dC (.int 1)) (dC (.int 0)))))) (sSeq (sFor (fRng1 (dCons (dCB (a1 lenD) (dCons (dV 2) dNil)) dNil)) (bName 3) (sFor (fSeq (dOp idxD (dV 0) (dC (.int 1)))) (bTup 4 (bCons (bName 4) (bCons (bName 5) (bCons (bName 6) (bCons (bName 7) bNil))))) (sIf (dB (dOp gtD (dV 1) (dC (.int 0)))) (sSeq (sPut 2 (dV 5) (dCB (a2 min2D) (dCons (dOp idxD (dV 2) (dV 5)) (dCons (dOp addD (dOp idxD (dV 2) (dV 4)) (dV 7)) dNil)))) (sPut 2 (dV 4) (dCB (a2 min2D) (dCons (dOp idxD (dV 2) (dV 4)) (dCons (dOp subD (dOp idxD (dV 2) (dV 5)) (dV 6)) dNil))))) (sSeq (sPut 2 (dV 5) (dCB (a2 max2D) (dCons (dOp idxD (dV 2) (dV 5)) (dCons (dOp addD (dOp idxD (dV 2) (dV 4)) (dV 6)) dNil)))) (sPut 2 (dV 4) (dCB (a2 max2D) (dCons (dOp idxD (dV 2) (dV 4)) (dCons (dOp subD (dOp idxD (dV 2) (dV 5)) (dV 7)) dNil)))))))) (sRet (dCB (a1 tupleD) (dCons (dV 2) dNil)))))
def F__law_far : List D → DL.W D := bodyD 2 N__law_far.length g__law_far
abbrev N__law_reason : List Str := ["lot", "spots", "act", "line", "sign", "word", "v", "later", "some", "i", "j", "least", "top"]
def g__law_reason : DL.Env → DL.W (Fl × DL.Env) := (sSeq (sIf (dB (dCall F__law_holds (dCons (dV 0) (dCons (dCall F__law_moved (dCons (dV 1) (dCons (dV 2) dNil))) dNil)))) (sRet (dC .non)) sNil) (sSeq (sPar3 3 4 5 (dLst (dCons (dOp idxD (dV 2) (dC (.int 0))) dNil)) (dImm (dOp idxD (dV 2) (dC (.int 1)))) (dImm (dC (.str "")))) (sSeq (sWh (dB (dOp eqS (dV 5) (dC (.str "")))) (sSeq (sSet 6 (dOp idxD (dV 3) (dUn negD (dC (.int 1))))) (sSeq (sSetN 7 (dCall F__law_moved (dCons (dV 1) (dCons (dTup (dCons (dV 6) (dCons (dV 4) dNil))) dNil)))) (sIf (dB (dOp eqS (dOp idxD (dV 1) (dV 6)) (dOp idxD (dOp idxD (dOp idxD (dV 0) (dC (.int 0))) (dV 6)) (dIf (dB (dOp gtD (dV 4) (dC (.int 0)))) (dC (.int 1)) (dC (.int 0)))))) (sSet 5 (dC (.str "wall"))) (sIf (dB (dCall F__law_holds (dCons (dV 0) (dCons (dV 7) dNil)))) (sSet 5 (dC (.str "free"))) (sSeq (sSetN 8 (dLc [9, 10, 11, 12] (fSeq (dOp idxD (dV 0) (dC (.int 1)))) (bTup 4 (bCons (bName 9) (bCons (bName 10) (bCons (bName 11) (bCons (bName 12) bNil))))) (dNotT (dB (dChain leD leD (dV 11) (dOp subD (dOp idxD (dV 7) (dV 10)) (dOp idxD (dV 7) (dV 9))) (dV 12)))) (dTup (dCons (dV 9) (dCons (dV 10) dNil))))) (sApp 3 (dIf (dB (dOp eqS (dOp idxD (dOp idxD (dV 8) (dC (.int 0))) (dC (.int 1))) (dV 6))) (dOp idxD (dOp idxD (dV 8) (dC (.int 0))) (dC (.int 0))) (dOp idxD (dOp idxD (dV 8) (dC (.int 0))) (dC (.int 1))))))))))) (sRet (dTup (dCons (dCB (a1 tupleD) (dCons (dV 3) dNil)) (dCons (dV 5) dNil)))))))
def F__law_reason : List D → DL.W D := bodyD 3 N__law_reason.length g__law_reason
abbrev N__law_right : List Str := ["lot", "spots", "kept", "ends_here", "v", "act", "due", "told"]
def g__law_right : DL.Env → DL.W (Fl × DL.Env) := (sSeq (sPar 2 3 (dImm (dCB (a1 reprD) (dCons (dLstB (dCons (dV 0) (dCons (dV 1) dNil))) dNil))) (dDic (dCons (dUn negD (dC (.int 1))) (dCons (dCall F__law_far (dCons (dV 0) (dCons (dUn negD (dC (.int 1))) dNil))) (dCons (dC (.int 1)) (dCons (dCall F__law_far (dCons (dV 0) (dCons (dC (.int 1)) dNil))) dNil)))))) (sSeq (sFor (fRng1 (dCons (dCB (a1 lenD) (dCons (dV 1) dNil)) dNil)) (bName 4) (sFor (fSeq (dTup (dCons (dTup (dCons (dV 4) (dCons (dUn negD (dC (.int 1))) dNil))) (dCons (dTup (dCons (dV 4) (dCons (dC (.int 1)) dNil))) dNil)))) (bName 5) (sSeq (sSetN 6 (dCall F__law_reason (dCons (dV 0) (dCons (dV 1) (dCons (dV 5) dNil))))) (sSeq (sSetN 7 (dLst (dCons (dCall F_reason (dCons (dV 0) (dCons (dV 1) (dCons (dV 5) dNil)))) (dCons (dCallK F_reason 0 3 [2, 1, 0] dNil (dCons (dV 5) (dCons (dV 1) (dCons (dV 0) dNil)))) dNil)))) (sSeq (sIf (dB (dOp neS (dCB (a1 reprD) (dCons (dV 7) dNil)) (dCB (a1 reprD) (dCons (dLstB (dCons (dV 6) (dCons (dV 6) dNil))) dNil)))) (sRet (dC (.bl false))) sNil) (sIf (dAndT (dB (dOp isnND (dV 6) (dC .non))) (dAndT (dB (dOp eqS (dOp idxD (dV 6) (dC (.int 1))) (dC (.str "wall")))) (dB (dOp neS (dOp idxD (dV 1) (dV 4)) (dOp idxD (dOp dixD (dV 3) (dOp idxD (dV 5) (dC (.int 1)))) (dV 4)))))) (sRet (dC (.bl false))) sNil)))))) (sRet (dOp eqS (dCB (a1 reprD) (dCons (dLstB (dCons (dV 0) (dCons (dV 1) dNil))) dNil)) (dV 2)))))
def F__law_right : List D → DL.W D := bodyD 2 N__law_right.length g__law_right
abbrev N__law_row_right : List Str := ["dice", "many", "is_free", "lot", "spots", "due", "last", "v"]
def g__law_row_right : DL.Env → DL.W (Fl × DL.Env) := (sSeq (sPar 1 2 (dImm (dOp addD (dC (.int 2)) (dOp modD (dCall F__law_next (dCons (dV 0) dNil)) (dC (.int 30))))) (dImm (dOp modD (dCall F__law_next (dCons (dV 0) dNil)) (dC (.int 2))))) (sSeq (sSet 3 (dTup (dCons (dOp mulD (dTup (dCons (dTup (dCons (dC (.int 0)) (dCons (dOp mulD (dC (.int 2)) (dV 1)) dNil))) dNil)) (dV 1)) (dCons (dCB (a1 tupleD) (dCons (dLc [7] (fRng1 (dCons (dOp subD (dV 1) (dC (.int 1))) dNil)) (bName 7) dYes (dTup (dCons (dV 7) (dCons (dOp addD (dV 7) (dC (.int 1))) (dCons (dC (.int 1)) (dCons (dC (.int 2)) dNil)))))) dNil)) dNil)))) (sSeq (sSet 4 (dCB (a1 tupleD) (dCons (dLc [7] (fRng1 (dCons (dV 1) dNil)) (bName 7) dYes (dOp addD (dV 7) (dOp mulD (dOp addD (dV 1) (dC (.int 1))) (dOp subD (dC (.int 1)) (dV 2))))) dNil))) (sSeq (sSet 5 (dTup (dCons (tupRng (dCons (dV 1) dNil)) (dCons (dIf (dTr (dV 2)) (dC (.str "free")) (dC (.str "wall"))) dNil)))) (sSeq (sSet 6 (dIf (dTr (dV 2)) (dC .non) (dTup (dCons (dTup (dCons (dOp subD (dV 1) (dC (.int 1))) dNil)) (dCons (dC (.str "wall")) dNil))))) (sRet (dOp eqS (dLstB (dCons (dCall F_reason (dCons (dV 3) (dCons (dV 4) (dCons (dTup (dCons (dC (.int 0)) (dCons (dC (.int 1)) dNil))) dNil)))) (dCons (dCall F_reason (dCons (dV 3) (dCons (dV 4) (dCons (dTup (dCons (dOp subD (dV 1) (dC (.int 1))) (dCons (dC (.int 1)) dNil))) dNil)))) dNil))) (dLstB (dCons (dV 5) (dCons (dV 6) dNil))))))))))
def F__law_row_right : List D → DL.W D := bodyD 1 N__law_row_right.length g__law_row_right
abbrev N_law : List Str := ["script", "dice", "turn", "lot", "spots", "nth", "wide", "other", "low", "high"]
def g_lawR : DL.Env → DL.W (Fl × DL.Env) := (sSeq (sFor (fRng1 (dCons (dOp addD (dC (.int 3)) (dOp fdivD (dCB (a1 lenD) (dCons (dSl (dV 0) dNo (dSo (dC (.int 63)))) dNil)) (dC (.int 8)))) dNil)) (bName 2) (sSeq (sAsg (dCall F__law_lot (dCons (dV 1) (dCons (dIf (dB (dOp eqS (dV 2) (dC (.int 1)))) (dC (.int 30)) (dC (.int 9))) dNil))) (bTup 2 (bCons (bName 3) (bCons (bName 4) bNil)))) (sSeq (sFor (fRng1 (dCons (dIf (dB (dOp ltD (dCB (a1 lenD) (dCons (dV 4) dNil)) (dC (.int 10)))) (dC (.int 3)) (dC (.int 1))) dNil)) (bName 5) (sSeq (sSet 6 (dCB (a1 tupleD) (dCons (dLc [8, 9] (fSeq (dOp idxD (dV 3) (dC (.int 0)))) (bTup 2 (bCons (bName 8) (bCons (bName 9) bNil))) dYes (dTup (dCons (dCB (a2 max2D) (dCons (dOp subD (dV 8) (dC (.int 1))) (dCons (dOp subD (dC (.int 0)) (dOp powD (dC (.int 10)) (dC (.int 9)))) dNil))) (dCons (dCB (a2 min2D) (dCons (dOp addD (dV 9) (dC (.int 1))) (dCons (dOp powD (dC (.int 10)) (dC (.int 9))) dNil))) dNil)))) dNil))) (sSeq (sFor (fSeq (dTup (dCons (dTup (dCons (dV 6) (dCons (dOp idxD (dV 3) (dC (.int 1))) dNil))) (dCons (dTup (dCons (dOp idxD (dV 3) (dC (.int 0))) (dCons (dSl (dOp idxD (dV 3) (dC (.int 1))) (dSo (dC (.int 1))) dNo) dNil))) (dCons (dV 3) dNil))))) (bName 7) (sIf (dNotT (dB (dCall F__law_right (dCons (dV 7) (dCons (dV 4) dNil))))) (sRet (dC (.bl false))) sNil)) (sSetN 4 (dCall F__law_walked (dCons (dV 1) (dCons (dV 3) (dCons (dV 4) (dCons (dOp addD (dC (.int 1)) (dOp modD (dCall F__law_next (dCons (dV 1) dNil)) (dC (.int 6)))) dNil))))))))) (sIf (dNotT (dB (dCall F__law_row_right (dCons (dV 1) dNil)))) (sRet (dC (.bl false))) sNil)))) (sRet (dC (.bl true))))
end K14
namespace CY
open PySem L2 DL
/-! ### chains that push -/
theorem walk_diff {cs : List Cp} {m : Nat} (cut : ∀ (k : Nat) (c : Cp), cs[k]? = some c → ∃ s : Nat → Bool, s c.i ≠ s c.j ∧ ∀ (l : Nat) (d : Cp), cs[l]? = some d → l ≠ k → s d.i = s d.j) (p e : Nat → Nat)
    (he : ∀ i, i < m → ∃ c, cs[e i]? = some c ∧ ((c.i = p i ∧ c.j = p (i + 1)) ∨ (c.j = p i ∧ c.i = p (i + 1)))) (hne : ∀ i, i + 1 < m → e i ≠ e (i + 1)) :
    ∀ d a b, b = a + d → a < b → b < m → e a ≠ e b := by
  intro d
  induction d using Nat.strongRecOn with
  | ind d ih =>
    intro a b hb hab hbm hx
    have far : a + 1 < b := by
      rcases Nat.lt_or_ge (a + 1) b with h | h
      · exact h
      · have e1 : b = a + 1 := by omega
        subst e1
        exact absurd hx (hne a hbm)
    -- along edges that are not x, the side does not change
    have along : ∀ (x : Nat) (s : Nat → Bool), (∀ (l : Nat) (d : Cp), cs[l]? = some d → l ≠ x → s d.i = s d.j) → ∀ n u, u + n < m + 1 → (∀ t, u ≤ t → t < u + n → e t ≠ x) → s (p u) = s (p (u + n)) := by
      intro x s hs n
      induction n with
      | zero => intro u _ _; rfl
      | succ n ihn =>
        intro u hu hne'
        have h1 := ihn u (by omega) (fun t h1 h2 => hne' t h1 (by omega))
        obtain ⟨c, hc, hp⟩ := he (u + n) (by omega)
        have h2 := hs _ c hc (hne' (u + n) (by omega) (by omega))
        have h3 : s (p (u + n)) = s (p (u + n + 1)) := by
          rcases hp with ⟨q1, q2⟩ | ⟨q1, q2⟩
          · rw [← q1, ← q2]; exact h2
          · rw [← q1, ← q2]; exact h2.symm
        exact h1.trans h3
    obtain ⟨c, hc, hp⟩ := he a (by omega)
    obtain ⟨s, s1, s2⟩ := cut (e a) c hc
    have h1 := along (e a) s s2 (b - (a + 1)) (a + 1) (by omega) fun t q1 q2 h => ih (t - a) (by omega) a t (by omega) (by omega) (by omega) h.symm
    rw [show a + 1 + (b - (a + 1)) = b by omega] at h1
    obtain ⟨c', hc', hp'⟩ := he b hbm
    rw [← hx, hc] at hc'
    cases hc'
    have hpb : p b = p (a + 1) := by
      rcases hp with ⟨q1, q2⟩ | ⟨q1, q2⟩ <;> rcases hp' with ⟨r1, r2⟩ | ⟨r1, r2⟩
      · exfalso; rw [← r1, ← q2] at h1; exact s1 h1.symm
      · rw [← r1, q2]
      · rw [← r1, q2]
      · exfalso; rw [← r1, ← q2] at h1; exact s1 h1
    obtain ⟨c2, hc2, hp2⟩ := he (a + 1) (by omega)
    obtain ⟨s', t1, t2⟩ := cut (e (a + 1)) c2 hc2
    have h2 := along (e (a + 1)) s' t2 (b - (a + 2)) (a + 2) (by omega) fun t q1 q2 h => ih (t - (a + 1)) (by omega) (a + 1) t (by omega) (by omega) (by omega) h.symm
    rw [show a + 2 + (b - (a + 2)) = b by omega, hpb] at h2
    rcases hp2 with ⟨q1, q2⟩ | ⟨q1, q2⟩
    · rw [show a + 1 + 1 = a + 2 by omega] at q2
      rw [← q1, ← q2] at h2
      exact t1 h2.symm
    · rw [show a + 1 + 1 = a + 2 by omega] at q2
      rw [← q1, ← q2] at h2
      exact t1 h2
theorem pigeon : ∀ (n : Nat) (l : List Nat), l.Nodup → (∀ x ∈ l, x < n) → l.length ≤ n
  | 0, [], _, _ => Nat.le_refl _
  | 0, x :: l, _, h => absurd (h x List.mem_cons_self) (Nat.not_lt_zero _)
  | n + 1, l, nd, h => by
    have h1 := pigeon n (l.erase n) (nd.erase n) fun x hx => by
      have q1 := h x (List.mem_of_mem_erase hx)
      have q2 : x ≠ n := fun z => by
        subst z
        exact (List.Nodup.not_mem_erase nd) hx
      omega
    by_cases hm : n ∈ l
    · rw [List.length_erase_of_mem hm] at h1
      omega
    · rw [List.erase_of_not_mem hm] at h1
      omega
/-- so a walk that does not turn has no more steps than there are couplings -/
theorem walk_short {cs : List Cp} {m : Nat} (cut : ∀ (k : Nat) (c : Cp), cs[k]? = some c → ∃ s : Nat → Bool, s c.i ≠ s c.j ∧ ∀ (l : Nat) (d : Cp), cs[l]? = some d → l ≠ k → s d.i = s d.j) (p e : Nat → Nat)
    (he : ∀ i, i < m → ∃ c, cs[e i]? = some c ∧ ((c.i = p i ∧ c.j = p (i + 1)) ∨ (c.j = p i ∧ c.i = p (i + 1)))) (hne : ∀ i, i + 1 < m → e i ≠ e (i + 1)) : m ≤ cs.length := by
  have nd : ((List.range m).map e).Nodup := by
    refine List.pairwise_map.mpr (List.pairwise_iff_getElem.mpr fun a b ha hb hab => ?_)
    rw [List.length_range] at ha hb
    rw [List.getElem_range, List.getElem_range]
    exact walk_diff cut p e he hne (b - a) a b (by omega) hab hb
  have := pigeon cs.length _ nd fun x hx => by
    obtain ⟨i, hi, rfl⟩ := List.mem_map.mp hx
    obtain ⟨c, hc, _⟩ := he i (List.mem_range.mp hi)
    exact (List.getElem?_eq_some_iff.mp hc).1
  rwa [List.length_map, List.length_range] at this
end CY
namespace CY
open PySem L2 DL
/-- the first link that holds v back -/
def nx (cs : List Cp) (ss : List Int) (g : Int) (v : Nat) : Option Lk := (lks v cs).find? fun k => !okL ss v g k
theorem mem_lks {v : Nat} {k : Lk} : ∀ {cs : List Cp}, k ∈ lks v cs → ∃ (x : Nat) (c : Cp), cs[x]? = some c ∧ ((c.i = v ∧ k = ⟨c.j, c.lo, c.hi⟩) ∨ (c.j = v ∧ k = ⟨c.i, -c.hi, -c.lo⟩))
  | [], h => by cases h
  | c :: cs, h => by
    simp only [lks, List.mem_append] at h
    rcases h with (h | h) | h
    · split at h
      · rename_i e
        exact ⟨0, c, rfl, .inl ⟨e, List.mem_singleton.mp h⟩⟩
      · cases h
    · split at h
      · rename_i e
        exact ⟨0, c, rfl, .inr ⟨e, List.mem_singleton.mp h⟩⟩
      · cases h
    · obtain ⟨x, c', h1, h2⟩ := mem_lks h
      exact ⟨x + 1, c', by simpa using h1, h2⟩
theorem nx_edge {cs : List Cp} {ss : List Int} {g : Int} {v : Nat} {k : Lk} (h : nx cs ss g v = some k) : okL ss v g k = false ∧ ∃ (x : Nat) (c : Cp), cs[x]? = some c ∧ ((c.i = v ∧ k = ⟨c.j, c.lo, c.hi⟩) ∨ (c.j = v ∧ k = ⟨c.i, -c.hi, -c.lo⟩)) := by
  refine ⟨?_, mem_lks (List.mem_of_find?_eq_some h)⟩
  have := List.find?_some h
  simpa using this
section
variable (ws : List (Int × Int)) (cs : List Cp) (ss : List Int) (g : Int)
/-- v stands at its wall -/
def atW (v : Nat) : Bool := decide (ss.getD v 0 = wallOf (ws.getD v (0, 0)) g)
/-- the chain from v, and whether it ends at a wall -/
inductive Ch : Nat → List Nat → Bool → Prop
  | wall {v : Nat} : atW ws ss g v = true → Ch v [v] true
  | free {v : Nat} : atW ws ss g v = false → nx cs ss g v = none → Ch v [v] false
  | step {v : Nat} {k : Lk} {l : List Nat} {b : Bool} : atW ws ss g v = false → nx cs ss g v = some k → Ch k.o l b → Ch v (v :: l) b
def pt (v : Nat) : Nat → Nat
  | 0 => v
  | i + 1 => match nx cs ss g (pt v i) with
    | some k => k.o
    | none => pt v i
end
theorem pt_succ {cs : List Cp} {ss : List Int} {g : Int} {v i : Nat} {k : Lk} (h : nx cs ss g (pt cs ss g v i) = some k) : pt cs ss g v (i + 1) = k.o := by
  show (match nx cs ss g (pt cs ss g v i) with
    | some k => k.o
    | none => pt cs ss g v i) = k.o
  rw [h]
/-- the chain ends -/
theorem ch_stops {ws : List (Int × Int)} {cs : List Cp} {ss : List Int} {g : Int} (V : VY ws cs) (S : VS ws cs ss) (hg : g = -1 ∨ g = 1) (v : Nat) : ∃ i, i ≤ cs.length ∧ nx cs ss g (pt cs ss g v i) = none := by
  by_cases h : ∃ i, i ≤ cs.length ∧ nx cs ss g (pt cs ss g v i) = none
  · exact h
  · exfalso
    have some_ : ∀ i, i < cs.length + 1 → ∃ k, nx cs ss g (pt cs ss g v i) = some k := fun i hi => by
      cases e : nx cs ss g (pt cs ss g v i) with
      | some k => exact ⟨k, rfl⟩
      | none => exact absurd ⟨i, by omega, e⟩ h
    have edge : ∀ i, ∃ x, i < cs.length + 1 → ∃ (k : Lk) (c : Cp), nx cs ss g (pt cs ss g v i) = some k ∧ okL ss (pt cs ss g v i) g k = false ∧ cs[x]? = some c ∧ ((c.i = pt cs ss g v i ∧ k = ⟨c.j, c.lo, c.hi⟩) ∨ (c.j = pt cs ss g v i ∧ k = ⟨c.i, -c.hi, -c.lo⟩)) := fun i => by
      by_cases hi : i < cs.length + 1
      · obtain ⟨k, hk⟩ := some_ i hi
        obtain ⟨h1, x, c, h2, h3⟩ := nx_edge hk
        exact ⟨x, fun _ => ⟨k, c, hk, h1, h2, h3⟩⟩
      · exact ⟨0, fun z => absurd z hi⟩
    let e : Nat → Nat := fun i => Classical.choose (edge i)
    have he : ∀ i, i < cs.length + 1 → ∃ (k : Lk) (c : Cp), nx cs ss g (pt cs ss g v i) = some k ∧ okL ss (pt cs ss g v i) g k = false ∧ cs[e i]? = some c ∧ ((c.i = pt cs ss g v i ∧ k = ⟨c.j, c.lo, c.hi⟩) ∨ (c.j = pt cs ss g v i ∧ k = ⟨c.i, -c.hi, -c.lo⟩)) := fun i => Classical.choose_spec (edge i)
    have := walk_short V.cut (pt cs ss g v) e (m := cs.length + 1) (fun i hi => by
      obtain ⟨k, c, h1, _, h2, h3⟩ := he i hi
      refine ⟨c, h2, ?_⟩
      rw [pt_succ h1]
      rcases h3 with ⟨q1, rfl⟩ | ⟨q1, rfl⟩
      · exact .inl ⟨q1, rfl⟩
      · exact .inr ⟨q1, rfl⟩) (fun i hi hx => by
      obtain ⟨k, c, h1, o1, h2, h3⟩ := he i (by omega)
      obtain ⟨k', c', h1', o2, h2', h3'⟩ := he (i + 1) hi
      rw [← hx, h2] at h2'
      cases h2'
      obtain ⟨c1, _, _, c4, _⟩ := V.cok c (List.mem_of_getElem? h2)
      obtain ⟨s1, s2⟩ := S.cpl c (List.mem_of_getElem? h2)
      rw [pt_succ h1] at h3' o2
      unfold okL at o1 o2
      simp only [Bool.and_eq_false_iff, decide_eq_false_iff_not] at o1 o2
      rcases h3 with ⟨q1, rfl⟩ | ⟨q1, rfl⟩ <;> rcases h3' with ⟨r1, rfl⟩ | ⟨r1, rfl⟩
      · dsimp only at r1; omega
      · dsimp only at o1 o2 r1
        rw [← q1] at o1
        omega
      · dsimp only at o1 o2 r1
        rw [← q1] at o1
        omega
      · dsimp only at r1; omega)
    omega
theorem ch_ex {ws : List (Int × Int)} {cs : List Cp} {ss : List Int} {g : Int} (V : VY ws cs) (S : VS ws cs ss) (hg : g = -1 ∨ g = 1) (v : Nat) : ∃ l b, Ch ws cs ss g v l b ∧ l.length ≤ cs.length + 1 := by
  obtain ⟨n, hn, h⟩ := ch_stops V S hg v
  have : ∀ m, m ≤ n → ∃ l b, Ch ws cs ss g (pt cs ss g v (n - m)) l b ∧ l.length ≤ m + 1 := by
    intro m
    induction m with
    | zero =>
      intro _
      cases e : atW ws ss g (pt cs ss g v (n - 0)) with
      | true => exact ⟨_, _, .wall e, by simp⟩
      | false => exact ⟨_, _, .free e h, by simp⟩
    | succ m ih =>
      intro hm
      obtain ⟨l, b, hc, hl⟩ := ih (by omega)
      cases e : atW ws ss g (pt cs ss g v (n - (m + 1))) with
      | true => exact ⟨_, _, .wall e, by simp⟩
      | false =>
        cases q : nx cs ss g (pt cs ss g v (n - (m + 1))) with
        | none => exact ⟨_, _, .free e q, by simp⟩
        | some k =>
          have e2 := pt_succ q
          rw [show n - (m + 1) + 1 = n - m by omega] at e2
          rw [e2] at hc
          exact ⟨_, _, .step e q hc, by simp; omega⟩
  obtain ⟨l, b, hc, hl⟩ := this n (Nat.le_refl n)
  rw [Nat.sub_self] at hc
  exact ⟨l, b, hc, by omega⟩
end CY
namespace CY
open PySem L2 DL DC
theorem idx_last (l : List D) (x : D) : idxL (l ++ [x]) (-1) = pu x := by
  have e : L2.atI (l ++ [x]) (-1) = some x := by
    unfold L2.atI L2.ixN
    rw [if_neg (by decide), if_pos (by rw [List.length_append, List.length_singleton]; omega)]
    have : ((-1 : Int) + ((l ++ [x]).length : Nat)).toNat = l.length := by rw [List.length_append, List.length_singleton]; omega
    rw [this]
    show (l ++ [x])[l.length]? = some x
    rw [List.getElem?_append_right (Nat.le_refl _), Nat.sub_self]
    rfl
  unfold idxL
  rw [e, opt_some]
theorem canB_wall {ws : List (Int × Int)} {cs : List Cp} {ss : List Int} {g : Int} {v : Nat} (h : atW ws ss g v = true) : canB ws cs ss v g = false := by
  unfold canB
  unfold atW at h
  rw [h]
  rfl
theorem canB_nx {ws : List (Int × Int)} {cs : List Cp} {ss : List Int} {g : Int} {v : Nat} (h : atW ws ss g v = false) : canB ws cs ss v g = (nx cs ss g v).isNone := by
  unfold canB nx
  unfold atW at h
  rw [h, find_all]
  rfl
def chD (l : List Nat) : List D := (nI l).map D.int
theorem chD_app (l : List Nat) (v : Nat) : chD (l ++ [v]) = chD l ++ [D.int v] := by
  unfold chD nI
  rw [List.map_append, List.map_append]
  rfl
theorem imms_ch (l : List Nat) : D.imms (chD l) = true := imms_int _
theorem ch_lt {ws : List (Int × Int)} {cs : List Cp} {ss : List Int} {g : Int} (V : VY ws cs) {v : Nat} {k : Lk} (h : nx cs ss g v = some k) : k.o < ws.length := V.lt k (List.mem_of_find?_eq_some h)
def rsD (l : List Nat) (b : Bool) : D := .tup [.tup (chD l), .str (if b = true then "wall" else "free")]
def rT : DL.Env → DL.W Bool := (dNotT (dB (dCall F_can_step (dCons (dV 0) (dCons (dV 5) (dCons (dV 1) (dCons (dOp idxD (dV 6) (dUn negD (dC (.int 1)))) (dCons (dV 4) dNil))))))))
def rG : DL.Env → DL.W (Fl × DL.Env) := (sSeq (sIf (dB (dCall F_is_at_wall (dCons (dV 0) (dCons (dV 1) (dCons (dOp idxD (dV 6) (dUn negD (dC (.int 1)))) (dCons (dV 4) dNil)))))) (sRet (dTup (dCons (dCB (a1 tupleD) (dCons (dV 6) dNil)) (dCons (dC (.str "wall")) dNil)))) sNil) (sApp 6 (dCall F_holder_of (dCons (dV 5) (dCons (dV 1) (dCons (dOp idxD (dV 6) (dUn negD (dC (.int 1)))) (dCons (dV 4) dNil)))))))
def rE (ws : List (Int × Int)) (cs : List Cp) (ss : List Int) (v : Nat) (g : Int) (L : List Nat) : DL.Env := [some (yD ws cs), some (sD ss), some (.tup [.int v, .int g]), some (.int v), some (.int g), some (.lst (lkV ws.length cs)), some (.lst (chD L))]
theorem n_chain {ws : List (Int × Int)} {cs : List Cp} {ss : List Int} {g : Int} {v0 : Nat} (V : VY ws cs) (S : VS ws cs ss) : ∀ {v : Nat} {l : List Nat} {b : Bool}, Ch ws cs ss g v l b → v < ws.length → ∀ pre : List Nat, pre.length + l.length ≤ 1001 →
    Ens (whN rT rG l.length (rE ws cs ss v0 g (pre ++ [v]))) fun r => (b = true ∧ ∃ δ', r = (.rt (.tup [.tup (chD (pre ++ l)), .str "wall"]), δ')) ∨ (b = false ∧ r = (.nx, rE ws cs ss v0 g (pre ++ l))) := by
  intro v l b h
  induction h with
  | @wall v hw =>
    intro hv pre hl
    show Ens (DL.bd (rT _) fun b => if b = true then DL.bd (rG _) (again (whN rT rG 0)) else DL.pu (.nx, _)) _
    unfold rT rG rE
    have hw' : decide (ss.getD v 0 = wallOf (ws.getD v (0, 0)) g) = true := hw
    simp (decide := true) (implicitDefEqProofs := false) only [bodyD, env0, sSeq, thenF, sIf, sRet, sRetN, sRetV, sSet, sSetN, sExpr, sNil, sAsg, sPar, resD, dV, dC, dOp, dUn, dNot, dAnd, dOr, dNotT, dAndT, dOrT, dB, dIf, dChain, dTup, dCons, dNil, dLst, dLstB, dCB, dCall, dCallK, dImm, dYes, a1, a2, bTup, bLst, bCons, bNil, bName, fSeq, seqOf, fRng1, fRng2, fEn, fZip, zip2, one1, ints1, ints2, asB, asI, negD, addD, subD, modD, ltD, gtD, geD, leD, isND, isnND, intOp, intOpC, lenD_lst, lenD_tup, lenD_frz, len_sD, tupleD, listD, absD, max2D, min2D, allD, isiD, tyN, isiT_tt, isiT_ii, isiT_ib, idxD, lsA, gw, gt, opt_some, opt_none, bd_pu, bd_fl, bd_bd, chk_true, chk_tt, D.imm, D.imms, D.isN, List.map_cons, List.map_nil, List.length_cons, List.length_nil, List.set_cons_zero, List.set_cons_succ, List.getElem?_cons_zero, List.getElem?_cons_succ, List.getElem?_nil, Option.bind_some, Option.bind_none, Option.join_some, Option.join_none, Option.map_some, Bool.and_true, Bool.true_and, Bool.and_false, Bool.false_and, Bool.not_true, Bool.not_false, Bool.false_eq_true, Bool.true_eq_false, if_true, if_false, ite_true, ite_false, List.cons_append, List.nil_append, List.append_nil, Nat.zero_add, Nat.reduceAdd, Nat.reduceSub, Nat.reduceLeDiff, Int.reduceNeg, List.replicate_succ, List.replicate_zero, true_and, and_true, List.length_map, and_pu, or_pu, tand_pu, tor_pu, idx_0, idx_1, if_tt, if_ff, dSl, dNo, dSo, slD, imm_cD, imm_wD, intsD, sAppIx, sExt, sApp, lsD, sFor, seq_sD, eq_str, ne_str, eq_int, ne_int, nc0, nc1, nc2, nc3, nc4, decide_true, decide_false, ne_eq, not_true_eq_false, Int.reduceEq, not_false_eq_true, Bool.or_false, Bool.or_true, Bool.false_or, Bool.true_or, List.all_cons, List.all_nil, id_eq, chD_app, idx_last, e_can_step V S.len hv, canB_wall hw, e_is_at_wall S.len hv, hw']
    rw [← chD_app]
    simp (decide := true) (implicitDefEqProofs := false) only [bodyD, env0, sSeq, thenF, sIf, sRet, sRetN, sRetV, sSet, sSetN, sExpr, sNil, sAsg, sPar, resD, dV, dC, dOp, dUn, dNot, dAnd, dOr, dNotT, dAndT, dOrT, dB, dIf, dChain, dTup, dCons, dNil, dLst, dLstB, dCB, dCall, dCallK, dImm, dYes, a1, a2, bTup, bLst, bCons, bNil, bName, fSeq, seqOf, fRng1, fRng2, fEn, fZip, zip2, one1, ints1, ints2, asB, asI, negD, addD, subD, modD, ltD, gtD, geD, leD, isND, isnND, intOp, intOpC, lenD_lst, lenD_tup, lenD_frz, len_sD, tupleD, listD, absD, max2D, min2D, allD, isiD, tyN, isiT_tt, isiT_ii, isiT_ib, idxD, lsA, gw, gt, opt_some, opt_none, bd_pu, bd_fl, bd_bd, chk_true, chk_tt, D.imm, D.imms, D.isN, List.map_cons, List.map_nil, List.length_cons, List.length_nil, List.set_cons_zero, List.set_cons_succ, List.getElem?_cons_zero, List.getElem?_cons_succ, List.getElem?_nil, Option.bind_some, Option.bind_none, Option.join_some, Option.join_none, Option.map_some, Bool.and_true, Bool.true_and, Bool.and_false, Bool.false_and, Bool.not_true, Bool.not_false, Bool.false_eq_true, Bool.true_eq_false, if_true, if_false, ite_true, ite_false, List.cons_append, List.nil_append, List.append_nil, Nat.zero_add, Nat.reduceAdd, Nat.reduceSub, Nat.reduceLeDiff, Int.reduceNeg, List.replicate_succ, List.replicate_zero, true_and, and_true, List.length_map, and_pu, or_pu, tand_pu, tor_pu, idx_0, idx_1, if_tt, if_ff, dSl, dNo, dSo, slD, imm_cD, imm_wD, intsD, sAppIx, sExt, sApp, lsD, sFor, seq_sD, eq_str, ne_str, eq_int, ne_int, nc0, nc1, nc2, nc3, nc4, decide_true, decide_false, ne_eq, not_true_eq_false, Int.reduceEq, not_false_eq_true, Bool.or_false, Bool.or_true, Bool.false_or, Bool.true_or, List.all_cons, List.all_nil, id_eq, imms_ch, DL.again]
    exact Ens.pu (.inl ⟨_, rfl⟩)
  | @free v hw hn =>
    intro hv pre hl
    show Ens (DL.bd (rT _) fun b => if b = true then DL.bd (rG _) (again (whN rT rG 0)) else DL.pu (.nx, _)) _
    have hcan : canB ws cs ss v g = true := by rw [canB_nx hw, hn]; rfl
    unfold rT rE
    simp (decide := true) (implicitDefEqProofs := false) only [bodyD, env0, sSeq, thenF, sIf, sRet, sRetN, sRetV, sSet, sSetN, sExpr, sNil, sAsg, sPar, resD, dV, dC, dOp, dUn, dNot, dAnd, dOr, dNotT, dAndT, dOrT, dB, dIf, dChain, dTup, dCons, dNil, dLst, dLstB, dCB, dCall, dCallK, dImm, dYes, a1, a2, bTup, bLst, bCons, bNil, bName, fSeq, seqOf, fRng1, fRng2, fEn, fZip, zip2, one1, ints1, ints2, asB, asI, negD, addD, subD, modD, ltD, gtD, geD, leD, isND, isnND, intOp, intOpC, lenD_lst, lenD_tup, lenD_frz, len_sD, tupleD, listD, absD, max2D, min2D, allD, isiD, tyN, isiT_tt, isiT_ii, isiT_ib, idxD, lsA, gw, gt, opt_some, opt_none, bd_pu, bd_fl, bd_bd, chk_true, chk_tt, D.imm, D.imms, D.isN, List.map_cons, List.map_nil, List.length_cons, List.length_nil, List.set_cons_zero, List.set_cons_succ, List.getElem?_cons_zero, List.getElem?_cons_succ, List.getElem?_nil, Option.bind_some, Option.bind_none, Option.join_some, Option.join_none, Option.map_some, Bool.and_true, Bool.true_and, Bool.and_false, Bool.false_and, Bool.not_true, Bool.not_false, Bool.false_eq_true, Bool.true_eq_false, if_true, if_false, ite_true, ite_false, List.cons_append, List.nil_append, List.append_nil, Nat.zero_add, Nat.reduceAdd, Nat.reduceSub, Nat.reduceLeDiff, Int.reduceNeg, List.replicate_succ, List.replicate_zero, true_and, and_true, List.length_map, and_pu, or_pu, tand_pu, tor_pu, idx_0, idx_1, if_tt, if_ff, dSl, dNo, dSo, slD, imm_cD, imm_wD, intsD, sAppIx, sExt, sApp, lsD, sFor, seq_sD, eq_str, ne_str, eq_int, ne_int, nc0, nc1, nc2, nc3, nc4, decide_true, decide_false, ne_eq, not_true_eq_false, Int.reduceEq, not_false_eq_true, Bool.or_false, Bool.or_true, Bool.false_or, Bool.true_or, List.all_cons, List.all_nil, id_eq, chD_app, idx_last, e_can_step V S.len hv, hcan]
    exact Ens.pu (.inr rfl)
  | @step v k l b hw hn h ih =>
    intro hv pre hl
    have hcan : canB ws cs ss v g = false := by rw [canB_nx hw, hn]; rfl
    have hk := ch_lt V hn
    have ih' := ih hk (pre ++ [v]) (by simp at hl ⊢; omega)
    show Ens (DL.bd (rT _) fun b => if b = true then DL.bd (rG _) (again (whN rT rG l.length)) else DL.pu (.nx, _)) _
    have hw' : decide (ss.getD v 0 = wallOf (ws.getD v (0, 0)) g) = false := hw
    have eh : F_holder_of [.lst (lkV ws.length cs), sD ss, .int v, .int g] = pu (.int k.o) := by
      rw [e_holder_of V S.len hv]
      show pu (holdD (nx cs ss g v)) = _
      rw [hn]
      rfl
    have lc : (chD pre ++ [D.int (v : Nat)]).length < sizeLine := by
      rw [← chD_app]
      unfold chD nI
      rw [List.length_map, List.length_map]
      simp at hl
      exact Nat.lt_of_le_of_lt (show _ ≤ 2000 by simp; omega) (by decide)
    have ic : D.imms (chD pre ++ [D.int (v : Nat)]) = true := by rw [← chD_app]; exact imms_ch _
    have e1 : rT (rE ws cs ss v0 g (pre ++ [v])) = pu true := by
      unfold rT rE
      simp (decide := true) (implicitDefEqProofs := false) only [bodyD, env0, sSeq, thenF, sIf, sRet, sRetN, sRetV, sSet, sSetN, sExpr, sNil, sAsg, sPar, resD, dV, dC, dOp, dUn, dNot, dAnd, dOr, dNotT, dAndT, dOrT, dB, dIf, dChain, dTup, dCons, dNil, dLst, dLstB, dCB, dCall, dCallK, dImm, dYes, a1, a2, bTup, bLst, bCons, bNil, bName, fSeq, seqOf, fRng1, fRng2, fEn, fZip, zip2, one1, ints1, ints2, asB, asI, negD, addD, subD, modD, ltD, gtD, geD, leD, isND, isnND, intOp, intOpC, lenD_lst, lenD_tup, lenD_frz, len_sD, tupleD, listD, absD, max2D, min2D, allD, isiD, tyN, isiT_tt, isiT_ii, isiT_ib, idxD, lsA, gw, gt, opt_some, opt_none, bd_pu, bd_fl, bd_bd, chk_true, chk_tt, D.imm, D.imms, D.isN, List.map_cons, List.map_nil, List.length_cons, List.length_nil, List.set_cons_zero, List.set_cons_succ, List.getElem?_cons_zero, List.getElem?_cons_succ, List.getElem?_nil, Option.bind_some, Option.bind_none, Option.join_some, Option.join_none, Option.map_some, Bool.and_true, Bool.true_and, Bool.and_false, Bool.false_and, Bool.not_true, Bool.not_false, Bool.false_eq_true, Bool.true_eq_false, if_true, if_false, ite_true, ite_false, List.cons_append, List.nil_append, List.append_nil, Nat.zero_add, Nat.reduceAdd, Nat.reduceSub, Nat.reduceLeDiff, Int.reduceNeg, List.replicate_succ, List.replicate_zero, true_and, and_true, List.length_map, and_pu, or_pu, tand_pu, tor_pu, idx_0, idx_1, if_tt, if_ff, dSl, dNo, dSo, slD, imm_cD, imm_wD, intsD, sAppIx, sExt, sApp, lsD, sFor, seq_sD, eq_str, ne_str, eq_int, ne_int, nc0, nc1, nc2, nc3, nc4, decide_true, decide_false, ne_eq, not_true_eq_false, Int.reduceEq, not_false_eq_true, Bool.or_false, Bool.or_true, Bool.false_or, Bool.true_or, List.all_cons, List.all_nil, id_eq, chD_app, idx_last, e_can_step V S.len hv, hcan]
    have e2 : rG (rE ws cs ss v0 g (pre ++ [v])) = pu (.nx, rE ws cs ss v0 g (pre ++ [v] ++ [k.o])) := by
      unfold rG rE
      simp (decide := true) (implicitDefEqProofs := false) only [bodyD, env0, sSeq, thenF, sIf, sRet, sRetN, sRetV, sSet, sSetN, sExpr, sNil, sAsg, sPar, resD, dV, dC, dOp, dUn, dNot, dAnd, dOr, dNotT, dAndT, dOrT, dB, dIf, dChain, dTup, dCons, dNil, dLst, dLstB, dCB, dCall, dCallK, dImm, dYes, a1, a2, bTup, bLst, bCons, bNil, bName, fSeq, seqOf, fRng1, fRng2, fEn, fZip, zip2, one1, ints1, ints2, asB, asI, negD, addD, subD, modD, ltD, gtD, geD, leD, isND, isnND, intOp, intOpC, lenD_lst, lenD_tup, lenD_frz, len_sD, tupleD, listD, absD, max2D, min2D, allD, isiD, tyN, isiT_tt, isiT_ii, isiT_ib, idxD, lsA, gw, gt, opt_some, opt_none, bd_pu, bd_fl, bd_bd, chk_true, chk_tt, D.imm, D.imms, D.isN, List.map_cons, List.map_nil, List.length_cons, List.length_nil, List.set_cons_zero, List.set_cons_succ, List.getElem?_cons_zero, List.getElem?_cons_succ, List.getElem?_nil, Option.bind_some, Option.bind_none, Option.join_some, Option.join_none, Option.map_some, Bool.and_true, Bool.true_and, Bool.and_false, Bool.false_and, Bool.not_true, Bool.not_false, Bool.false_eq_true, Bool.true_eq_false, if_true, if_false, ite_true, ite_false, List.cons_append, List.nil_append, List.append_nil, Nat.zero_add, Nat.reduceAdd, Nat.reduceSub, Nat.reduceLeDiff, Int.reduceNeg, List.replicate_succ, List.replicate_zero, true_and, and_true, List.length_map, and_pu, or_pu, tand_pu, tor_pu, idx_0, idx_1, if_tt, if_ff, dSl, dNo, dSo, slD, imm_cD, imm_wD, intsD, sAppIx, sExt, sApp, lsD, sFor, seq_sD, eq_str, ne_str, eq_int, ne_int, nc0, nc1, nc2, nc3, nc4, decide_true, decide_false, ne_eq, not_true_eq_false, Int.reduceEq, not_false_eq_true, Bool.or_false, Bool.or_true, Bool.false_or, Bool.true_or, List.all_cons, List.all_nil, id_eq, chD_app, idx_last, e_is_at_wall S.len hv, hw', eh, chk_pos lc, ic, lc]
    rw [e1, bd_pu, if_pos rfl, e2, bd_pu]
    have e3 : pre ++ v :: l = pre ++ [v] ++ l := by simp
    rw [e3]
    exact ih'
theorem n_reason {ws : List (Int × Int)} {cs : List Cp} {ss : List Int} {g : Int} {v : Nat} (V : VY ws cs) (S : VS ws cs ss) (hv : v < ws.length) (hg : g = -1 ∨ g = 1) :
    Ens (F_reason [yD ws cs, sD ss, .tup [.int v, .int g]]) fun d => (canB ws cs ss v g = true ∧ d = .non) ∨ (canB ws cs ss v g = false ∧ ∃ l b, Ch ws cs ss g v l b ∧ l.length ≤ cs.length + 1 ∧ d = rsD l b) := by
  unfold F_reason g_reason
  simp (decide := true) (implicitDefEqProofs := false) only [bodyD, env0, sSeq, thenF, sIf, sRet, sRetN, sRetV, sSet, sSetN, sExpr, sNil, sAsg, sPar, resD, dV, dC, dOp, dUn, dNot, dAnd, dOr, dNotT, dAndT, dOrT, dB, dIf, dChain, dTup, dCons, dNil, dLst, dLstB, dCB, dCall, dCallK, dImm, dYes, a1, a2, bTup, bLst, bCons, bNil, bName, fSeq, seqOf, fRng1, fRng2, fEn, fZip, zip2, one1, ints1, ints2, asB, asI, negD, addD, subD, modD, ltD, gtD, geD, leD, isND, isnND, intOp, intOpC, lenD_lst, lenD_tup, lenD_frz, len_sD, tupleD, listD, absD, max2D, min2D, allD, isiD, tyN, isiT_tt, isiT_ii, isiT_ib, idxD, lsA, gw, gt, opt_some, opt_none, bd_pu, bd_fl, bd_bd, chk_true, chk_tt, D.imm, D.imms, D.isN, List.map_cons, List.map_nil, List.length_cons, List.length_nil, List.set_cons_zero, List.set_cons_succ, List.getElem?_cons_zero, List.getElem?_cons_succ, List.getElem?_nil, Option.bind_some, Option.bind_none, Option.join_some, Option.join_none, Option.map_some, Bool.and_true, Bool.true_and, Bool.and_false, Bool.false_and, Bool.not_true, Bool.not_false, Bool.false_eq_true, Bool.true_eq_false, if_true, if_false, ite_true, ite_false, List.cons_append, List.nil_append, List.append_nil, Nat.zero_add, Nat.reduceAdd, Nat.reduceSub, Nat.reduceLeDiff, Int.reduceNeg, List.replicate_succ, List.replicate_zero, true_and, and_true, List.length_map, and_pu, or_pu, tand_pu, tor_pu, idx_0, idx_1, if_tt, if_ff, dSl, dNo, dSo, slD, imm_cD, imm_wD, intsD, sAppIx, sExt, sApp, lsD, sFor, seq_sD, eq_str, ne_str, eq_int, ne_int, nc0, nc1, nc2, nc3, nc4, decide_true, decide_false, ne_eq, not_true_eq_false, Int.reduceEq, not_false_eq_true, Bool.or_false, Bool.or_true, Bool.false_or, Bool.true_or, List.all_cons, List.all_nil, id_eq, e_validate_arrangement V S, e_validate_step hv hg, e_own_links V, e_can_step V S.len hv]
  cases hc : canB ws cs ss v g with
  | true =>
    simp (decide := true) (implicitDefEqProofs := false) only [bodyD, env0, sSeq, thenF, sIf, sRet, sRetN, sRetV, sSet, sSetN, sExpr, sNil, sAsg, sPar, resD, dV, dC, dOp, dUn, dNot, dAnd, dOr, dNotT, dAndT, dOrT, dB, dIf, dChain, dTup, dCons, dNil, dLst, dLstB, dCB, dCall, dCallK, dImm, dYes, a1, a2, bTup, bLst, bCons, bNil, bName, fSeq, seqOf, fRng1, fRng2, fEn, fZip, zip2, one1, ints1, ints2, asB, asI, negD, addD, subD, modD, ltD, gtD, geD, leD, isND, isnND, intOp, intOpC, lenD_lst, lenD_tup, lenD_frz, len_sD, tupleD, listD, absD, max2D, min2D, allD, isiD, tyN, isiT_tt, isiT_ii, isiT_ib, idxD, lsA, gw, gt, opt_some, opt_none, bd_pu, bd_fl, bd_bd, chk_true, chk_tt, D.imm, D.imms, D.isN, List.map_cons, List.map_nil, List.length_cons, List.length_nil, List.set_cons_zero, List.set_cons_succ, List.getElem?_cons_zero, List.getElem?_cons_succ, List.getElem?_nil, Option.bind_some, Option.bind_none, Option.join_some, Option.join_none, Option.map_some, Bool.and_true, Bool.true_and, Bool.and_false, Bool.false_and, Bool.not_true, Bool.not_false, Bool.false_eq_true, Bool.true_eq_false, if_true, if_false, ite_true, ite_false, List.cons_append, List.nil_append, List.append_nil, Nat.zero_add, Nat.reduceAdd, Nat.reduceSub, Nat.reduceLeDiff, Int.reduceNeg, List.replicate_succ, List.replicate_zero, true_and, and_true, List.length_map, and_pu, or_pu, tand_pu, tor_pu, idx_0, idx_1, if_tt, if_ff, dSl, dNo, dSo, slD, imm_cD, imm_wD, intsD, sAppIx, sExt, sApp, lsD, sFor, seq_sD, eq_str, ne_str, eq_int, ne_int, nc0, nc1, nc2, nc3, nc4, decide_true, decide_false, ne_eq, not_true_eq_false, Int.reduceEq, not_false_eq_true, Bool.or_false, Bool.or_true, Bool.false_or, Bool.true_or, List.all_cons, List.all_nil, id_eq]
    exact Ens.pu (.inl rfl)
  | false =>
    simp (decide := true) (implicitDefEqProofs := false) only [bodyD, env0, sSeq, thenF, sIf, sRet, sRetN, sRetV, sSet, sSetN, sExpr, sNil, sAsg, sPar, resD, dV, dC, dOp, dUn, dNot, dAnd, dOr, dNotT, dAndT, dOrT, dB, dIf, dChain, dTup, dCons, dNil, dLst, dLstB, dCB, dCall, dCallK, dImm, dYes, a1, a2, bTup, bLst, bCons, bNil, bName, fSeq, seqOf, fRng1, fRng2, fEn, fZip, zip2, one1, ints1, ints2, asB, asI, negD, addD, subD, modD, ltD, gtD, geD, leD, isND, isnND, intOp, intOpC, lenD_lst, lenD_tup, lenD_frz, len_sD, tupleD, listD, absD, max2D, min2D, allD, isiD, tyN, isiT_tt, isiT_ii, isiT_ib, idxD, lsA, gw, gt, opt_some, opt_none, bd_pu, bd_fl, bd_bd, chk_true, chk_tt, D.imm, D.imms, D.isN, List.map_cons, List.map_nil, List.length_cons, List.length_nil, List.set_cons_zero, List.set_cons_succ, List.getElem?_cons_zero, List.getElem?_cons_succ, List.getElem?_nil, Option.bind_some, Option.bind_none, Option.join_some, Option.join_none, Option.map_some, Bool.and_true, Bool.true_and, Bool.and_false, Bool.false_and, Bool.not_true, Bool.not_false, Bool.false_eq_true, Bool.true_eq_false, if_true, if_false, ite_true, ite_false, List.cons_append, List.nil_append, List.append_nil, Nat.zero_add, Nat.reduceAdd, Nat.reduceSub, Nat.reduceLeDiff, Int.reduceNeg, List.replicate_succ, List.replicate_zero, true_and, and_true, List.length_map, and_pu, or_pu, tand_pu, tor_pu, idx_0, idx_1, if_tt, if_ff, dSl, dNo, dSo, slD, imm_cD, imm_wD, intsD, sAppIx, sExt, sApp, lsD, sFor, seq_sD, eq_str, ne_str, eq_int, ne_int, nc0, nc1, nc2, nc3, nc4, decide_true, decide_false, ne_eq, not_true_eq_false, Int.reduceEq, not_false_eq_true, Bool.or_false, Bool.or_true, Bool.false_or, Bool.true_or, List.all_cons, List.all_nil, id_eq]
    obtain ⟨l, b, hch, hl⟩ := ch_ex V S hg v
    have few := V.few
    have n40 := V.n40
    have hn := n_chain (v0 := v) V S hch hv [] (by simp; omega)
    refine Ens.bd (P := fun r => (b = true ∧ ∃ δ', r = (.rt (.tup [.tup (chD l), .str "wall"]), δ')) ∨ (b = false ∧ r = (.nx, rE ws cs ss v g l))) (fun Q X q => ⟨l.length, hn Q X q⟩) ?_
    rintro r (⟨rfl, δ', rfl⟩ | ⟨rfl, rfl⟩)
    · simp (decide := true) (implicitDefEqProofs := false) only [bodyD, env0, sSeq, thenF, sIf, sRet, sRetN, sRetV, sSet, sSetN, sExpr, sNil, sAsg, sPar, resD, dV, dC, dOp, dUn, dNot, dAnd, dOr, dNotT, dAndT, dOrT, dB, dIf, dChain, dTup, dCons, dNil, dLst, dLstB, dCB, dCall, dCallK, dImm, dYes, a1, a2, bTup, bLst, bCons, bNil, bName, fSeq, seqOf, fRng1, fRng2, fEn, fZip, zip2, one1, ints1, ints2, asB, asI, negD, addD, subD, modD, ltD, gtD, geD, leD, isND, isnND, intOp, intOpC, lenD_lst, lenD_tup, lenD_frz, len_sD, tupleD, listD, absD, max2D, min2D, allD, isiD, tyN, isiT_tt, isiT_ii, isiT_ib, idxD, lsA, gw, gt, opt_some, opt_none, bd_pu, bd_fl, bd_bd, chk_true, chk_tt, D.imm, D.imms, D.isN, List.map_cons, List.map_nil, List.length_cons, List.length_nil, List.set_cons_zero, List.set_cons_succ, List.getElem?_cons_zero, List.getElem?_cons_succ, List.getElem?_nil, Option.bind_some, Option.bind_none, Option.join_some, Option.join_none, Option.map_some, Bool.and_true, Bool.true_and, Bool.and_false, Bool.false_and, Bool.not_true, Bool.not_false, Bool.false_eq_true, Bool.true_eq_false, if_true, if_false, ite_true, ite_false, List.cons_append, List.nil_append, List.append_nil, Nat.zero_add, Nat.reduceAdd, Nat.reduceSub, Nat.reduceLeDiff, Int.reduceNeg, List.replicate_succ, List.replicate_zero, true_and, and_true, List.length_map, and_pu, or_pu, tand_pu, tor_pu, idx_0, idx_1, if_tt, if_ff, dSl, dNo, dSo, slD, imm_cD, imm_wD, intsD, sAppIx, sExt, sApp, lsD, sFor, seq_sD, eq_str, ne_str, eq_int, ne_int, nc0, nc1, nc2, nc3, nc4, decide_true, decide_false, ne_eq, not_true_eq_false, Int.reduceEq, not_false_eq_true, Bool.or_false, Bool.or_true, Bool.false_or, Bool.true_or, List.all_cons, List.all_nil, id_eq]
      exact Ens.pu (.inr ⟨l, true, hch, hl, rfl⟩)
    · unfold rE
      simp (decide := true) (implicitDefEqProofs := false) only [bodyD, env0, sSeq, thenF, sIf, sRet, sRetN, sRetV, sSet, sSetN, sExpr, sNil, sAsg, sPar, resD, dV, dC, dOp, dUn, dNot, dAnd, dOr, dNotT, dAndT, dOrT, dB, dIf, dChain, dTup, dCons, dNil, dLst, dLstB, dCB, dCall, dCallK, dImm, dYes, a1, a2, bTup, bLst, bCons, bNil, bName, fSeq, seqOf, fRng1, fRng2, fEn, fZip, zip2, one1, ints1, ints2, asB, asI, negD, addD, subD, modD, ltD, gtD, geD, leD, isND, isnND, intOp, intOpC, lenD_lst, lenD_tup, lenD_frz, len_sD, tupleD, listD, absD, max2D, min2D, allD, isiD, tyN, isiT_tt, isiT_ii, isiT_ib, idxD, lsA, gw, gt, opt_some, opt_none, bd_pu, bd_fl, bd_bd, chk_true, chk_tt, D.imm, D.imms, D.isN, List.map_cons, List.map_nil, List.length_cons, List.length_nil, List.set_cons_zero, List.set_cons_succ, List.getElem?_cons_zero, List.getElem?_cons_succ, List.getElem?_nil, Option.bind_some, Option.bind_none, Option.join_some, Option.join_none, Option.map_some, Bool.and_true, Bool.true_and, Bool.and_false, Bool.false_and, Bool.not_true, Bool.not_false, Bool.false_eq_true, Bool.true_eq_false, if_true, if_false, ite_true, ite_false, List.cons_append, List.nil_append, List.append_nil, Nat.zero_add, Nat.reduceAdd, Nat.reduceSub, Nat.reduceLeDiff, Int.reduceNeg, List.replicate_succ, List.replicate_zero, true_and, and_true, List.length_map, and_pu, or_pu, tand_pu, tor_pu, idx_0, idx_1, if_tt, if_ff, dSl, dNo, dSo, slD, imm_cD, imm_wD, intsD, sAppIx, sExt, sApp, lsD, sFor, seq_sD, eq_str, ne_str, eq_int, ne_int, nc0, nc1, nc2, nc3, nc4, decide_true, decide_false, ne_eq, not_true_eq_false, Int.reduceEq, not_false_eq_true, Bool.or_false, Bool.or_true, Bool.false_or, Bool.true_or, List.all_cons, List.all_nil, id_eq, imms_ch]
      exact Ens.pu (.inr ⟨l, false, hch, hl, rfl⟩)
end CY
namespace CY
open PySem L2 DL DC
theorem Ch.det {ws : List (Int × Int)} {cs : List Cp} {ss : List Int} {g : Int} {v : Nat} {l : List Nat} {b : Bool} (h : Ch ws cs ss g v l b) : ∀ {l' : List Nat} {b' : Bool}, Ch ws cs ss g v l' b' → l = l' ∧ b = b' := by
  induction h with
  | wall hw =>
    intro l' b' h'
    cases h' with
    | wall _ => exact ⟨rfl, rfl⟩
    | free h1 _ => rw [hw] at h1; cases h1
    | step h1 _ _ => rw [hw] at h1; cases h1
  | free hw hn =>
    intro l' b' h'
    cases h' with
    | wall h1 => rw [hw] at h1; cases h1
    | free _ _ => exact ⟨rfl, rfl⟩
    | step _ h2 _ => rw [hn] at h2; cases h2
  | step hw hn _ ih =>
    intro l' b' h'
    cases h' with
    | wall h1 => rw [hw] at h1; cases h1
    | free _ h2 => rw [hn] at h2; cases h2
    | step _ h2 h3 =>
      rw [hn] at h2
      cases h2
      obtain ⟨e1, e2⟩ := ih h3
      exact ⟨by rw [e1], e2⟩
/-- the link of v by c -/
def lkOf (v : Nat) (c : Cp) : Lk := if c.i = v then ⟨c.j, c.lo, c.hi⟩ else ⟨c.i, -c.hi, -c.lo⟩
/-- c holds v back -/
def brk (ss : List Int) (v : Nat) (g : Int) (c : Cp) : Bool := (decide (c.i = v) || decide (c.j = v)) && !okL ss v g (lkOf v c)
theorem nx_find {ss : List Int} {g : Int} {v : Nat} : ∀ {cs : List Cp}, (∀ c ∈ cs, c.i < c.j) → nx cs ss g v = (cs.find? (brk ss v g)).map (lkOf v)
  | [], _ => rfl
  | c :: cs, h => by
    have ih := nx_find (ss := ss) (g := g) (v := v) (cs := cs) fun c hc => h c (List.mem_cons_of_mem _ hc)
    have hc := h c List.mem_cons_self
    unfold nx at ih ⊢
    by_cases h1 : c.i = v
    · have h2 : ¬ c.j = v := by omega
      have e : lks v (c :: cs) = ⟨c.j, c.lo, c.hi⟩ :: lks v cs := by simp [lks, h1, h2]
      have el : lkOf v c = ⟨c.j, c.lo, c.hi⟩ := if_pos h1
      rw [e]
      cases hb : okL ss v g ⟨c.j, c.lo, c.hi⟩ with
      | false =>
        rw [List.find?_cons_of_pos (by simp [hb]), List.find?_cons_of_pos (by simp [brk, h1, el, hb])]
        simp [el]
      | true =>
        rw [List.find?_cons_of_neg (by simp [hb]), List.find?_cons_of_neg (by simp [brk, el, hb])]
        exact ih
    · by_cases h2 : c.j = v
      · have e : lks v (c :: cs) = ⟨c.i, -c.hi, -c.lo⟩ :: lks v cs := by simp [lks, h1, h2]
        have el : lkOf v c = ⟨c.i, -c.hi, -c.lo⟩ := if_neg h1
        rw [e]
        cases hb : okL ss v g ⟨c.i, -c.hi, -c.lo⟩ with
        | false =>
          rw [List.find?_cons_of_pos (by simp [hb]), List.find?_cons_of_pos (by simp [brk, h2, el, hb])]
          simp [el]
        | true =>
          rw [List.find?_cons_of_neg (by simp [hb]), List.find?_cons_of_neg (by simp [brk, el, hb])]
          exact ih
      · have e : lks v (c :: cs) = lks v cs := by simp [lks, h1, h2]
        rw [e, List.find?_cons_of_neg (by simp [brk, h1, h2])]
        exact ih
/-- what the moved place breaks -/
theorem brk_moved {ws : List (Int × Int)} {cs : List Cp} {ss : List Int} {g : Int} {v : Nat} (V : VY ws cs) (S : VS ws cs ss) (hv : v < ws.length) {c : Cp} (hc : c ∈ cs) : cOk (mvd ss v g) c = !brk ss v g c := by
  have hv' : v < ss.length := by rw [S.len]; exact hv
  have gm : ∀ u, (mvd ss v g).getD u 0 = if u = v then ss.getD v 0 + g else ss.getD u 0 := fun u => getD_set hv'
  obtain ⟨c1, _⟩ := V.cok c hc
  obtain ⟨p1, p2⟩ := S.cpl c hc
  unfold cOk
  rw [gm, gm]
  by_cases h1 : c.i = v
  · have h2 : ¬ c.j = v := by omega
    rw [if_pos h1, if_neg h2]
    have el : lkOf v c = ⟨c.j, c.lo, c.hi⟩ := if_pos h1
    unfold brk
    rw [el, decide_eq_true h1]
    unfold okL
    rw [Bool.eq_iff_iff]
    simp
    omega
  · by_cases h2 : c.j = v
    · rw [if_neg h1, if_pos h2]
      have el : lkOf v c = ⟨c.i, -c.hi, -c.lo⟩ := if_neg h1
      unfold brk
      rw [el, decide_eq_true h2]
      unfold okL
      rw [Bool.eq_iff_iff]
      simp
      omega
    · rw [if_neg h1, if_neg h2]
      have e : brk ss v g c = false := by unfold brk; rw [decide_eq_false h1, decide_eq_false h2]; rfl
      rw [e]
      exact dand p1 p2
end CY
namespace CY
open PySem L2 DL DC
/-! ### yards with a coupling less, with walls farther apart -/
theorem VY.drop1 {ws : List (Int × Int)} {cs : List Cp} (V : VY ws cs) : VY ws (cs.drop 1) := by
  refine ⟨V.n1, V.n40, V.wok, fun c hc => V.cok c (List.mem_of_mem_drop hc), V.srt.sublist (List.drop_sublist _ _), fun k c hc => ?_, by rw [List.length_drop]; have := V.few; omega⟩
  rw [List.getElem?_drop] at hc
  obtain ⟨s, s1, s2⟩ := V.cut (1 + k) c hc
  refine ⟨s, s1, fun l d hd hl => ?_⟩
  rw [List.getElem?_drop] at hd
  exact s2 (1 + l) d hd (by omega)
theorem VS.drop1 {ws : List (Int × Int)} {cs : List Cp} {ss : List Int} (S : VS ws cs ss) : VS ws (cs.drop 1) ss := ⟨S.len, S.wal, fun c hc => S.cpl c (List.mem_of_mem_drop hc)⟩
/-- one place more to either side, within the greatest places -/
def wid (w : Int × Int) : Int × Int := ((if 0 - 1000000000 > w.1 - 1 then 0 - 1000000000 else w.1 - 1), (if 1000000000 < w.2 + 1 then 1000000000 else w.2 + 1))
theorem wid_le {w : Int × Int} (h : -1000000000 ≤ w.1 ∧ w.1 ≤ w.2 ∧ w.2 ≤ 1000000000) : -1000000000 ≤ (wid w).1 ∧ (wid w).1 ≤ w.1 ∧ w.2 ≤ (wid w).2 ∧ (wid w).2 ≤ 1000000000 := by
  unfold wid
  show -1000000000 ≤ (if 0 - 1000000000 > w.1 - 1 then 0 - 1000000000 else w.1 - 1) ∧ (if 0 - 1000000000 > w.1 - 1 then 0 - 1000000000 else w.1 - 1) ≤ w.1 ∧ w.2 ≤ (if 1000000000 < w.2 + 1 then 1000000000 else w.2 + 1) ∧ (if 1000000000 < w.2 + 1 then 1000000000 else w.2 + 1) ≤ 1000000000
  split <;> split <;> omega
theorem VY.wide {ws : List (Int × Int)} {cs : List Cp} (V : VY ws cs) : VY (ws.map wid) cs := by
  refine ⟨by rw [List.length_map]; exact V.n1, by rw [List.length_map]; exact V.n40, fun w hw => ?_, fun c hc => by rw [List.length_map]; exact V.cok c hc, V.srt, V.cut, by rw [List.length_map]; exact V.few⟩
  obtain ⟨u, hu, rfl⟩ := List.mem_map.mp hw
  have h := V.wok u hu
  have := wid_le h
  omega
theorem VS.wide {ws : List (Int × Int)} {cs : List Cp} {ss : List Int} (V : VY ws cs) (S : VS ws cs ss) : VS (ws.map wid) cs ss := by
  refine ⟨by rw [List.length_map]; exact S.len, fun v w hv => ?_, S.cpl⟩
  rw [List.getElem?_map] at hv
  cases e : ws[v]? with
  | none => rw [e] at hv; cases hv
  | some u =>
    rw [e] at hv
    cases hv
    have h1 := S.wal v u e
    have h2 := wid_le (V.wok u (List.mem_of_getElem? e))
    omega
end CY
namespace CY
open PySem L2 DL DC
/-! ### the farthest places, by rounds -/
/-- the nearer one, seen in the direction g -/
def bst (g a b : Int) : Int := if g > 0 then (if b < a then b else a) else (if b > a then b else a)
def bj (g : Int) (c : Cp) : Int := if g > 0 then c.hi else c.lo
def bi (g : Int) (c : Cp) : Int := if g > 0 then c.lo else c.hi
/-- one coupling made to hold, from both ends -/
def rel1 (g : Int) (F : List Int) (c : Cp) : List Int :=
  let F1 := F.set c.j (bst g (F.getD c.j 0) (F.getD c.i 0 + bj g c))
  F1.set c.i (bst g (F1.getD c.i 0) (F1.getD c.j 0 - bi g c))
def relR (g : Int) (cs : List Cp) (F : List Int) : List Int := cs.foldl (rel1 g) F
theorem rel1_len (g : Int) (F : List Int) (c : Cp) : (rel1 g F c).length = F.length := by unfold rel1; rw [List.length_set, List.length_set]
/-- no place lies farther than in F, seen in the direction g -/
def Below (g : Int) (A F : List Int) : Prop := A.length = F.length ∧ ∀ v, v < F.length → g * A.getD v 0 ≤ g * F.getD v 0
theorem bst_g {g a b : Int} (hg : g = -1 ∨ g = 1) : g * bst g a b ≤ g * a ∧ g * bst g a b ≤ g * b ∧ (g * bst g a b = g * a ∨ g * bst g a b = g * b) := by
  unfold bst
  rcases hg with rfl | rfl
  · rw [if_neg (by decide)]
    split <;> omega
  · rw [if_pos (by decide)]
    split <;> omega
theorem rel1_below {g : Int} (hg : g = -1 ∨ g = 1) {F : List Int} {c : Cp} (hi : c.i < F.length) (hj : c.j < F.length) : Below g (rel1 g F c) F := by
  refine ⟨rel1_len g F c, fun v hv => ?_⟩
  unfold rel1
  have b1 := bst_g (a := F.getD c.j 0) (b := F.getD c.i 0 + bj g c) hg
  have l1 : (F.set c.j (bst g (F.getD c.j 0) (F.getD c.i 0 + bj g c))).length = F.length := List.length_set
  show g * ((F.set c.j _).set c.i _).getD v 0 ≤ _
  rw [getD_set (by rw [l1]; exact hi)]
  have b2 := bst_g (a := (F.set c.j (bst g (F.getD c.j 0) (F.getD c.i 0 + bj g c))).getD c.i 0) (b := (F.set c.j (bst g (F.getD c.j 0) (F.getD c.i 0 + bj g c))).getD c.j 0 - bi g c) hg
  have s : ∀ u, g * (F.set c.j (bst g (F.getD c.j 0) (F.getD c.i 0 + bj g c))).getD u 0 ≤ g * F.getD u 0 := fun u => by
    rw [getD_set hj]
    split
    · rename_i e; rw [e]; exact b1.1
    · exact Int.le_refl _
  split
  · rename_i e
    rw [e]
    exact Int.le_trans b2.1 (s c.i)
  · exact s v
theorem rel1_get {g : Int} {F : List Int} {c : Cp} (hi : c.i < F.length) (hj : c.j < F.length) (hij : c.i ≠ c.j) (v : Nat) : (rel1 g F c).getD v 0 =
    if v = c.i then bst g (F.getD c.i 0) (bst g (F.getD c.j 0) (F.getD c.i 0 + bj g c) - bi g c) else if v = c.j then bst g (F.getD c.j 0) (F.getD c.i 0 + bj g c) else F.getD v 0 := by
  unfold rel1
  have l1 : (F.set c.j (bst g (F.getD c.j 0) (F.getD c.i 0 + bj g c))).length = F.length := List.length_set
  show ((F.set c.j _).set c.i _).getD v 0 = _
  rw [getD_set (by rw [l1]; exact hi), getD_set hj, getD_set hj, getD_set hj, if_neg hij, if_pos rfl]
/-- what is an arrangement stays below -/
theorem rel1_keeps {ws : List (Int × Int)} {cs : List Cp} {ss : List Int} {g : Int} (hg : g = -1 ∨ g = 1) (V : VY ws cs) (S : VS ws cs ss) {F : List Int} (hl : F.length = ws.length) (h : Below g ss F) {c : Cp} (hc : c ∈ cs) : Below g ss (rel1 g F c) := by
  obtain ⟨c1, c2, _⟩ := V.cok c hc
  obtain ⟨p1, p2⟩ := S.cpl c hc
  have hi : c.i < F.length := by omega
  have hj : c.j < F.length := by omega
  refine ⟨by rw [rel1_len]; exact h.1, fun v hv => ?_⟩
  rw [rel1_len] at hv
  rw [rel1_get hi hj (by omega)]
  have h1 := h.2 c.i hi
  have h2 := h.2 c.j hj
  have h3 := h.2 v hv
  have b1 := bst_g (a := F.getD c.j 0) (b := F.getD c.i 0 + bj g c) hg
  have b2 := bst_g (a := F.getD c.i 0) (b := bst g (F.getD c.j 0) (F.getD c.i 0 + bj g c) - bi g c) hg
  generalize bst g (F.getD c.i 0) (bst g (F.getD c.j 0) (F.getD c.i 0 + bj g c) - bi g c) = B2 at b2 ⊢
  generalize bst g (F.getD c.j 0) (F.getD c.i 0 + bj g c) = B1 at b1 b2 ⊢
  unfold bj bi at *
  rcases hg with rfl | rfl
  · simp only [show ¬ ((-1 : Int) > 0) by decide, if_false] at *
    split
    · rename_i e; subst e; omega
    · split
      · rename_i e; subst e; omega
      · exact h3
  · simp only [show ((1 : Int) > 0) by decide, if_true] at *
    split
    · rename_i e; subst e; omega
    · split
      · rename_i e; subst e; omega
      · exact h3
/-- after it c holds between what is and what was -/
theorem rel1_tight {g : Int} (hg : g = -1 ∨ g = 1) {F : List Int} {c : Cp} (hi : c.i < F.length) (hj : c.j < F.length) (hij : c.i ≠ c.j) :
    g * (rel1 g F c).getD c.j 0 ≤ g * (F.getD c.i 0 + bj g c) ∧ g * (rel1 g F c).getD c.i 0 ≤ g * (F.getD c.j 0 - bi g c) := by
  rw [rel1_get hi hj hij, rel1_get hi hj hij, if_neg (fun z => hij z.symm), if_pos rfl, if_pos rfl]
  have b1 := bst_g (a := F.getD c.j 0) (b := F.getD c.i 0 + bj g c) hg
  have b2 := bst_g (a := F.getD c.i 0) (b := bst g (F.getD c.j 0) (F.getD c.i 0 + bj g c) - bi g c) hg
  refine ⟨b1.2.1, Int.le_trans b2.2.1 ?_⟩
  rcases hg with rfl | rfl <;> omega
/-- a round: nothing goes farther, each coupling holds between what is and what was -/
theorem relR_below {g : Int} (hg : g = -1 ∨ g = 1) : ∀ (cs : List Cp) {F : List Int}, (∀ c ∈ cs, c.i < F.length ∧ c.j < F.length) → Below g (relR g cs F) F
  | [], F, _ => ⟨rfl, fun v _ => Int.le_refl _⟩
  | c :: cs, F, h => by
    obtain ⟨hi, hj⟩ := h c List.mem_cons_self
    have b1 := rel1_below hg hi hj
    have b2 := relR_below hg cs (F := rel1 g F c) fun d hd => by rw [rel1_len]; exact h d (List.mem_cons_of_mem _ hd)
    refine ⟨b2.1.trans b1.1, fun v hv => Int.le_trans (b2.2 v (by rw [rel1_len]; exact hv)) (b1.2 v hv)⟩
theorem relR_tight {g : Int} (hg : g = -1 ∨ g = 1) : ∀ (cs : List Cp) {F : List Int}, (∀ c ∈ cs, c.i < F.length ∧ c.j < F.length ∧ c.i ≠ c.j) → ∀ c ∈ cs, g * (relR g cs F).getD c.j 0 ≤ g * (F.getD c.i 0 + bj g c) ∧ g * (relR g cs F).getD c.i 0 ≤ g * (F.getD c.j 0 - bi g c)
  | [], _, _, _, hc => by cases hc
  | d :: cs, F, h, c, hc => by
    obtain ⟨hi, hj, hij⟩ := h d List.mem_cons_self
    have hl : ∀ e ∈ cs, e.i < (rel1 g F d).length ∧ e.j < (rel1 g F d).length ∧ e.i ≠ e.j := fun e he => by rw [rel1_len]; exact h e (List.mem_cons_of_mem _ he)
    rcases List.mem_cons.mp hc with e | hc'
    · subst e
      have t := rel1_tight hg hi hj hij
      have b := relR_below hg cs (F := rel1 g F c) fun e he => ⟨(hl e he).1, (hl e he).2.1⟩
      exact ⟨Int.le_trans (b.2 c.j (by rw [rel1_len]; exact hj)) t.1, Int.le_trans (b.2 c.i (by rw [rel1_len]; exact hi)) t.2⟩
    · have t := relR_tight hg cs hl c hc'
      have b := rel1_below hg (F := F) hi hj
      obtain ⟨ci, cj, _⟩ := h c hc
      have bi' := b.2 c.i ci
      have bj' := b.2 c.j cj
      refine ⟨Int.le_trans t.1 ?_, Int.le_trans t.2 ?_⟩
      · rw [Int.mul_add, Int.mul_add]; omega
      · rw [Int.mul_sub, Int.mul_sub]; omega
theorem relR_keeps {ws : List (Int × Int)} {cs : List Cp} {ss : List Int} {g : Int} (hg : g = -1 ∨ g = 1) (V : VY ws cs) (S : VS ws cs ss) : ∀ (l : List Cp) {F : List Int}, F.length = ws.length → (∀ c ∈ l, c ∈ cs) → Below g ss F → Below g ss (relR g l F)
  | [], _, _, _, h => h
  | c :: l, F, hl, hc, h => relR_keeps hg V S l (F := rel1 g F c) (by rw [rel1_len]; exact hl) (fun d hd => hc d (List.mem_cons_of_mem _ hd)) (rel1_keeps hg V S hl h (hc c List.mem_cons_self))
end CY
namespace CY
open PySem L2 DL DC
/-- n rounds -/
def rds (g : Int) (cs : List Cp) (F : List Int) : Nat → List Int
  | 0 => F
  | n + 1 => relR g cs (rds g cs F n)
theorem relR_len (g : Int) : ∀ (cs : List Cp) (F : List Int), (relR g cs F).length = F.length
  | [], _ => rfl
  | c :: cs, F => (relR_len g cs (rel1 g F c)).trans (rel1_len g F c)
theorem rds_len (g : Int) (cs : List Cp) (F : List Int) : ∀ n, (rds g cs F n).length = F.length
  | 0 => rfl
  | n + 1 => (relR_len g cs _).trans (rds_len g cs F n)
theorem rds_keeps {ws : List (Int × Int)} {cs : List Cp} {ss F : List Int} {g : Int} (hg : g = -1 ∨ g = 1) (V : VY ws cs) (S : VS ws cs ss) (hl : F.length = ws.length) (h : Below g ss F) : ∀ n, Below g ss (rds g cs F n)
  | 0 => h
  | n + 1 => relR_keeps hg V S cs (by rw [rds_len]; exact hl) (fun _ q => q) (rds_keeps hg V S hl h n)
/-- where a chain ends at a wall, its first wagon is not below the farthest place -/
theorem ch_far {ws : List (Int × Int)} {cs : List Cp} {ss F : List Int} {g : Int} (hg : g = -1 ∨ g = 1) (V : VY ws cs) (S : VS ws cs ss) (hl : F.length = ws.length) (hF : ∀ v, v < ws.length → F.getD v 0 = wallOf (ws.getD v (0, 0)) g) {v : Nat} {l : List Nat} {b : Bool} (h : Ch ws cs ss g v l b) :
    b = true → v < ws.length → ∀ n, l.length ≤ n + 1 → g * (rds g cs F n).getD v 0 ≤ g * ss.getD v 0 := by
  have cok : ∀ {n : Nat}, ∀ c ∈ cs, c.i < (rds g cs F n).length ∧ c.j < (rds g cs F n).length ∧ c.i ≠ c.j := fun {n} c hc => by
    rw [rds_len, hl]
    obtain ⟨c1, c2, _⟩ := V.cok c hc
    omega
  induction h with
  | @wall v hw =>
    intro _ hv n _
    have hw' : ss.getD v 0 = wallOf (ws.getD v (0, 0)) g := of_decide_eq_true hw
    have : ∀ n, g * (rds g cs F n).getD v 0 ≤ g * F.getD v 0 := fun n => by
      induction n with
      | zero => exact Int.le_refl _
      | succ n ih => exact Int.le_trans ((relR_below hg cs fun c hc => ⟨(cok c hc).1, (cok c hc).2.1⟩).2 v (by rw [rds_len, hl]; exact hv)) ih
    have q := this n
    rw [hF v hv, ← hw'] at q
    exact q
  | free _ _ => intro z; cases z
  | @step v k l b hw hn _ ih =>
    intro hb hv n hln
    obtain ⟨o1, x, c, hx, hk⟩ := nx_edge hn
    have hc := List.mem_of_getElem? hx
    obtain ⟨s1, s2⟩ := S.cpl c hc
    have hko := ch_lt V hn
    cases n with
    | zero =>
      simp at hln
      rename_i hch
      subst hln
      cases hch
    | succ n =>
      have q := ih hb hko n (by simp at hln; omega)
      have t := relR_tight hg cs (F := rds g cs F n) cok c hc
      unfold okL at o1
      simp only [Bool.and_eq_false_iff, decide_eq_false_iff_not] at o1
      rcases hk with ⟨e1, rfl⟩ | ⟨e1, rfl⟩
      · dsimp only at q o1
        show g * (relR g cs (rds g cs F n)).getD v 0 ≤ _
        subst e1
        refine Int.le_trans t.2 ?_
        unfold bi
        rcases hg with rfl | rfl
        · rw [if_neg (by decide)]; omega
        · rw [if_pos (by decide)]; omega
      · dsimp only at q o1
        show g * (relR g cs (rds g cs F n)).getD v 0 ≤ _
        subst e1
        refine Int.le_trans t.1 ?_
        unfold bj
        rcases hg with rfl | rfl
        · rw [if_neg (by decide)]; omega
        · rw [if_pos (by decide)]; omega
end CY
namespace K14
open PySem L2 DL CY DC
/-! ### the law's own chain -/
def unC : D → Cp
  | .tup [.int a, .int b, .int c, .int d] => ⟨a.toNat, b.toNat, c, d⟩
  | _ => ⟨0, 0, 0, 0⟩
theorem unC_cD (c : Cp) : unC (cD c) = c := by simp [unC, cD]
def ijD (c : Cp) : D := .tup [.int c.i, .int c.j]
theorem imms_ijD : ∀ l : List Cp, D.imms (l.map ijD) = true
  | [] => rfl
  | c :: l => by simp only [List.map_cons, D.imms, imms_ijD l]; rfl
theorem filt_C (p : Cp → Bool) (cs : List Cp) : (((cs.map cD).filter fun d => p (unC d)).map fun d => ijD (unC d)) = (cs.filter p).map ijD := by
  rw [List.filter_map, List.map_map]
  have e : ((fun d => p (unC d)) ∘ cD) = p := by funext c; simp [unC_cD]
  have e2 : ((fun d => ijD (unC d)) ∘ cD) = ijD := by funext c; simp [unC_cD]
  rw [e, e2]
theorem filter_find {α : Type} (p : α → Bool) : ∀ {l : List α} {a : α}, l.find? p = some a → ∃ r, l.filter p = a :: r
  | [], _, h => by cases h
  | b :: l, a, h => by
    cases hb : p b with
    | true =>
      rw [List.find?_cons_of_pos hb] at h
      cases h
      exact ⟨_, List.filter_cons_of_pos hb⟩
    | false =>
      rw [List.find?_cons_of_neg (by simp [hb])] at h
      obtain ⟨r, e⟩ := filter_find p h
      exact ⟨r, by rw [List.filter_cons_of_neg (by simp [hb])]; exact e⟩
/-- the comprehension: the couplings that the moved place breaks -/
def cmp : DL.Env → DL.W D := (dLc [9, 10, 11, 12] (fSeq (dOp idxD (dV 0) (dC (.int 1)))) (bTup 4 (bCons (bName 9) (bCons (bName 10) (bCons (bName 11) (bCons (bName 12) bNil))))) (dNotT (dB (dChain leD leD (dV 11) (dOp subD (dOp idxD (dV 7) (dV 10)) (dOp idxD (dV 7) (dV 9))) (dV 12)))) (dTup (dCons (dV 9) (dCons (dV 10) dNil))))
theorem e_cmp {ws : List (Int × Int)} {cs : List Cp} {ss : List Int} {g : Int} {v : Nat} (V : VY ws cs) (S : VS ws cs ss) (hv : v < ws.length) (a b c d e f h i j k l : Option D) :
    cmp [some (yD ws cs), a, b, c, d, e, f, some (sD (mvd ss v g)), h, i, j, k, l] = pu (.lst ((cs.filter (brk ss v g)).map ijD)) := by
  have hl : (mvd ss v g).length = ws.length := by unfold mvd; rw [List.length_set, S.len]
  unfold cmp
  simp (decide := true) (implicitDefEqProofs := false) only [bodyD, env0, sSeq, thenF, sIf, sRet, sRetN, sRetV, sSet, sSetN, sExpr, sNil, sAsg, sPar, resD, dV, dC, dOp, dUn, dNot, dAnd, dOr, dNotT, dAndT, dOrT, dB, dIf, dChain, dTup, dCons, dNil, dLst, dLstB, dCB, dCall, dCallK, dImm, dYes, a1, a2, bTup, bLst, bCons, bNil, bName, fSeq, seqOf, fRng1, fRng2, fEn, fZip, zip2, one1, ints1, ints2, asB, asI, negD, addD, subD, modD, ltD, gtD, geD, leD, isND, isnND, intOp, intOpC, lenD_lst, lenD_tup, lenD_frz, len_sD, tupleD, listD, absD, max2D, min2D, allD, isiD, tyN, isiT_tt, isiT_ii, isiT_ib, idxD, lsA, gw, gt, opt_some, opt_none, bd_pu, bd_fl, bd_bd, chk_true, chk_tt, D.imm, D.imms, D.isN, List.map_cons, List.map_nil, List.length_cons, List.length_nil, List.set_cons_zero, List.set_cons_succ, List.getElem?_cons_zero, List.getElem?_cons_succ, List.getElem?_nil, Option.bind_some, Option.bind_none, Option.join_some, Option.join_none, Option.map_some, Bool.and_true, Bool.true_and, Bool.and_false, Bool.false_and, Bool.not_true, Bool.not_false, Bool.false_eq_true, Bool.true_eq_false, if_true, if_false, ite_true, ite_false, List.cons_append, List.nil_append, List.append_nil, Nat.zero_add, Nat.reduceAdd, Nat.reduceSub, Nat.reduceLeDiff, Int.reduceNeg, List.replicate_succ, List.replicate_zero, true_and, and_true, List.length_map, and_pu, or_pu, tand_pu, tor_pu, idx_0, idx_1, if_tt, if_ff, dSl, dNo, dSo, slD, imm_cD, imm_wD, intsD, sAppIx, sExt, sApp, lsD, sFor, seq_sD, eq_str, ne_str, eq_int, ne_int, nc0, nc1, nc2, nc3, nc4, decide_true, decide_false, ne_eq, not_true_eq_false, Int.reduceEq, not_false_eq_true, Bool.or_false, Bool.or_true, Bool.false_or, Bool.true_or, List.all_cons, List.all_nil, id_eq, dLc, wipeE, yD, imms_cD]
  have few := V.few
  have n40 := V.n40
  rw [lc_pick (fun d => brk ss v g (unC d)) (fun d => ijD (unC d)) (cs.map cD) [] (by rw [List.length_map, List.length_nil]; exact small (by omega)) (fun d q => by
    obtain ⟨c, hc, rfl⟩ := List.mem_map.mp q
    obtain ⟨c1, c2, _⟩ := V.cok c hc
    have hi : c.i < (mvd ss v g).length := by omega
    have hj : c.j < (mvd ss v g).length := by omega
    have hb := brk_moved (g := g) V S hv hc
    unfold cOk at hb
    refine ⟨_, by simp (decide := true) (implicitDefEqProofs := false) only [bodyD, env0, sSeq, thenF, sIf, sRet, sRetN, sRetV, sSet, sSetN, sExpr, sNil, sAsg, sPar, resD, dV, dC, dOp, dUn, dNot, dAnd, dOr, dNotT, dAndT, dOrT, dB, dIf, dChain, dTup, dCons, dNil, dLst, dLstB, dCB, dCall, dCallK, dImm, dYes, a1, a2, bTup, bLst, bCons, bNil, bName, fSeq, seqOf, fRng1, fRng2, fEn, fZip, zip2, one1, ints1, ints2, asB, asI, negD, addD, subD, modD, ltD, gtD, geD, leD, isND, isnND, intOp, intOpC, lenD_lst, lenD_tup, lenD_frz, len_sD, tupleD, listD, absD, max2D, min2D, allD, isiD, tyN, isiT_tt, isiT_ii, isiT_ib, idxD, lsA, gw, gt, opt_some, opt_none, bd_pu, bd_fl, bd_bd, chk_true, chk_tt, D.imm, D.imms, D.isN, List.map_cons, List.map_nil, List.length_cons, List.length_nil, List.set_cons_zero, List.set_cons_succ, List.getElem?_cons_zero, List.getElem?_cons_succ, List.getElem?_nil, Option.bind_some, Option.bind_none, Option.join_some, Option.join_none, Option.map_some, Bool.and_true, Bool.true_and, Bool.and_false, Bool.false_and, Bool.not_true, Bool.not_false, Bool.false_eq_true, Bool.true_eq_false, if_true, if_false, ite_true, ite_false, List.cons_append, List.nil_append, List.append_nil, Nat.zero_add, Nat.reduceAdd, Nat.reduceSub, Nat.reduceLeDiff, Int.reduceNeg, List.replicate_succ, List.replicate_zero, true_and, and_true, List.length_map, and_pu, or_pu, tand_pu, tor_pu, idx_0, idx_1, if_tt, if_ff, dSl, dNo, dSo, slD, imm_cD, imm_wD, intsD, sAppIx, sExt, sApp, lsD, sFor, seq_sD, eq_str, ne_str, eq_int, ne_int, nc0, nc1, nc2, nc3, nc4, decide_true, decide_false, ne_eq, not_true_eq_false, Int.reduceEq, not_false_eq_true, Bool.or_false, Bool.or_true, Bool.false_or, Bool.true_or, List.all_cons, List.all_nil, id_eq, cD]; rfl, ?_, fun _ => ⟨?_, rfl⟩⟩
    · simp (decide := true) (implicitDefEqProofs := false) only [bodyD, env0, sSeq, thenF, sIf, sRet, sRetN, sRetV, sSet, sSetN, sExpr, sNil, sAsg, sPar, resD, dV, dC, dOp, dUn, dNot, dAnd, dOr, dNotT, dAndT, dOrT, dB, dIf, dChain, dTup, dCons, dNil, dLst, dLstB, dCB, dCall, dCallK, dImm, dYes, a1, a2, bTup, bLst, bCons, bNil, bName, fSeq, seqOf, fRng1, fRng2, fEn, fZip, zip2, one1, ints1, ints2, asB, asI, negD, addD, subD, modD, ltD, gtD, geD, leD, isND, isnND, intOp, intOpC, lenD_lst, lenD_tup, lenD_frz, len_sD, tupleD, listD, absD, max2D, min2D, allD, isiD, tyN, isiT_tt, isiT_ii, isiT_ib, idxD, lsA, gw, gt, opt_some, opt_none, bd_pu, bd_fl, bd_bd, chk_true, chk_tt, D.imm, D.imms, D.isN, List.map_cons, List.map_nil, List.length_cons, List.length_nil, List.set_cons_zero, List.set_cons_succ, List.getElem?_cons_zero, List.getElem?_cons_succ, List.getElem?_nil, Option.bind_some, Option.bind_none, Option.join_some, Option.join_none, Option.map_some, Bool.and_true, Bool.true_and, Bool.and_false, Bool.false_and, Bool.not_true, Bool.not_false, Bool.false_eq_true, Bool.true_eq_false, if_true, if_false, ite_true, ite_false, List.cons_append, List.nil_append, List.append_nil, Nat.zero_add, Nat.reduceAdd, Nat.reduceSub, Nat.reduceLeDiff, Int.reduceNeg, List.replicate_succ, List.replicate_zero, true_and, and_true, List.length_map, and_pu, or_pu, tand_pu, tor_pu, idx_0, idx_1, if_tt, if_ff, dSl, dNo, dSo, slD, imm_cD, imm_wD, intsD, sAppIx, sExt, sApp, lsD, sFor, seq_sD, eq_str, ne_str, eq_int, ne_int, nc0, nc1, nc2, nc3, nc4, decide_true, decide_false, ne_eq, not_true_eq_false, Int.reduceEq, not_false_eq_true, Bool.or_false, Bool.or_true, Bool.false_or, Bool.true_or, List.all_cons, List.all_nil, id_eq, dChain, sD, idx_int hi, idx_int hj, hb, unC_cD, Bool.not_not]
    · simp (decide := true) (implicitDefEqProofs := false) only [bodyD, env0, sSeq, thenF, sIf, sRet, sRetN, sRetV, sSet, sSetN, sExpr, sNil, sAsg, sPar, resD, dV, dC, dOp, dUn, dNot, dAnd, dOr, dNotT, dAndT, dOrT, dB, dIf, dChain, dTup, dCons, dNil, dLst, dLstB, dCB, dCall, dCallK, dImm, dYes, a1, a2, bTup, bLst, bCons, bNil, bName, fSeq, seqOf, fRng1, fRng2, fEn, fZip, zip2, one1, ints1, ints2, asB, asI, negD, addD, subD, modD, ltD, gtD, geD, leD, isND, isnND, intOp, intOpC, lenD_lst, lenD_tup, lenD_frz, len_sD, tupleD, listD, absD, max2D, min2D, allD, isiD, tyN, isiT_tt, isiT_ii, isiT_ib, idxD, lsA, gw, gt, opt_some, opt_none, bd_pu, bd_fl, bd_bd, chk_true, chk_tt, D.imm, D.imms, D.isN, List.map_cons, List.map_nil, List.length_cons, List.length_nil, List.set_cons_zero, List.set_cons_succ, List.getElem?_cons_zero, List.getElem?_cons_succ, List.getElem?_nil, Option.bind_some, Option.bind_none, Option.join_some, Option.join_none, Option.map_some, Bool.and_true, Bool.true_and, Bool.and_false, Bool.false_and, Bool.not_true, Bool.not_false, Bool.false_eq_true, Bool.true_eq_false, if_true, if_false, ite_true, ite_false, List.cons_append, List.nil_append, List.append_nil, Nat.zero_add, Nat.reduceAdd, Nat.reduceSub, Nat.reduceLeDiff, Int.reduceNeg, List.replicate_succ, List.replicate_zero, true_and, and_true, List.length_map, and_pu, or_pu, tand_pu, tor_pu, idx_0, idx_1, if_tt, if_ff, dSl, dNo, dSo, slD, imm_cD, imm_wD, intsD, sAppIx, sExt, sApp, lsD, sFor, seq_sD, eq_str, ne_str, eq_int, ne_int, nc0, nc1, nc2, nc3, nc4, decide_true, decide_false, ne_eq, not_true_eq_false, Int.reduceEq, not_false_eq_true, Bool.or_false, Bool.or_true, Bool.false_or, Bool.true_or, List.all_cons, List.all_nil, id_eq, unC_cD, ijD])]
  rw [filt_C]
  simp (decide := true) (implicitDefEqProofs := false) only [bodyD, env0, sSeq, thenF, sIf, sRet, sRetN, sRetV, sSet, sSetN, sExpr, sNil, sAsg, sPar, resD, dV, dC, dOp, dUn, dNot, dAnd, dOr, dNotT, dAndT, dOrT, dB, dIf, dChain, dTup, dCons, dNil, dLst, dLstB, dCB, dCall, dCallK, dImm, dYes, a1, a2, bTup, bLst, bCons, bNil, bName, fSeq, seqOf, fRng1, fRng2, fEn, fZip, zip2, one1, ints1, ints2, asB, asI, negD, addD, subD, modD, ltD, gtD, geD, leD, isND, isnND, intOp, intOpC, lenD_lst, lenD_tup, lenD_frz, len_sD, tupleD, listD, absD, max2D, min2D, allD, isiD, tyN, isiT_tt, isiT_ii, isiT_ib, idxD, lsA, gw, gt, opt_some, opt_none, bd_pu, bd_fl, bd_bd, chk_true, chk_tt, D.imm, D.imms, D.isN, List.map_cons, List.map_nil, List.length_cons, List.length_nil, List.set_cons_zero, List.set_cons_succ, List.getElem?_cons_zero, List.getElem?_cons_succ, List.getElem?_nil, Option.bind_some, Option.bind_none, Option.join_some, Option.join_none, Option.map_some, Bool.and_true, Bool.true_and, Bool.and_false, Bool.false_and, Bool.not_true, Bool.not_false, Bool.false_eq_true, Bool.true_eq_false, if_true, if_false, ite_true, ite_false, List.cons_append, List.nil_append, List.append_nil, Nat.zero_add, Nat.reduceAdd, Nat.reduceSub, Nat.reduceLeDiff, Int.reduceNeg, List.replicate_succ, List.replicate_zero, true_and, and_true, List.length_map, and_pu, or_pu, tand_pu, tor_pu, idx_0, idx_1, if_tt, if_ff, dSl, dNo, dSo, slD, imm_cD, imm_wD, intsD, sAppIx, sExt, sApp, lsD, sFor, seq_sD, eq_str, ne_str, eq_int, ne_int, nc0, nc1, nc2, nc3, nc4, decide_true, decide_false, ne_eq, not_true_eq_false, Int.reduceEq, not_false_eq_true, Bool.or_false, Bool.or_true, Bool.false_or, Bool.true_or, List.all_cons, List.all_nil, id_eq]
def lT : DL.Env → DL.W Bool := (dB (dOp eqS (dV 5) (dC (.str ""))))
def lG : DL.Env → DL.W (Fl × DL.Env) := (sSeq (sSet 6 (dOp idxD (dV 3) (dUn negD (dC (.int 1))))) (sSeq (sSetN 7 (dCall F__law_moved (dCons (dV 1) (dCons (dTup (dCons (dV 6) (dCons (dV 4) dNil))) dNil)))) (sIf (dB (dOp eqS (dOp idxD (dV 1) (dV 6)) (dOp idxD (dOp idxD (dOp idxD (dV 0) (dC (.int 0))) (dV 6)) (dIf (dB (dOp gtD (dV 4) (dC (.int 0)))) (dC (.int 1)) (dC (.int 0)))))) (sSet 5 (dC (.str "wall"))) (sIf (dB (dCall F__law_holds (dCons (dV 0) (dCons (dV 7) dNil)))) (sSet 5 (dC (.str "free"))) (sSeq (sSetN 8 cmp) (sApp 3 (dIf (dB (dOp eqS (dOp idxD (dOp idxD (dV 8) (dC (.int 0))) (dC (.int 1))) (dV 6))) (dOp idxD (dOp idxD (dV 8) (dC (.int 0))) (dC (.int 0))) (dOp idxD (dOp idxD (dV 8) (dC (.int 0))) (dC (.int 1))))))))))
def lE (ws : List (Int × Int)) (cs : List Cp) (ss : List Int) (v : Nat) (g : Int) (L : List Nat) (w : Str) (x y z : Option D) : DL.Env := [some (yD ws cs), some (sD ss), some (.tup [.int v, .int g]), some (.lst (chD L)), some (.int g), some (.str w), x, y, z, none, none, none, none]
theorem wall_idx (w : Int × Int) {g : Int} (hg : g = -1 ∨ g = 1) : (if decide (0 < g) = true then pu (D.int 1) else pu (D.int 0) : DL.W D) = pu (.int (if g = 1 then 1 else 0)) ∧ idxL [.int w.1, .int w.2] (if g = 1 then 1 else 0) = pu (.int (wallOf w g)) := by
  rcases hg with rfl | rfl
  · refine ⟨by simp (decide := true) (implicitDefEqProofs := false) only [bodyD, env0, sSeq, thenF, sIf, sRet, sRetN, sRetV, sSet, sSetN, sExpr, sNil, sAsg, sPar, resD, dV, dC, dOp, dUn, dNot, dAnd, dOr, dNotT, dAndT, dOrT, dB, dIf, dChain, dTup, dCons, dNil, dLst, dLstB, dCB, dCall, dCallK, dImm, dYes, a1, a2, bTup, bLst, bCons, bNil, bName, fSeq, seqOf, fRng1, fRng2, fEn, fZip, zip2, one1, ints1, ints2, asB, asI, negD, addD, subD, modD, ltD, gtD, geD, leD, isND, isnND, intOp, intOpC, lenD_lst, lenD_tup, lenD_frz, len_sD, tupleD, listD, absD, max2D, min2D, allD, isiD, tyN, isiT_tt, isiT_ii, isiT_ib, idxD, lsA, gw, gt, opt_some, opt_none, bd_pu, bd_fl, bd_bd, chk_true, chk_tt, D.imm, D.imms, D.isN, List.map_cons, List.map_nil, List.length_cons, List.length_nil, List.set_cons_zero, List.set_cons_succ, List.getElem?_cons_zero, List.getElem?_cons_succ, List.getElem?_nil, Option.bind_some, Option.bind_none, Option.join_some, Option.join_none, Option.map_some, Bool.and_true, Bool.true_and, Bool.and_false, Bool.false_and, Bool.not_true, Bool.not_false, Bool.false_eq_true, Bool.true_eq_false, if_true, if_false, ite_true, ite_false, List.cons_append, List.nil_append, List.append_nil, Nat.zero_add, Nat.reduceAdd, Nat.reduceSub, Nat.reduceLeDiff, Int.reduceNeg, List.replicate_succ, List.replicate_zero, true_and, and_true, List.length_map, and_pu, or_pu, tand_pu, tor_pu, idx_0, idx_1, if_tt, if_ff, dSl, dNo, dSo, slD, imm_cD, imm_wD, intsD, sAppIx, sExt, sApp, lsD, sFor, seq_sD, eq_str, ne_str, eq_int, ne_int, nc0, nc1, nc2, nc3, nc4, decide_true, decide_false, ne_eq, not_true_eq_false, Int.reduceEq, not_false_eq_true, Bool.or_false, Bool.or_true, Bool.false_or, Bool.true_or, List.all_cons, List.all_nil, id_eq], ?_⟩
    show idxL _ 0 = pu (.int w.1)
    rw [idx_0]
  · refine ⟨by simp (decide := true) (implicitDefEqProofs := false) only [bodyD, env0, sSeq, thenF, sIf, sRet, sRetN, sRetV, sSet, sSetN, sExpr, sNil, sAsg, sPar, resD, dV, dC, dOp, dUn, dNot, dAnd, dOr, dNotT, dAndT, dOrT, dB, dIf, dChain, dTup, dCons, dNil, dLst, dLstB, dCB, dCall, dCallK, dImm, dYes, a1, a2, bTup, bLst, bCons, bNil, bName, fSeq, seqOf, fRng1, fRng2, fEn, fZip, zip2, one1, ints1, ints2, asB, asI, negD, addD, subD, modD, ltD, gtD, geD, leD, isND, isnND, intOp, intOpC, lenD_lst, lenD_tup, lenD_frz, len_sD, tupleD, listD, absD, max2D, min2D, allD, isiD, tyN, isiT_tt, isiT_ii, isiT_ib, idxD, lsA, gw, gt, opt_some, opt_none, bd_pu, bd_fl, bd_bd, chk_true, chk_tt, D.imm, D.imms, D.isN, List.map_cons, List.map_nil, List.length_cons, List.length_nil, List.set_cons_zero, List.set_cons_succ, List.getElem?_cons_zero, List.getElem?_cons_succ, List.getElem?_nil, Option.bind_some, Option.bind_none, Option.join_some, Option.join_none, Option.map_some, Bool.and_true, Bool.true_and, Bool.and_false, Bool.false_and, Bool.not_true, Bool.not_false, Bool.false_eq_true, Bool.true_eq_false, if_true, if_false, ite_true, ite_false, List.cons_append, List.nil_append, List.append_nil, Nat.zero_add, Nat.reduceAdd, Nat.reduceSub, Nat.reduceLeDiff, Int.reduceNeg, List.replicate_succ, List.replicate_zero, true_and, and_true, List.length_map, and_pu, or_pu, tand_pu, tor_pu, idx_0, idx_1, if_tt, if_ff, dSl, dNo, dSo, slD, imm_cD, imm_wD, intsD, sAppIx, sExt, sApp, lsD, sFor, seq_sD, eq_str, ne_str, eq_int, ne_int, nc0, nc1, nc2, nc3, nc4, decide_true, decide_false, ne_eq, not_true_eq_false, Int.reduceEq, not_false_eq_true, Bool.or_false, Bool.or_true, Bool.false_or, Bool.true_or, List.all_cons, List.all_nil, id_eq], ?_⟩
    show idxL _ 1 = pu (.int w.2)
    rw [idx_1]
theorem whN_succ (t : DL.Env → DL.W Bool) (g : DL.Env → DL.W (Fl × DL.Env)) (n : Nat) (δ : DL.Env) : whN t g (n + 1) δ = DL.bd (t δ) fun b => if b = true then DL.bd (g δ) (again (whN t g n)) else DL.pu (.nx, δ) := rfl
theorem again_nx (k : DL.Env → DL.W (Fl × DL.Env)) (δ : DL.Env) : again k (.nx, δ) = k δ := rfl
end K14
namespace K14
open PySem L2 DL CY DC
theorem n_lchain {ws : List (Int × Int)} {cs : List Cp} {ss : List Int} {g : Int} {v0 : Nat} (V : VY ws cs) (S : VS ws cs ss) (hg : g = -1 ∨ g = 1) : ∀ {v : Nat} {l : List Nat} {b : Bool}, Ch ws cs ss g v l b → v < ws.length → ∀ (pre : List Nat) (x y z : Option D), pre.length + l.length ≤ 1001 →
    Ens (whN lT lG (l.length + 1) (lE ws cs ss v0 g (pre ++ [v]) "" x y z)) fun r => ∃ x y z, r = (.nx, lE ws cs ss v0 g (pre ++ l) (if b = true then "wall" else "free") x y z) := by
  intro v l b h
  induction h with
  | @wall v hw =>
    intro hv pre x y z hl
    have hv' : v < ss.length := by rw [S.len]; exact hv
    have h40 : ss.length ≤ 40 := by rw [S.len]; exact V.n40
    have hw' : decide (ss.getD v 0 = wallOf (ws.getD v (0, 0)) g) = true := hw
    obtain ⟨i1, i2⟩ := wall_idx (ws.getD v (0, 0)) hg
    have e1 : lT (lE ws cs ss v0 g (pre ++ [v]) "" x y z) = pu true := by
      unfold lT lE
      simp (decide := true) (implicitDefEqProofs := false) only [bodyD, env0, sSeq, thenF, sIf, sRet, sRetN, sRetV, sSet, sSetN, sExpr, sNil, sAsg, sPar, resD, dV, dC, dOp, dUn, dNot, dAnd, dOr, dNotT, dAndT, dOrT, dB, dIf, dChain, dTup, dCons, dNil, dLst, dLstB, dCB, dCall, dCallK, dImm, dYes, a1, a2, bTup, bLst, bCons, bNil, bName, fSeq, seqOf, fRng1, fRng2, fEn, fZip, zip2, one1, ints1, ints2, asB, asI, negD, addD, subD, modD, ltD, gtD, geD, leD, isND, isnND, intOp, intOpC, lenD_lst, lenD_tup, lenD_frz, len_sD, tupleD, listD, absD, max2D, min2D, allD, isiD, tyN, isiT_tt, isiT_ii, isiT_ib, idxD, lsA, gw, gt, opt_some, opt_none, bd_pu, bd_fl, bd_bd, chk_true, chk_tt, D.imm, D.imms, D.isN, List.map_cons, List.map_nil, List.length_cons, List.length_nil, List.set_cons_zero, List.set_cons_succ, List.getElem?_cons_zero, List.getElem?_cons_succ, List.getElem?_nil, Option.bind_some, Option.bind_none, Option.join_some, Option.join_none, Option.map_some, Bool.and_true, Bool.true_and, Bool.and_false, Bool.false_and, Bool.not_true, Bool.not_false, Bool.false_eq_true, Bool.true_eq_false, if_true, if_false, ite_true, ite_false, List.cons_append, List.nil_append, List.append_nil, Nat.zero_add, Nat.reduceAdd, Nat.reduceSub, Nat.reduceLeDiff, Int.reduceNeg, List.replicate_succ, List.replicate_zero, true_and, and_true, List.length_map, and_pu, or_pu, tand_pu, tor_pu, idx_0, idx_1, if_tt, if_ff, dSl, dNo, dSo, slD, imm_cD, imm_wD, intsD, sAppIx, sExt, sApp, lsD, sFor, seq_sD, eq_str, ne_str, eq_int, ne_int, nc0, nc1, nc2, nc3, nc4, decide_true, decide_false, ne_eq, not_true_eq_false, Int.reduceEq, not_false_eq_true, Bool.or_false, Bool.or_true, Bool.false_or, Bool.true_or, List.all_cons, List.all_nil, id_eq]
    have em : F__law_moved [sD ss, .tup [.int v, .int g]] = pu (sD (mvd ss v g)) := e_moved hv' h40
    unfold sD at em
    have e2 : ∃ x' y' z', lG (lE ws cs ss v0 g (pre ++ [v]) "" x y z) = pu (.nx, lE ws cs ss v0 g (pre ++ [v]) "wall" x' y' z') := by
      unfold lG lE
      simp (decide := true) (implicitDefEqProofs := false) only [bodyD, env0, sSeq, thenF, sIf, sRet, sRetN, sRetV, sSet, sSetN, sExpr, sNil, sAsg, sPar, resD, dV, dC, dOp, dUn, dNot, dAnd, dOr, dNotT, dAndT, dOrT, dB, dIf, dChain, dTup, dCons, dNil, dLst, dLstB, dCB, dCall, dCallK, dImm, dYes, a1, a2, bTup, bLst, bCons, bNil, bName, fSeq, seqOf, fRng1, fRng2, fEn, fZip, zip2, one1, ints1, ints2, asB, asI, negD, addD, subD, modD, ltD, gtD, geD, leD, isND, isnND, intOp, intOpC, lenD_lst, lenD_tup, lenD_frz, len_sD, tupleD, listD, absD, max2D, min2D, allD, isiD, tyN, isiT_tt, isiT_ii, isiT_ib, idxD, lsA, gw, gt, opt_some, opt_none, bd_pu, bd_fl, bd_bd, chk_true, chk_tt, D.imm, D.imms, D.isN, List.map_cons, List.map_nil, List.length_cons, List.length_nil, List.set_cons_zero, List.set_cons_succ, List.getElem?_cons_zero, List.getElem?_cons_succ, List.getElem?_nil, Option.bind_some, Option.bind_none, Option.join_some, Option.join_none, Option.map_some, Bool.and_true, Bool.true_and, Bool.and_false, Bool.false_and, Bool.not_true, Bool.not_false, Bool.false_eq_true, Bool.true_eq_false, if_true, if_false, ite_true, ite_false, List.cons_append, List.nil_append, List.append_nil, Nat.zero_add, Nat.reduceAdd, Nat.reduceSub, Nat.reduceLeDiff, Int.reduceNeg, List.replicate_succ, List.replicate_zero, true_and, and_true, List.length_map, and_pu, or_pu, tand_pu, tor_pu, idx_0, idx_1, if_tt, if_ff, dSl, dNo, dSo, slD, imm_cD, imm_wD, intsD, sAppIx, sExt, sApp, lsD, sFor, seq_sD, eq_str, ne_str, eq_int, ne_int, nc0, nc1, nc2, nc3, nc4, decide_true, decide_false, ne_eq, not_true_eq_false, Int.reduceEq, not_false_eq_true, Bool.or_false, Bool.or_true, Bool.false_or, Bool.true_or, List.all_cons, List.all_nil, id_eq, chD_app, idx_last, sD, yD, em, idx_int hv', idx_w hv, i1]
      simp (decide := true) (implicitDefEqProofs := false) only [bodyD, env0, sSeq, thenF, sIf, sRet, sRetN, sRetV, sSet, sSetN, sExpr, sNil, sAsg, sPar, resD, dV, dC, dOp, dUn, dNot, dAnd, dOr, dNotT, dAndT, dOrT, dB, dIf, dChain, dTup, dCons, dNil, dLst, dLstB, dCB, dCall, dCallK, dImm, dYes, a1, a2, bTup, bLst, bCons, bNil, bName, fSeq, seqOf, fRng1, fRng2, fEn, fZip, zip2, one1, ints1, ints2, asB, asI, negD, addD, subD, modD, ltD, gtD, geD, leD, isND, isnND, intOp, intOpC, lenD_lst, lenD_tup, lenD_frz, len_sD, tupleD, listD, absD, max2D, min2D, allD, isiD, tyN, isiT_tt, isiT_ii, isiT_ib, idxD, lsA, gw, gt, opt_some, opt_none, bd_pu, bd_fl, bd_bd, chk_true, chk_tt, D.imm, D.imms, D.isN, List.map_cons, List.map_nil, List.length_cons, List.length_nil, List.set_cons_zero, List.set_cons_succ, List.getElem?_cons_zero, List.getElem?_cons_succ, List.getElem?_nil, Option.bind_some, Option.bind_none, Option.join_some, Option.join_none, Option.map_some, Bool.and_true, Bool.true_and, Bool.and_false, Bool.false_and, Bool.not_true, Bool.not_false, Bool.false_eq_true, Bool.true_eq_false, if_true, if_false, ite_true, ite_false, List.cons_append, List.nil_append, List.append_nil, Nat.zero_add, Nat.reduceAdd, Nat.reduceSub, Nat.reduceLeDiff, Int.reduceNeg, List.replicate_succ, List.replicate_zero, true_and, and_true, List.length_map, and_pu, or_pu, tand_pu, tor_pu, idx_0, idx_1, if_tt, if_ff, dSl, dNo, dSo, slD, imm_cD, imm_wD, intsD, sAppIx, sExt, sApp, lsD, sFor, seq_sD, eq_str, ne_str, eq_int, ne_int, nc0, nc1, nc2, nc3, nc4, decide_true, decide_false, ne_eq, not_true_eq_false, Int.reduceEq, not_false_eq_true, Bool.or_false, Bool.or_true, Bool.false_or, Bool.true_or, List.all_cons, List.all_nil, id_eq, wD, i2, hw']
      exact ⟨_, _, _, rfl⟩
    obtain ⟨x', y', z', e2⟩ := e2
    show Ens (whN lT lG 2 _) _
    rw [whN_succ, e1, bd_pu, if_pos rfl, e2, bd_pu, again_nx, whN_succ]
    unfold lT lE
    simp (decide := true) (implicitDefEqProofs := false) only [bodyD, env0, sSeq, thenF, sIf, sRet, sRetN, sRetV, sSet, sSetN, sExpr, sNil, sAsg, sPar, resD, dV, dC, dOp, dUn, dNot, dAnd, dOr, dNotT, dAndT, dOrT, dB, dIf, dChain, dTup, dCons, dNil, dLst, dLstB, dCB, dCall, dCallK, dImm, dYes, a1, a2, bTup, bLst, bCons, bNil, bName, fSeq, seqOf, fRng1, fRng2, fEn, fZip, zip2, one1, ints1, ints2, asB, asI, negD, addD, subD, modD, ltD, gtD, geD, leD, isND, isnND, intOp, intOpC, lenD_lst, lenD_tup, lenD_frz, len_sD, tupleD, listD, absD, max2D, min2D, allD, isiD, tyN, isiT_tt, isiT_ii, isiT_ib, idxD, lsA, gw, gt, opt_some, opt_none, bd_pu, bd_fl, bd_bd, chk_true, chk_tt, D.imm, D.imms, D.isN, List.map_cons, List.map_nil, List.length_cons, List.length_nil, List.set_cons_zero, List.set_cons_succ, List.getElem?_cons_zero, List.getElem?_cons_succ, List.getElem?_nil, Option.bind_some, Option.bind_none, Option.join_some, Option.join_none, Option.map_some, Bool.and_true, Bool.true_and, Bool.and_false, Bool.false_and, Bool.not_true, Bool.not_false, Bool.false_eq_true, Bool.true_eq_false, if_true, if_false, ite_true, ite_false, List.cons_append, List.nil_append, List.append_nil, Nat.zero_add, Nat.reduceAdd, Nat.reduceSub, Nat.reduceLeDiff, Int.reduceNeg, List.replicate_succ, List.replicate_zero, true_and, and_true, List.length_map, and_pu, or_pu, tand_pu, tor_pu, idx_0, idx_1, if_tt, if_ff, dSl, dNo, dSo, slD, imm_cD, imm_wD, intsD, sAppIx, sExt, sApp, lsD, sFor, seq_sD, eq_str, ne_str, eq_int, ne_int, nc0, nc1, nc2, nc3, nc4, decide_true, decide_false, ne_eq, not_true_eq_false, Int.reduceEq, not_false_eq_true, Bool.or_false, Bool.or_true, Bool.false_or, Bool.true_or, List.all_cons, List.all_nil, id_eq]
    exact Ens.pu ⟨_, _, _, rfl⟩
  | @free v hw hn =>
    intro hv pre x y z hl
    have hv' : v < ss.length := by rw [S.len]; exact hv
    have h40 : ss.length ≤ 40 := by rw [S.len]; exact V.n40
    have hw' : decide (ss.getD v 0 = wallOf (ws.getD v (0, 0)) g) = false := hw
    have hcan : canB ws cs ss v g = true := by rw [canB_nx hw, hn]; rfl
    have hlm : (mvd ss v g).length = ws.length := by unfold mvd; rw [List.length_set, S.len]
    obtain ⟨i1, i2⟩ := wall_idx (ws.getD v (0, 0)) hg
    have e1 : lT (lE ws cs ss v0 g (pre ++ [v]) "" x y z) = pu true := by
      unfold lT lE
      simp (decide := true) (implicitDefEqProofs := false) only [bodyD, env0, sSeq, thenF, sIf, sRet, sRetN, sRetV, sSet, sSetN, sExpr, sNil, sAsg, sPar, resD, dV, dC, dOp, dUn, dNot, dAnd, dOr, dNotT, dAndT, dOrT, dB, dIf, dChain, dTup, dCons, dNil, dLst, dLstB, dCB, dCall, dCallK, dImm, dYes, a1, a2, bTup, bLst, bCons, bNil, bName, fSeq, seqOf, fRng1, fRng2, fEn, fZip, zip2, one1, ints1, ints2, asB, asI, negD, addD, subD, modD, ltD, gtD, geD, leD, isND, isnND, intOp, intOpC, lenD_lst, lenD_tup, lenD_frz, len_sD, tupleD, listD, absD, max2D, min2D, allD, isiD, tyN, isiT_tt, isiT_ii, isiT_ib, idxD, lsA, gw, gt, opt_some, opt_none, bd_pu, bd_fl, bd_bd, chk_true, chk_tt, D.imm, D.imms, D.isN, List.map_cons, List.map_nil, List.length_cons, List.length_nil, List.set_cons_zero, List.set_cons_succ, List.getElem?_cons_zero, List.getElem?_cons_succ, List.getElem?_nil, Option.bind_some, Option.bind_none, Option.join_some, Option.join_none, Option.map_some, Bool.and_true, Bool.true_and, Bool.and_false, Bool.false_and, Bool.not_true, Bool.not_false, Bool.false_eq_true, Bool.true_eq_false, if_true, if_false, ite_true, ite_false, List.cons_append, List.nil_append, List.append_nil, Nat.zero_add, Nat.reduceAdd, Nat.reduceSub, Nat.reduceLeDiff, Int.reduceNeg, List.replicate_succ, List.replicate_zero, true_and, and_true, List.length_map, and_pu, or_pu, tand_pu, tor_pu, idx_0, idx_1, if_tt, if_ff, dSl, dNo, dSo, slD, imm_cD, imm_wD, intsD, sAppIx, sExt, sApp, lsD, sFor, seq_sD, eq_str, ne_str, eq_int, ne_int, nc0, nc1, nc2, nc3, nc4, decide_true, decide_false, ne_eq, not_true_eq_false, Int.reduceEq, not_false_eq_true, Bool.or_false, Bool.or_true, Bool.false_or, Bool.true_or, List.all_cons, List.all_nil, id_eq]
    have eh : F__law_holds [yD ws cs, sD (mvd ss v g)] = pu (.bl true) := by rw [e_holds V hlm, ← can_iff V S hv hg, hcan]
    have em : F__law_moved [sD ss, .tup [.int v, .int g]] = pu (sD (mvd ss v g)) := e_moved hv' h40
    unfold yD sD at eh em
    have e2 : ∃ x' y' z', lG (lE ws cs ss v0 g (pre ++ [v]) "" x y z) = pu (.nx, lE ws cs ss v0 g (pre ++ [v]) "free" x' y' z') := by
      unfold lG lE
      simp (decide := true) (implicitDefEqProofs := false) only [bodyD, env0, sSeq, thenF, sIf, sRet, sRetN, sRetV, sSet, sSetN, sExpr, sNil, sAsg, sPar, resD, dV, dC, dOp, dUn, dNot, dAnd, dOr, dNotT, dAndT, dOrT, dB, dIf, dChain, dTup, dCons, dNil, dLst, dLstB, dCB, dCall, dCallK, dImm, dYes, a1, a2, bTup, bLst, bCons, bNil, bName, fSeq, seqOf, fRng1, fRng2, fEn, fZip, zip2, one1, ints1, ints2, asB, asI, negD, addD, subD, modD, ltD, gtD, geD, leD, isND, isnND, intOp, intOpC, lenD_lst, lenD_tup, lenD_frz, len_sD, tupleD, listD, absD, max2D, min2D, allD, isiD, tyN, isiT_tt, isiT_ii, isiT_ib, idxD, lsA, gw, gt, opt_some, opt_none, bd_pu, bd_fl, bd_bd, chk_true, chk_tt, D.imm, D.imms, D.isN, List.map_cons, List.map_nil, List.length_cons, List.length_nil, List.set_cons_zero, List.set_cons_succ, List.getElem?_cons_zero, List.getElem?_cons_succ, List.getElem?_nil, Option.bind_some, Option.bind_none, Option.join_some, Option.join_none, Option.map_some, Bool.and_true, Bool.true_and, Bool.and_false, Bool.false_and, Bool.not_true, Bool.not_false, Bool.false_eq_true, Bool.true_eq_false, if_true, if_false, ite_true, ite_false, List.cons_append, List.nil_append, List.append_nil, Nat.zero_add, Nat.reduceAdd, Nat.reduceSub, Nat.reduceLeDiff, Int.reduceNeg, List.replicate_succ, List.replicate_zero, true_and, and_true, List.length_map, and_pu, or_pu, tand_pu, tor_pu, idx_0, idx_1, if_tt, if_ff, dSl, dNo, dSo, slD, imm_cD, imm_wD, intsD, sAppIx, sExt, sApp, lsD, sFor, seq_sD, eq_str, ne_str, eq_int, ne_int, nc0, nc1, nc2, nc3, nc4, decide_true, decide_false, ne_eq, not_true_eq_false, Int.reduceEq, not_false_eq_true, Bool.or_false, Bool.or_true, Bool.false_or, Bool.true_or, List.all_cons, List.all_nil, id_eq, chD_app, idx_last, sD, yD, em, idx_int hv', idx_w hv, i1]
      simp (decide := true) (implicitDefEqProofs := false) only [bodyD, env0, sSeq, thenF, sIf, sRet, sRetN, sRetV, sSet, sSetN, sExpr, sNil, sAsg, sPar, resD, dV, dC, dOp, dUn, dNot, dAnd, dOr, dNotT, dAndT, dOrT, dB, dIf, dChain, dTup, dCons, dNil, dLst, dLstB, dCB, dCall, dCallK, dImm, dYes, a1, a2, bTup, bLst, bCons, bNil, bName, fSeq, seqOf, fRng1, fRng2, fEn, fZip, zip2, one1, ints1, ints2, asB, asI, negD, addD, subD, modD, ltD, gtD, geD, leD, isND, isnND, intOp, intOpC, lenD_lst, lenD_tup, lenD_frz, len_sD, tupleD, listD, absD, max2D, min2D, allD, isiD, tyN, isiT_tt, isiT_ii, isiT_ib, idxD, lsA, gw, gt, opt_some, opt_none, bd_pu, bd_fl, bd_bd, chk_true, chk_tt, D.imm, D.imms, D.isN, List.map_cons, List.map_nil, List.length_cons, List.length_nil, List.set_cons_zero, List.set_cons_succ, List.getElem?_cons_zero, List.getElem?_cons_succ, List.getElem?_nil, Option.bind_some, Option.bind_none, Option.join_some, Option.join_none, Option.map_some, Bool.and_true, Bool.true_and, Bool.and_false, Bool.false_and, Bool.not_true, Bool.not_false, Bool.false_eq_true, Bool.true_eq_false, if_true, if_false, ite_true, ite_false, List.cons_append, List.nil_append, List.append_nil, Nat.zero_add, Nat.reduceAdd, Nat.reduceSub, Nat.reduceLeDiff, Int.reduceNeg, List.replicate_succ, List.replicate_zero, true_and, and_true, List.length_map, and_pu, or_pu, tand_pu, tor_pu, idx_0, idx_1, if_tt, if_ff, dSl, dNo, dSo, slD, imm_cD, imm_wD, intsD, sAppIx, sExt, sApp, lsD, sFor, seq_sD, eq_str, ne_str, eq_int, ne_int, nc0, nc1, nc2, nc3, nc4, decide_true, decide_false, ne_eq, not_true_eq_false, Int.reduceEq, not_false_eq_true, Bool.or_false, Bool.or_true, Bool.false_or, Bool.true_or, List.all_cons, List.all_nil, id_eq, wD, i2, hw', eh]
      exact ⟨_, _, _, rfl⟩
    obtain ⟨x', y', z', e2⟩ := e2
    show Ens (whN lT lG 2 _) _
    rw [whN_succ, e1, bd_pu, if_pos rfl, e2, bd_pu, again_nx, whN_succ]
    unfold lT lE
    simp (decide := true) (implicitDefEqProofs := false) only [bodyD, env0, sSeq, thenF, sIf, sRet, sRetN, sRetV, sSet, sSetN, sExpr, sNil, sAsg, sPar, resD, dV, dC, dOp, dUn, dNot, dAnd, dOr, dNotT, dAndT, dOrT, dB, dIf, dChain, dTup, dCons, dNil, dLst, dLstB, dCB, dCall, dCallK, dImm, dYes, a1, a2, bTup, bLst, bCons, bNil, bName, fSeq, seqOf, fRng1, fRng2, fEn, fZip, zip2, one1, ints1, ints2, asB, asI, negD, addD, subD, modD, ltD, gtD, geD, leD, isND, isnND, intOp, intOpC, lenD_lst, lenD_tup, lenD_frz, len_sD, tupleD, listD, absD, max2D, min2D, allD, isiD, tyN, isiT_tt, isiT_ii, isiT_ib, idxD, lsA, gw, gt, opt_some, opt_none, bd_pu, bd_fl, bd_bd, chk_true, chk_tt, D.imm, D.imms, D.isN, List.map_cons, List.map_nil, List.length_cons, List.length_nil, List.set_cons_zero, List.set_cons_succ, List.getElem?_cons_zero, List.getElem?_cons_succ, List.getElem?_nil, Option.bind_some, Option.bind_none, Option.join_some, Option.join_none, Option.map_some, Bool.and_true, Bool.true_and, Bool.and_false, Bool.false_and, Bool.not_true, Bool.not_false, Bool.false_eq_true, Bool.true_eq_false, if_true, if_false, ite_true, ite_false, List.cons_append, List.nil_append, List.append_nil, Nat.zero_add, Nat.reduceAdd, Nat.reduceSub, Nat.reduceLeDiff, Int.reduceNeg, List.replicate_succ, List.replicate_zero, true_and, and_true, List.length_map, and_pu, or_pu, tand_pu, tor_pu, idx_0, idx_1, if_tt, if_ff, dSl, dNo, dSo, slD, imm_cD, imm_wD, intsD, sAppIx, sExt, sApp, lsD, sFor, seq_sD, eq_str, ne_str, eq_int, ne_int, nc0, nc1, nc2, nc3, nc4, decide_true, decide_false, ne_eq, not_true_eq_false, Int.reduceEq, not_false_eq_true, Bool.or_false, Bool.or_true, Bool.false_or, Bool.true_or, List.all_cons, List.all_nil, id_eq]
    exact Ens.pu ⟨_, _, _, rfl⟩
  | @step v k l b hw hn h ih =>
    intro hv pre x y z hl
    have hv' : v < ss.length := by rw [S.len]; exact hv
    have h40 : ss.length ≤ 40 := by rw [S.len]; exact V.n40
    have hw' : decide (ss.getD v 0 = wallOf (ws.getD v (0, 0)) g) = false := hw
    have hcan : canB ws cs ss v g = false := by rw [canB_nx hw, hn]; rfl
    have hlm : (mvd ss v g).length = ws.length := by unfold mvd; rw [List.length_set, S.len]
    have hk := ch_lt V hn
    obtain ⟨i1, i2⟩ := wall_idx (ws.getD v (0, 0)) hg
    have e1 : lT (lE ws cs ss v0 g (pre ++ [v]) "" x y z) = pu true := by
      unfold lT lE
      simp (decide := true) (implicitDefEqProofs := false) only [bodyD, env0, sSeq, thenF, sIf, sRet, sRetN, sRetV, sSet, sSetN, sExpr, sNil, sAsg, sPar, resD, dV, dC, dOp, dUn, dNot, dAnd, dOr, dNotT, dAndT, dOrT, dB, dIf, dChain, dTup, dCons, dNil, dLst, dLstB, dCB, dCall, dCallK, dImm, dYes, a1, a2, bTup, bLst, bCons, bNil, bName, fSeq, seqOf, fRng1, fRng2, fEn, fZip, zip2, one1, ints1, ints2, asB, asI, negD, addD, subD, modD, ltD, gtD, geD, leD, isND, isnND, intOp, intOpC, lenD_lst, lenD_tup, lenD_frz, len_sD, tupleD, listD, absD, max2D, min2D, allD, isiD, tyN, isiT_tt, isiT_ii, isiT_ib, idxD, lsA, gw, gt, opt_some, opt_none, bd_pu, bd_fl, bd_bd, chk_true, chk_tt, D.imm, D.imms, D.isN, List.map_cons, List.map_nil, List.length_cons, List.length_nil, List.set_cons_zero, List.set_cons_succ, List.getElem?_cons_zero, List.getElem?_cons_succ, List.getElem?_nil, Option.bind_some, Option.bind_none, Option.join_some, Option.join_none, Option.map_some, Bool.and_true, Bool.true_and, Bool.and_false, Bool.false_and, Bool.not_true, Bool.not_false, Bool.false_eq_true, Bool.true_eq_false, if_true, if_false, ite_true, ite_false, List.cons_append, List.nil_append, List.append_nil, Nat.zero_add, Nat.reduceAdd, Nat.reduceSub, Nat.reduceLeDiff, Int.reduceNeg, List.replicate_succ, List.replicate_zero, true_and, and_true, List.length_map, and_pu, or_pu, tand_pu, tor_pu, idx_0, idx_1, if_tt, if_ff, dSl, dNo, dSo, slD, imm_cD, imm_wD, intsD, sAppIx, sExt, sApp, lsD, sFor, seq_sD, eq_str, ne_str, eq_int, ne_int, nc0, nc1, nc2, nc3, nc4, decide_true, decide_false, ne_eq, not_true_eq_false, Int.reduceEq, not_false_eq_true, Bool.or_false, Bool.or_true, Bool.false_or, Bool.true_or, List.all_cons, List.all_nil, id_eq]
    have eh : F__law_holds [yD ws cs, sD (mvd ss v g)] = pu (.bl false) := by rw [e_holds V hlm, ← can_iff V S hv hg, hcan]
    have em : F__law_moved [sD ss, .tup [.int v, .int g]] = pu (sD (mvd ss v g)) := e_moved hv' h40
    unfold yD sD at eh em
    have ecm := e_cmp (g := g) V S hv
    simp only [yD, sD] at ecm
    have ew : (dOp idxD (dOp idxD (dOp idxD (dV 0) (dC (.int 0))) (dV 6)) (dIf (dB (dOp gtD (dV 4) (dC (.int 0)))) (dC (.int 1)) (dC (.int 0)))) = (dOp idxD (dOp idxD (dOp idxD (dV 0) (dC (.int 0))) (dV 6)) (dIf (dB (dOp gtD (dV 4) (dC (.int 0)))) (dC (.int 1)) (dC (.int 0)))) := rfl
    rw [nx_find (fun c hc => (V.cok c hc).1)] at hn
    obtain ⟨c, hc, hk2⟩ := Option.map_eq_some_iff.mp hn
    obtain ⟨r, hr⟩ := filter_find _ hc
    have hcb := List.find?_some hc
    have hcm := List.mem_of_find?_eq_some hc
    obtain ⟨c1, c2, _⟩ := V.cok c hcm
    have hko : (if decide ((c.j : Int) = (v : Nat)) = true then pu (D.int c.i) else pu (D.int c.j) : DL.W D) = pu (.int k.o) := by
      unfold brk at hcb
      simp only [Bool.and_eq_true, Bool.or_eq_true, decide_eq_true_eq] at hcb
      rw [← hk2]
      unfold lkOf
      rcases hcb.1 with e | e
      · rw [if_pos e, if_neg (show ¬ decide ((c.j : Int) = (v : Nat)) = true by simp; omega)]
      · rw [if_neg (show ¬ c.i = v by omega), if_pos (show decide ((c.j : Int) = (v : Nat)) = true by simp; omega)]
    have lc : (chD pre ++ [D.int (v : Nat)]).length < sizeLine := by
      rw [← chD_app]
      unfold chD nI
      rw [List.length_map, List.length_map]
      simp at hl
      exact Nat.lt_of_le_of_lt (show _ ≤ 2000 by simp; omega) (by decide)
    have ic : D.imms (chD pre ++ [D.int (v : Nat)]) = true := by rw [← chD_app]; exact imms_ch _
    have e2 : ∃ x' y' z', lG (lE ws cs ss v0 g (pre ++ [v]) "" x y z) = pu (.nx, lE ws cs ss v0 g (pre ++ [v] ++ [k.o]) "" x' y' z') := by
      have ef : idxL ((cs.filter (brk ss v g)).map ijD) 0 = pu (ijD c) := by
        rw [hr, List.map_cons, idx_0]
      unfold lG lE
      simp (decide := true) (implicitDefEqProofs := false) only [bodyD, env0, sSeq, thenF, sIf, sRet, sRetN, sRetV, sSet, sSetN, sExpr, sNil, sAsg, sPar, resD, dV, dC, dOp, dUn, dNot, dAnd, dOr, dNotT, dAndT, dOrT, dB, dIf, dChain, dTup, dCons, dNil, dLst, dLstB, dCB, dCall, dCallK, dImm, dYes, a1, a2, bTup, bLst, bCons, bNil, bName, fSeq, seqOf, fRng1, fRng2, fEn, fZip, zip2, one1, ints1, ints2, asB, asI, negD, addD, subD, modD, ltD, gtD, geD, leD, isND, isnND, intOp, intOpC, lenD_lst, lenD_tup, lenD_frz, len_sD, tupleD, listD, absD, max2D, min2D, allD, isiD, tyN, isiT_tt, isiT_ii, isiT_ib, idxD, lsA, gw, gt, opt_some, opt_none, bd_pu, bd_fl, bd_bd, chk_true, chk_tt, D.imm, D.imms, D.isN, List.map_cons, List.map_nil, List.length_cons, List.length_nil, List.set_cons_zero, List.set_cons_succ, List.getElem?_cons_zero, List.getElem?_cons_succ, List.getElem?_nil, Option.bind_some, Option.bind_none, Option.join_some, Option.join_none, Option.map_some, Bool.and_true, Bool.true_and, Bool.and_false, Bool.false_and, Bool.not_true, Bool.not_false, Bool.false_eq_true, Bool.true_eq_false, if_true, if_false, ite_true, ite_false, List.cons_append, List.nil_append, List.append_nil, Nat.zero_add, Nat.reduceAdd, Nat.reduceSub, Nat.reduceLeDiff, Int.reduceNeg, List.replicate_succ, List.replicate_zero, true_and, and_true, List.length_map, and_pu, or_pu, tand_pu, tor_pu, idx_0, idx_1, if_tt, if_ff, dSl, dNo, dSo, slD, imm_cD, imm_wD, intsD, sAppIx, sExt, sApp, lsD, sFor, seq_sD, eq_str, ne_str, eq_int, ne_int, nc0, nc1, nc2, nc3, nc4, decide_true, decide_false, ne_eq, not_true_eq_false, Int.reduceEq, not_false_eq_true, Bool.or_false, Bool.or_true, Bool.false_or, Bool.true_or, List.all_cons, List.all_nil, id_eq, chD_app, idx_last, sD, yD, em, idx_int hv', idx_w hv, i1]
      simp (decide := true) (implicitDefEqProofs := false) only [bodyD, env0, sSeq, thenF, sIf, sRet, sRetN, sRetV, sSet, sSetN, sExpr, sNil, sAsg, sPar, resD, dV, dC, dOp, dUn, dNot, dAnd, dOr, dNotT, dAndT, dOrT, dB, dIf, dChain, dTup, dCons, dNil, dLst, dLstB, dCB, dCall, dCallK, dImm, dYes, a1, a2, bTup, bLst, bCons, bNil, bName, fSeq, seqOf, fRng1, fRng2, fEn, fZip, zip2, one1, ints1, ints2, asB, asI, negD, addD, subD, modD, ltD, gtD, geD, leD, isND, isnND, intOp, intOpC, lenD_lst, lenD_tup, lenD_frz, len_sD, tupleD, listD, absD, max2D, min2D, allD, isiD, tyN, isiT_tt, isiT_ii, isiT_ib, idxD, lsA, gw, gt, opt_some, opt_none, bd_pu, bd_fl, bd_bd, chk_true, chk_tt, D.imm, D.imms, D.isN, List.map_cons, List.map_nil, List.length_cons, List.length_nil, List.set_cons_zero, List.set_cons_succ, List.getElem?_cons_zero, List.getElem?_cons_succ, List.getElem?_nil, Option.bind_some, Option.bind_none, Option.join_some, Option.join_none, Option.map_some, Bool.and_true, Bool.true_and, Bool.and_false, Bool.false_and, Bool.not_true, Bool.not_false, Bool.false_eq_true, Bool.true_eq_false, if_true, if_false, ite_true, ite_false, List.cons_append, List.nil_append, List.append_nil, Nat.zero_add, Nat.reduceAdd, Nat.reduceSub, Nat.reduceLeDiff, Int.reduceNeg, List.replicate_succ, List.replicate_zero, true_and, and_true, List.length_map, and_pu, or_pu, tand_pu, tor_pu, idx_0, idx_1, if_tt, if_ff, dSl, dNo, dSo, slD, imm_cD, imm_wD, intsD, sAppIx, sExt, sApp, lsD, sFor, seq_sD, eq_str, ne_str, eq_int, ne_int, nc0, nc1, nc2, nc3, nc4, decide_true, decide_false, ne_eq, not_true_eq_false, Int.reduceEq, not_false_eq_true, Bool.or_false, Bool.or_true, Bool.false_or, Bool.true_or, List.all_cons, List.all_nil, id_eq, wD, i2, hw', eh, ecm, ef, ijD, hko, lc, ic]
      exact ⟨_, _, _, rfl⟩
    obtain ⟨x', y', z', e2⟩ := e2
    have ih' := ih hk (pre ++ [v]) x' y' z' (by simp at hl ⊢; omega)
    show Ens (whN lT lG (l.length + 1 + 1) _) _
    rw [whN_succ, e1, bd_pu, if_pos rfl, e2, bd_pu, again_nx]
    have e3 : pre ++ v :: l = pre ++ [v] ++ l := by simp
    rw [e3]
    exact ih'
end K14
namespace K14
open PySem L2 DL CY DC
/-! ### the law's farthest places -/
theorem setm (F : List Int) (k : Nat) (x : Int) : (F.map D.int).set k (D.int x) = (F.set k x).map D.int := List.map_set.symm
theorem idx_set {F : List Int} {k : Nat} (h : k < F.length) (j : Nat) (x : Int) : idxL ((F.set j x).map D.int) (k : Int) = pu (.int ((F.set j x).getD k 0)) := idx_int (by rw [List.length_set]; exact h)
theorem ixN_set {F : List Int} {k : Nat} (h : k < F.length) (j : Nat) (x : Int) : L2.ixN (F.set j x).length (k : Int) = some k := ixN_nat (by rw [List.length_set]; exact h)
def fB : DL.Env → DL.W (Fl × DL.Env) := (sIf (dB (dOp gtD (dV 1) (dC (.int 0)))) (sSeq (sPut 2 (dV 5) (dCB (a2 min2D) (dCons (dOp idxD (dV 2) (dV 5)) (dCons (dOp addD (dOp idxD (dV 2) (dV 4)) (dV 7)) dNil)))) (sPut 2 (dV 4) (dCB (a2 min2D) (dCons (dOp idxD (dV 2) (dV 4)) (dCons (dOp subD (dOp idxD (dV 2) (dV 5)) (dV 6)) dNil))))) (sSeq (sPut 2 (dV 5) (dCB (a2 max2D) (dCons (dOp idxD (dV 2) (dV 5)) (dCons (dOp addD (dOp idxD (dV 2) (dV 4)) (dV 6)) dNil)))) (sPut 2 (dV 4) (dCB (a2 max2D) (dCons (dOp idxD (dV 2) (dV 4)) (dCons (dOp subD (dOp idxD (dV 2) (dV 5)) (dV 7)) dNil))))))
theorem rel1_pos (F : List Int) (c : Cp) : rel1 1 F c = (F.set c.j (if F.getD c.i 0 + c.hi < F.getD c.j 0 then F.getD c.i 0 + c.hi else F.getD c.j 0)).set c.i (if (F.set c.j (if F.getD c.i 0 + c.hi < F.getD c.j 0 then F.getD c.i 0 + c.hi else F.getD c.j 0)).getD c.j 0 - c.lo < (F.set c.j (if F.getD c.i 0 + c.hi < F.getD c.j 0 then F.getD c.i 0 + c.hi else F.getD c.j 0)).getD c.i 0 then (F.set c.j (if F.getD c.i 0 + c.hi < F.getD c.j 0 then F.getD c.i 0 + c.hi else F.getD c.j 0)).getD c.j 0 - c.lo else (F.set c.j (if F.getD c.i 0 + c.hi < F.getD c.j 0 then F.getD c.i 0 + c.hi else F.getD c.j 0)).getD c.i 0) := rfl
theorem rel1_neg (F : List Int) (c : Cp) : rel1 (-1) F c = (F.set c.j (if F.getD c.i 0 + c.lo > F.getD c.j 0 then F.getD c.i 0 + c.lo else F.getD c.j 0)).set c.i (if (F.set c.j (if F.getD c.i 0 + c.lo > F.getD c.j 0 then F.getD c.i 0 + c.lo else F.getD c.j 0)).getD c.j 0 - c.hi > (F.set c.j (if F.getD c.i 0 + c.lo > F.getD c.j 0 then F.getD c.i 0 + c.lo else F.getD c.j 0)).getD c.i 0 then (F.set c.j (if F.getD c.i 0 + c.lo > F.getD c.j 0 then F.getD c.i 0 + c.lo else F.getD c.j 0)).getD c.j 0 - c.hi else (F.set c.j (if F.getD c.i 0 + c.lo > F.getD c.j 0 then F.getD c.i 0 + c.lo else F.getD c.j 0)).getD c.i 0) := rfl
theorem e_fB {F : List Int} {c : Cp} {g : Int} (hg : g = -1 ∨ g = 1) (hi : c.i < F.length) (hj : c.j < F.length) (a t z : Option D) :
    fB [a, some (.int g), some (.lst (F.map D.int)), t, some (.int c.i), some (.int c.j), some (.int c.lo), some (.int c.hi), z] = pu (.nx, [a, some (.int g), some (.lst ((rel1 g F c).map D.int)), t, some (.int c.i), some (.int c.j), some (.int c.lo), some (.int c.hi), z]) := by
  unfold fB
  rcases hg with rfl | rfl
  · rw [rel1_neg]
    simp (decide := true) (implicitDefEqProofs := false) only [bodyD, env0, sSeq, thenF, sIf, sRet, sRetN, sRetV, sSet, sSetN, sExpr, sNil, sAsg, sPar, resD, dV, dC, dOp, dUn, dNot, dAnd, dOr, dNotT, dAndT, dOrT, dB, dIf, dChain, dTup, dCons, dNil, dLst, dLstB, dCB, dCall, dCallK, dImm, dYes, a1, a2, bTup, bLst, bCons, bNil, bName, fSeq, seqOf, fRng1, fRng2, fEn, fZip, zip2, one1, ints1, ints2, asB, asI, negD, addD, subD, modD, ltD, gtD, geD, leD, isND, isnND, intOp, intOpC, lenD_lst, lenD_tup, lenD_frz, len_sD, tupleD, listD, absD, max2D, min2D, allD, isiD, tyN, isiT_tt, isiT_ii, isiT_ib, idxD, lsA, gw, gt, opt_some, opt_none, bd_pu, bd_fl, bd_bd, chk_true, chk_tt, D.imm, D.imms, D.isN, List.map_cons, List.map_nil, List.length_cons, List.length_nil, List.set_cons_zero, List.set_cons_succ, List.getElem?_cons_zero, List.getElem?_cons_succ, List.getElem?_nil, Option.bind_some, Option.bind_none, Option.join_some, Option.join_none, Option.map_some, Bool.and_true, Bool.true_and, Bool.and_false, Bool.false_and, Bool.not_true, Bool.not_false, Bool.false_eq_true, Bool.true_eq_false, if_true, if_false, ite_true, ite_false, List.cons_append, List.nil_append, List.append_nil, Nat.zero_add, Nat.reduceAdd, Nat.reduceSub, Nat.reduceLeDiff, Int.reduceNeg, List.replicate_succ, List.replicate_zero, true_and, and_true, List.length_map, and_pu, or_pu, tand_pu, tor_pu, idx_0, idx_1, if_tt, if_ff, dSl, dNo, dSo, slD, imm_cD, imm_wD, intsD, sAppIx, sExt, sApp, lsD, sFor, seq_sD, eq_str, ne_str, eq_int, ne_int, nc0, nc1, nc2, nc3, nc4, decide_true, decide_false, ne_eq, not_true_eq_false, Int.reduceEq, not_false_eq_true, Bool.or_false, Bool.or_true, Bool.false_or, Bool.true_or, List.all_cons, List.all_nil, id_eq, sPut, idx_int hi, idx_int hj, ixN_nat hi, ixN_nat hj, setm, idx_set hi, idx_set hj, ixN_set hi, ixN_set hj, imms_int]
  · rw [rel1_pos]
    simp (decide := true) (implicitDefEqProofs := false) only [bodyD, env0, sSeq, thenF, sIf, sRet, sRetN, sRetV, sSet, sSetN, sExpr, sNil, sAsg, sPar, resD, dV, dC, dOp, dUn, dNot, dAnd, dOr, dNotT, dAndT, dOrT, dB, dIf, dChain, dTup, dCons, dNil, dLst, dLstB, dCB, dCall, dCallK, dImm, dYes, a1, a2, bTup, bLst, bCons, bNil, bName, fSeq, seqOf, fRng1, fRng2, fEn, fZip, zip2, one1, ints1, ints2, asB, asI, negD, addD, subD, modD, ltD, gtD, geD, leD, isND, isnND, intOp, intOpC, lenD_lst, lenD_tup, lenD_frz, len_sD, tupleD, listD, absD, max2D, min2D, allD, isiD, tyN, isiT_tt, isiT_ii, isiT_ib, idxD, lsA, gw, gt, opt_some, opt_none, bd_pu, bd_fl, bd_bd, chk_true, chk_tt, D.imm, D.imms, D.isN, List.map_cons, List.map_nil, List.length_cons, List.length_nil, List.set_cons_zero, List.set_cons_succ, List.getElem?_cons_zero, List.getElem?_cons_succ, List.getElem?_nil, Option.bind_some, Option.bind_none, Option.join_some, Option.join_none, Option.map_some, Bool.and_true, Bool.true_and, Bool.and_false, Bool.false_and, Bool.not_true, Bool.not_false, Bool.false_eq_true, Bool.true_eq_false, if_true, if_false, ite_true, ite_false, List.cons_append, List.nil_append, List.append_nil, Nat.zero_add, Nat.reduceAdd, Nat.reduceSub, Nat.reduceLeDiff, Int.reduceNeg, List.replicate_succ, List.replicate_zero, true_and, and_true, List.length_map, and_pu, or_pu, tand_pu, tor_pu, idx_0, idx_1, if_tt, if_ff, dSl, dNo, dSo, slD, imm_cD, imm_wD, intsD, sAppIx, sExt, sApp, lsD, sFor, seq_sD, eq_str, ne_str, eq_int, ne_int, nc0, nc1, nc2, nc3, nc4, decide_true, decide_false, ne_eq, not_true_eq_false, Int.reduceEq, not_false_eq_true, Bool.or_false, Bool.or_true, Bool.false_or, Bool.true_or, List.all_cons, List.all_nil, id_eq, sPut, idx_int hi, idx_int hj, ixN_nat hi, ixN_nat hj, setm, idx_set hi, idx_set hj, ixN_set hi, ixN_set hj, imms_int]
theorem relR_take {g : Int} {cs : List Cp} {i : Nat} {c : Cp} (F : List Int) (h : cs[i]? = some c) : rel1 g (relR g (cs.take i) F) c = relR g (cs.take (i + 1)) F := by
  unfold relR
  rw [List.take_add_one, List.foldl_append, h]
  rfl
theorem e_far {ws : List (Int × Int)} {cs : List Cp} {g : Int} (hg : g = -1 ∨ g = 1) (V : VY ws cs) : F__law_far [yD ws cs, .int g] = pu (sD (rds g cs (ws.map fun w => wallOf w g) ws.length)) := by
  unfold F__law_far g__law_far
  have n40 := V.n40
  have hn : -(2 ^ 62) ≤ ((ws.length : Nat) : Int) ∧ ((ws.length : Nat) : Int) < 2 ^ 62 := by omega
  simp (decide := true) (implicitDefEqProofs := false) only [bodyD, env0, sSeq, thenF, sIf, sRet, sRetN, sRetV, sSet, sSetN, sExpr, sNil, sAsg, sPar, resD, dV, dC, dOp, dUn, dNot, dAnd, dOr, dNotT, dAndT, dOrT, dB, dIf, dChain, dTup, dCons, dNil, dLst, dLstB, dCB, dCall, dCallK, dImm, dYes, a1, a2, bTup, bLst, bCons, bNil, bName, fSeq, seqOf, fRng1, fRng2, fEn, fZip, zip2, one1, ints1, ints2, asB, asI, negD, addD, subD, modD, ltD, gtD, geD, leD, isND, isnND, intOp, intOpC, lenD_lst, lenD_tup, lenD_frz, len_sD, tupleD, listD, absD, max2D, min2D, allD, isiD, tyN, isiT_tt, isiT_ii, isiT_ib, idxD, lsA, gw, gt, opt_some, opt_none, bd_pu, bd_fl, bd_bd, chk_true, chk_tt, D.imm, D.imms, D.isN, List.map_cons, List.map_nil, List.length_cons, List.length_nil, List.set_cons_zero, List.set_cons_succ, List.getElem?_cons_zero, List.getElem?_cons_succ, List.getElem?_nil, Option.bind_some, Option.bind_none, Option.join_some, Option.join_none, Option.map_some, Bool.and_true, Bool.true_and, Bool.and_false, Bool.false_and, Bool.not_true, Bool.not_false, Bool.false_eq_true, Bool.true_eq_false, if_true, if_false, ite_true, ite_false, List.cons_append, List.nil_append, List.append_nil, Nat.zero_add, Nat.reduceAdd, Nat.reduceSub, Nat.reduceLeDiff, Int.reduceNeg, List.replicate_succ, List.replicate_zero, true_and, and_true, List.length_map, and_pu, or_pu, tand_pu, tor_pu, idx_0, idx_1, if_tt, if_ff, dSl, dNo, dSo, slD, imm_cD, imm_wD, intsD, sAppIx, sExt, sApp, lsD, sFor, seq_sD, eq_str, ne_str, eq_int, ne_int, nc0, nc1, nc2, nc3, nc4, decide_true, decide_false, ne_eq, not_true_eq_false, Int.reduceEq, not_false_eq_true, Bool.or_false, Bool.or_true, Bool.false_or, Bool.true_or, List.all_cons, List.all_nil, id_eq, dLc, wipeE, yD, imms_wD]
  rw [lc_map (fun d => match d with | .tup [.int a, .int b] => D.int (wallOf (a, b) g) | _ => .non) (ws.map wD) (by rw [List.length_map]; exact small (by omega)) (fun d q => by
    obtain ⟨w, _, rfl⟩ := List.mem_map.mp q
    obtain ⟨i1, i2⟩ := wall_idx w hg
    refine ⟨_, by simp (decide := true) (implicitDefEqProofs := false) only [bodyD, env0, sSeq, thenF, sIf, sRet, sRetN, sRetV, sSet, sSetN, sExpr, sNil, sAsg, sPar, resD, dV, dC, dOp, dUn, dNot, dAnd, dOr, dNotT, dAndT, dOrT, dB, dIf, dChain, dTup, dCons, dNil, dLst, dLstB, dCB, dCall, dCallK, dImm, dYes, a1, a2, bTup, bLst, bCons, bNil, bName, fSeq, seqOf, fRng1, fRng2, fEn, fZip, zip2, one1, ints1, ints2, asB, asI, negD, addD, subD, modD, ltD, gtD, geD, leD, isND, isnND, intOp, intOpC, lenD_lst, lenD_tup, lenD_frz, len_sD, tupleD, listD, absD, max2D, min2D, allD, isiD, tyN, isiT_tt, isiT_ii, isiT_ib, idxD, lsA, gw, gt, opt_some, opt_none, bd_pu, bd_fl, bd_bd, chk_true, chk_tt, D.imm, D.imms, D.isN, List.map_cons, List.map_nil, List.length_cons, List.length_nil, List.set_cons_zero, List.set_cons_succ, List.getElem?_cons_zero, List.getElem?_cons_succ, List.getElem?_nil, Option.bind_some, Option.bind_none, Option.join_some, Option.join_none, Option.map_some, Bool.and_true, Bool.true_and, Bool.and_false, Bool.false_and, Bool.not_true, Bool.not_false, Bool.false_eq_true, Bool.true_eq_false, if_true, if_false, ite_true, ite_false, List.cons_append, List.nil_append, List.append_nil, Nat.zero_add, Nat.reduceAdd, Nat.reduceSub, Nat.reduceLeDiff, Int.reduceNeg, List.replicate_succ, List.replicate_zero, true_and, and_true, List.length_map, and_pu, or_pu, tand_pu, tor_pu, idx_0, idx_1, if_tt, if_ff, dSl, dNo, dSo, slD, imm_cD, imm_wD, intsD, sAppIx, sExt, sApp, lsD, sFor, seq_sD, eq_str, ne_str, eq_int, ne_int, nc0, nc1, nc2, nc3, nc4, decide_true, decide_false, ne_eq, not_true_eq_false, Int.reduceEq, not_false_eq_true, Bool.or_false, Bool.or_true, Bool.false_or, Bool.true_or, List.all_cons, List.all_nil, id_eq]; rfl, ?_, rfl⟩
    simp (decide := true) (implicitDefEqProofs := false) only [bodyD, env0, sSeq, thenF, sIf, sRet, sRetN, sRetV, sSet, sSetN, sExpr, sNil, sAsg, sPar, resD, dV, dC, dOp, dUn, dNot, dAnd, dOr, dNotT, dAndT, dOrT, dB, dIf, dChain, dTup, dCons, dNil, dLst, dLstB, dCB, dCall, dCallK, dImm, dYes, a1, a2, bTup, bLst, bCons, bNil, bName, fSeq, seqOf, fRng1, fRng2, fEn, fZip, zip2, one1, ints1, ints2, asB, asI, negD, addD, subD, modD, ltD, gtD, geD, leD, isND, isnND, intOp, intOpC, lenD_lst, lenD_tup, lenD_frz, len_sD, tupleD, listD, absD, max2D, min2D, allD, isiD, tyN, isiT_tt, isiT_ii, isiT_ib, idxD, lsA, gw, gt, opt_some, opt_none, bd_pu, bd_fl, bd_bd, chk_true, chk_tt, D.imm, D.imms, D.isN, List.map_cons, List.map_nil, List.length_cons, List.length_nil, List.set_cons_zero, List.set_cons_succ, List.getElem?_cons_zero, List.getElem?_cons_succ, List.getElem?_nil, Option.bind_some, Option.bind_none, Option.join_some, Option.join_none, Option.map_some, Bool.and_true, Bool.true_and, Bool.and_false, Bool.false_and, Bool.not_true, Bool.not_false, Bool.false_eq_true, Bool.true_eq_false, if_true, if_false, ite_true, ite_false, List.cons_append, List.nil_append, List.append_nil, Nat.zero_add, Nat.reduceAdd, Nat.reduceSub, Nat.reduceLeDiff, Int.reduceNeg, List.replicate_succ, List.replicate_zero, true_and, and_true, List.length_map, and_pu, or_pu, tand_pu, tor_pu, idx_0, idx_1, if_tt, if_ff, dSl, dNo, dSo, slD, imm_cD, imm_wD, intsD, sAppIx, sExt, sApp, lsD, sFor, seq_sD, eq_str, ne_str, eq_int, ne_int, nc0, nc1, nc2, nc3, nc4, decide_true, decide_false, ne_eq, not_true_eq_false, Int.reduceEq, not_false_eq_true, Bool.or_false, Bool.or_true, Bool.false_or, Bool.true_or, List.all_cons, List.all_nil, id_eq, i1]
    simp (decide := true) (implicitDefEqProofs := false) only [bodyD, env0, sSeq, thenF, sIf, sRet, sRetN, sRetV, sSet, sSetN, sExpr, sNil, sAsg, sPar, resD, dV, dC, dOp, dUn, dNot, dAnd, dOr, dNotT, dAndT, dOrT, dB, dIf, dChain, dTup, dCons, dNil, dLst, dLstB, dCB, dCall, dCallK, dImm, dYes, a1, a2, bTup, bLst, bCons, bNil, bName, fSeq, seqOf, fRng1, fRng2, fEn, fZip, zip2, one1, ints1, ints2, asB, asI, negD, addD, subD, modD, ltD, gtD, geD, leD, isND, isnND, intOp, intOpC, lenD_lst, lenD_tup, lenD_frz, len_sD, tupleD, listD, absD, max2D, min2D, allD, isiD, tyN, isiT_tt, isiT_ii, isiT_ib, idxD, lsA, gw, gt, opt_some, opt_none, bd_pu, bd_fl, bd_bd, chk_true, chk_tt, D.imm, D.imms, D.isN, List.map_cons, List.map_nil, List.length_cons, List.length_nil, List.set_cons_zero, List.set_cons_succ, List.getElem?_cons_zero, List.getElem?_cons_succ, List.getElem?_nil, Option.bind_some, Option.bind_none, Option.join_some, Option.join_none, Option.map_some, Bool.and_true, Bool.true_and, Bool.and_false, Bool.false_and, Bool.not_true, Bool.not_false, Bool.false_eq_true, Bool.true_eq_false, if_true, if_false, ite_true, ite_false, List.cons_append, List.nil_append, List.append_nil, Nat.zero_add, Nat.reduceAdd, Nat.reduceSub, Nat.reduceLeDiff, Int.reduceNeg, List.replicate_succ, List.replicate_zero, true_and, and_true, List.length_map, and_pu, or_pu, tand_pu, tor_pu, idx_0, idx_1, if_tt, if_ff, dSl, dNo, dSo, slD, imm_cD, imm_wD, intsD, sAppIx, sExt, sApp, lsD, sFor, seq_sD, eq_str, ne_str, eq_int, ne_int, nc0, nc1, nc2, nc3, nc4, decide_true, decide_false, ne_eq, not_true_eq_false, Int.reduceEq, not_false_eq_true, Bool.or_false, Bool.or_true, Bool.false_or, Bool.true_or, List.all_cons, List.all_nil, id_eq, wD, i2])]
  have e : (ws.map wD).map (fun d => match d with | .tup [.int a, .int b] => D.int (wallOf (a, b) g) | _ => .non) = (ws.map fun w => wallOf w g).map D.int := by
    rw [List.map_map, List.map_map]
    rfl
  rw [e]
  simp (decide := true) (implicitDefEqProofs := false) only [bodyD, env0, sSeq, thenF, sIf, sRet, sRetN, sRetV, sSet, sSetN, sExpr, sNil, sAsg, sPar, resD, dV, dC, dOp, dUn, dNot, dAnd, dOr, dNotT, dAndT, dOrT, dB, dIf, dChain, dTup, dCons, dNil, dLst, dLstB, dCB, dCall, dCallK, dImm, dYes, a1, a2, bTup, bLst, bCons, bNil, bName, fSeq, seqOf, fRng1, fRng2, fEn, fZip, zip2, one1, ints1, ints2, asB, asI, negD, addD, subD, modD, ltD, gtD, geD, leD, isND, isnND, intOp, intOpC, lenD_lst, lenD_tup, lenD_frz, len_sD, tupleD, listD, absD, max2D, min2D, allD, isiD, tyN, isiT_tt, isiT_ii, isiT_ib, idxD, lsA, gw, gt, opt_some, opt_none, bd_pu, bd_fl, bd_bd, chk_true, chk_tt, D.imm, D.imms, D.isN, List.map_cons, List.map_nil, List.length_cons, List.length_nil, List.set_cons_zero, List.set_cons_succ, List.getElem?_cons_zero, List.getElem?_cons_succ, List.getElem?_nil, Option.bind_some, Option.bind_none, Option.join_some, Option.join_none, Option.map_some, Bool.and_true, Bool.true_and, Bool.and_false, Bool.false_and, Bool.not_true, Bool.not_false, Bool.false_eq_true, Bool.true_eq_false, if_true, if_false, ite_true, ite_false, List.cons_append, List.nil_append, List.append_nil, Nat.zero_add, Nat.reduceAdd, Nat.reduceSub, Nat.reduceLeDiff, Int.reduceNeg, List.replicate_succ, List.replicate_zero, true_and, and_true, List.length_map, and_pu, or_pu, tand_pu, tor_pu, idx_0, idx_1, if_tt, if_ff, dSl, dNo, dSo, slD, imm_cD, imm_wD, intsD, sAppIx, sExt, sApp, lsD, sFor, seq_sD, eq_str, ne_str, eq_int, ne_int, nc0, nc1, nc2, nc3, nc4, decide_true, decide_false, ne_eq, not_true_eq_false, Int.reduceEq, not_false_eq_true, Bool.or_false, Bool.or_true, Bool.false_or, Bool.true_or, List.all_cons, List.all_nil, id_eq, chk_pos hn, Int.toNat_natCast]
  refine bd_for (fun i δ => ∃ x a b c d e : Option D, δ = [some (.tup [.tup (ws.map wD), .tup (cs.map cD)]), some (.int g), some (.lst ((rds g cs (ws.map fun w => wallOf w g) i).map D.int)), x, a, b, c, d, e]) ⟨_, _, _, _, _, _, rfl⟩ ?_ ?_
  · rintro i d δ hd ⟨x, a, b, c, d', e, rfl⟩
    obtain ⟨hi, rfl⟩ := rngD_at hd
    simp (decide := true) (implicitDefEqProofs := false) only [bodyD, env0, sSeq, thenF, sIf, sRet, sRetN, sRetV, sSet, sSetN, sExpr, sNil, sAsg, sPar, resD, dV, dC, dOp, dUn, dNot, dAnd, dOr, dNotT, dAndT, dOrT, dB, dIf, dChain, dTup, dCons, dNil, dLst, dLstB, dCB, dCall, dCallK, dImm, dYes, a1, a2, bTup, bLst, bCons, bNil, bName, fSeq, seqOf, fRng1, fRng2, fEn, fZip, zip2, one1, ints1, ints2, asB, asI, negD, addD, subD, modD, ltD, gtD, geD, leD, isND, isnND, intOp, intOpC, lenD_lst, lenD_tup, lenD_frz, len_sD, tupleD, listD, absD, max2D, min2D, allD, isiD, tyN, isiT_tt, isiT_ii, isiT_ib, idxD, lsA, gw, gt, opt_some, opt_none, bd_pu, bd_fl, bd_bd, chk_true, chk_tt, D.imm, D.imms, D.isN, List.map_cons, List.map_nil, List.length_cons, List.length_nil, List.set_cons_zero, List.set_cons_succ, List.getElem?_cons_zero, List.getElem?_cons_succ, List.getElem?_nil, Option.bind_some, Option.bind_none, Option.join_some, Option.join_none, Option.map_some, Bool.and_true, Bool.true_and, Bool.and_false, Bool.false_and, Bool.not_true, Bool.not_false, Bool.false_eq_true, Bool.true_eq_false, if_true, if_false, ite_true, ite_false, List.cons_append, List.nil_append, List.append_nil, Nat.zero_add, Nat.reduceAdd, Nat.reduceSub, Nat.reduceLeDiff, Int.reduceNeg, List.replicate_succ, List.replicate_zero, true_and, and_true, List.length_map, and_pu, or_pu, tand_pu, tor_pu, idx_0, idx_1, if_tt, if_ff, dSl, dNo, dSo, slD, imm_cD, imm_wD, intsD, sAppIx, sExt, sApp, lsD, sFor, seq_sD, eq_str, ne_str, eq_int, ne_int, nc0, nc1, nc2, nc3, nc4, decide_true, decide_false, ne_eq, not_true_eq_false, Int.reduceEq, not_false_eq_true, Bool.or_false, Bool.or_true, Bool.false_or, Bool.true_or, List.all_cons, List.all_nil, id_eq, imms_cD]
    obtain ⟨δ', e', I⟩ := for_ex (h := bTup 4 (bCons (bName 4) (bCons (bName 5) (bCons (bName 6) (bCons (bName 7) bNil))))) (g := fB) (ds := cs.map cD) (δ := [some (.tup [.tup (ws.map wD), .tup (cs.map cD)]), some (.int g), some (.lst ((rds g cs (ws.map fun w => wallOf w g) i).map D.int)), some (.int i), a, b, c, d', e])
      (fun k δ => ∃ x a b c d e : Option D, δ = [some (.tup [.tup (ws.map wD), .tup (cs.map cD)]), some (.int g), some (.lst ((relR g (cs.take k) (rds g cs (ws.map fun w => wallOf w g) i)).map D.int)), x, a, b, c, d, e]) ⟨_, _, _, _, _, _, rfl⟩ (by
        rintro k d δ hd ⟨x, a, b, c', d', e, rfl⟩
        obtain ⟨c, hc, rfl⟩ := map_at cD cs hd
        obtain ⟨c1, c2, _⟩ := V.cok c (List.mem_of_getElem? hc)
        have hl : (relR g (cs.take k) (rds g cs (ws.map fun w => wallOf w g) i)).length = ws.length := by rw [relR_len, rds_len, List.length_map]
        have e1 : bTup 4 (bCons (bName 4) (bCons (bName 5) (bCons (bName 6) (bCons (bName 7) bNil)))) (cD c) [some (.tup [.tup (ws.map wD), .tup (cs.map cD)]), some (.int g), some (.lst ((relR g (cs.take k) (rds g cs (ws.map fun w => wallOf w g) i)).map D.int)), x, a, b, c', d', e] = pu [some (.tup [.tup (ws.map wD), .tup (cs.map cD)]), some (.int g), some (.lst ((relR g (cs.take k) (rds g cs (ws.map fun w => wallOf w g) i)).map D.int)), x, some (.int c.i), some (.int c.j), some (.int c.lo), some (.int c.hi), e] := by simp (decide := true) (implicitDefEqProofs := false) only [bodyD, env0, sSeq, thenF, sIf, sRet, sRetN, sRetV, sSet, sSetN, sExpr, sNil, sAsg, sPar, resD, dV, dC, dOp, dUn, dNot, dAnd, dOr, dNotT, dAndT, dOrT, dB, dIf, dChain, dTup, dCons, dNil, dLst, dLstB, dCB, dCall, dCallK, dImm, dYes, a1, a2, bTup, bLst, bCons, bNil, bName, fSeq, seqOf, fRng1, fRng2, fEn, fZip, zip2, one1, ints1, ints2, asB, asI, negD, addD, subD, modD, ltD, gtD, geD, leD, isND, isnND, intOp, intOpC, lenD_lst, lenD_tup, lenD_frz, len_sD, tupleD, listD, absD, max2D, min2D, allD, isiD, tyN, isiT_tt, isiT_ii, isiT_ib, idxD, lsA, gw, gt, opt_some, opt_none, bd_pu, bd_fl, bd_bd, chk_true, chk_tt, D.imm, D.imms, D.isN, List.map_cons, List.map_nil, List.length_cons, List.length_nil, List.set_cons_zero, List.set_cons_succ, List.getElem?_cons_zero, List.getElem?_cons_succ, List.getElem?_nil, Option.bind_some, Option.bind_none, Option.join_some, Option.join_none, Option.map_some, Bool.and_true, Bool.true_and, Bool.and_false, Bool.false_and, Bool.not_true, Bool.not_false, Bool.false_eq_true, Bool.true_eq_false, if_true, if_false, ite_true, ite_false, List.cons_append, List.nil_append, List.append_nil, Nat.zero_add, Nat.reduceAdd, Nat.reduceSub, Nat.reduceLeDiff, Int.reduceNeg, List.replicate_succ, List.replicate_zero, true_and, and_true, List.length_map, and_pu, or_pu, tand_pu, tor_pu, idx_0, idx_1, if_tt, if_ff, dSl, dNo, dSo, slD, imm_cD, imm_wD, intsD, sAppIx, sExt, sApp, lsD, sFor, seq_sD, eq_str, ne_str, eq_int, ne_int, nc0, nc1, nc2, nc3, nc4, decide_true, decide_false, ne_eq, not_true_eq_false, Int.reduceEq, not_false_eq_true, Bool.or_false, Bool.or_true, Bool.false_or, Bool.true_or, List.all_cons, List.all_nil, id_eq, cD]
        rw [e1, bd_pu, e_fB hg (by rw [hl]; omega) (by rw [hl]; omega), relR_take _ hc]
        exact ⟨_, rfl, _, _, _, _, _, _, rfl⟩)
    obtain ⟨x, a, b, c, d, e, rfl⟩ := I
    rw [List.length_map, List.take_length] at e'
    exact ⟨_, e', _, _, _, _, _, _, rfl⟩
  · rintro δ' ⟨x, a, b, c, d, e, rfl⟩
    rw [rngD_len]
    simp (decide := true) (implicitDefEqProofs := false) only [bodyD, env0, sSeq, thenF, sIf, sRet, sRetN, sRetV, sSet, sSetN, sExpr, sNil, sAsg, sPar, resD, dV, dC, dOp, dUn, dNot, dAnd, dOr, dNotT, dAndT, dOrT, dB, dIf, dChain, dTup, dCons, dNil, dLst, dLstB, dCB, dCall, dCallK, dImm, dYes, a1, a2, bTup, bLst, bCons, bNil, bName, fSeq, seqOf, fRng1, fRng2, fEn, fZip, zip2, one1, ints1, ints2, asB, asI, negD, addD, subD, modD, ltD, gtD, geD, leD, isND, isnND, intOp, intOpC, lenD_lst, lenD_tup, lenD_frz, len_sD, tupleD, listD, absD, max2D, min2D, allD, isiD, tyN, isiT_tt, isiT_ii, isiT_ib, idxD, lsA, gw, gt, opt_some, opt_none, bd_pu, bd_fl, bd_bd, chk_true, chk_tt, D.imm, D.imms, D.isN, List.map_cons, List.map_nil, List.length_cons, List.length_nil, List.set_cons_zero, List.set_cons_succ, List.getElem?_cons_zero, List.getElem?_cons_succ, List.getElem?_nil, Option.bind_some, Option.bind_none, Option.join_some, Option.join_none, Option.map_some, Bool.and_true, Bool.true_and, Bool.and_false, Bool.false_and, Bool.not_true, Bool.not_false, Bool.false_eq_true, Bool.true_eq_false, if_true, if_false, ite_true, ite_false, List.cons_append, List.nil_append, List.append_nil, Nat.zero_add, Nat.reduceAdd, Nat.reduceSub, Nat.reduceLeDiff, Int.reduceNeg, List.replicate_succ, List.replicate_zero, true_and, and_true, List.length_map, and_pu, or_pu, tand_pu, tor_pu, idx_0, idx_1, if_tt, if_ff, dSl, dNo, dSo, slD, imm_cD, imm_wD, intsD, sAppIx, sExt, sApp, lsD, sFor, seq_sD, eq_str, ne_str, eq_int, ne_int, nc0, nc1, nc2, nc3, nc4, decide_true, decide_false, ne_eq, not_true_eq_false, Int.reduceEq, not_false_eq_true, Bool.or_false, Bool.or_true, Bool.false_or, Bool.true_or, List.all_cons, List.all_nil, id_eq, sD, imms_int]
end K14
namespace K14
open PySem L2 DL CY DC
theorem n_lreason {ws : List (Int × Int)} {cs : List Cp} {ss : List Int} {g : Int} {v : Nat} (V : VY ws cs) (S : VS ws cs ss) (hv : v < ws.length) (hg : g = -1 ∨ g = 1) :
    Ens (F__law_reason [yD ws cs, sD ss, .tup [.int v, .int g]]) fun d => (canB ws cs ss v g = true ∧ d = .non) ∨ (canB ws cs ss v g = false ∧ ∃ l b, Ch ws cs ss g v l b ∧ l.length ≤ cs.length + 1 ∧ d = rsD l b) := by
  unfold F__law_reason g__law_reason
  have hv' : v < ss.length := by rw [S.len]; exact hv
  have h40 : ss.length ≤ 40 := by rw [S.len]; exact V.n40
  have hlm : (mvd ss v g).length = ws.length := by unfold mvd; rw [List.length_set, S.len]
  simp (decide := true) (implicitDefEqProofs := false) only [bodyD, env0, sSeq, thenF, sIf, sRet, sRetN, sRetV, sSet, sSetN, sExpr, sNil, sAsg, sPar, resD, dV, dC, dOp, dUn, dNot, dAnd, dOr, dNotT, dAndT, dOrT, dB, dIf, dChain, dTup, dCons, dNil, dLst, dLstB, dCB, dCall, dCallK, dImm, dYes, a1, a2, bTup, bLst, bCons, bNil, bName, fSeq, seqOf, fRng1, fRng2, fEn, fZip, zip2, one1, ints1, ints2, asB, asI, negD, addD, subD, modD, ltD, gtD, geD, leD, isND, isnND, intOp, intOpC, lenD_lst, lenD_tup, lenD_frz, len_sD, tupleD, listD, absD, max2D, min2D, allD, isiD, tyN, isiT_tt, isiT_ii, isiT_ib, idxD, lsA, gw, gt, opt_some, opt_none, bd_pu, bd_fl, bd_bd, chk_true, chk_tt, D.imm, D.imms, D.isN, List.map_cons, List.map_nil, List.length_cons, List.length_nil, List.set_cons_zero, List.set_cons_succ, List.getElem?_cons_zero, List.getElem?_cons_succ, List.getElem?_nil, Option.bind_some, Option.bind_none, Option.join_some, Option.join_none, Option.map_some, Bool.and_true, Bool.true_and, Bool.and_false, Bool.false_and, Bool.not_true, Bool.not_false, Bool.false_eq_true, Bool.true_eq_false, if_true, if_false, ite_true, ite_false, List.cons_append, List.nil_append, List.append_nil, Nat.zero_add, Nat.reduceAdd, Nat.reduceSub, Nat.reduceLeDiff, Int.reduceNeg, List.replicate_succ, List.replicate_zero, true_and, and_true, List.length_map, and_pu, or_pu, tand_pu, tor_pu, idx_0, idx_1, if_tt, if_ff, dSl, dNo, dSo, slD, imm_cD, imm_wD, intsD, sAppIx, sExt, sApp, lsD, sFor, seq_sD, eq_str, ne_str, eq_int, ne_int, nc0, nc1, nc2, nc3, nc4, decide_true, decide_false, ne_eq, not_true_eq_false, Int.reduceEq, not_false_eq_true, Bool.or_false, Bool.or_true, Bool.false_or, Bool.true_or, List.all_cons, List.all_nil, id_eq, e_moved hv' h40, e_holds V hlm, ← can_iff V S hv hg]
  cases hc : canB ws cs ss v g with
  | true =>
    simp (decide := true) (implicitDefEqProofs := false) only [bodyD, env0, sSeq, thenF, sIf, sRet, sRetN, sRetV, sSet, sSetN, sExpr, sNil, sAsg, sPar, resD, dV, dC, dOp, dUn, dNot, dAnd, dOr, dNotT, dAndT, dOrT, dB, dIf, dChain, dTup, dCons, dNil, dLst, dLstB, dCB, dCall, dCallK, dImm, dYes, a1, a2, bTup, bLst, bCons, bNil, bName, fSeq, seqOf, fRng1, fRng2, fEn, fZip, zip2, one1, ints1, ints2, asB, asI, negD, addD, subD, modD, ltD, gtD, geD, leD, isND, isnND, intOp, intOpC, lenD_lst, lenD_tup, lenD_frz, len_sD, tupleD, listD, absD, max2D, min2D, allD, isiD, tyN, isiT_tt, isiT_ii, isiT_ib, idxD, lsA, gw, gt, opt_some, opt_none, bd_pu, bd_fl, bd_bd, chk_true, chk_tt, D.imm, D.imms, D.isN, List.map_cons, List.map_nil, List.length_cons, List.length_nil, List.set_cons_zero, List.set_cons_succ, List.getElem?_cons_zero, List.getElem?_cons_succ, List.getElem?_nil, Option.bind_some, Option.bind_none, Option.join_some, Option.join_none, Option.map_some, Bool.and_true, Bool.true_and, Bool.and_false, Bool.false_and, Bool.not_true, Bool.not_false, Bool.false_eq_true, Bool.true_eq_false, if_true, if_false, ite_true, ite_false, List.cons_append, List.nil_append, List.append_nil, Nat.zero_add, Nat.reduceAdd, Nat.reduceSub, Nat.reduceLeDiff, Int.reduceNeg, List.replicate_succ, List.replicate_zero, true_and, and_true, List.length_map, and_pu, or_pu, tand_pu, tor_pu, idx_0, idx_1, if_tt, if_ff, dSl, dNo, dSo, slD, imm_cD, imm_wD, intsD, sAppIx, sExt, sApp, lsD, sFor, seq_sD, eq_str, ne_str, eq_int, ne_int, nc0, nc1, nc2, nc3, nc4, decide_true, decide_false, ne_eq, not_true_eq_false, Int.reduceEq, not_false_eq_true, Bool.or_false, Bool.or_true, Bool.false_or, Bool.true_or, List.all_cons, List.all_nil, id_eq]
    exact Ens.pu (.inl rfl)
  | false =>
    simp (decide := true) (implicitDefEqProofs := false) only [bodyD, env0, sSeq, thenF, sIf, sRet, sRetN, sRetV, sSet, sSetN, sExpr, sNil, sAsg, sPar, resD, dV, dC, dOp, dUn, dNot, dAnd, dOr, dNotT, dAndT, dOrT, dB, dIf, dChain, dTup, dCons, dNil, dLst, dLstB, dCB, dCall, dCallK, dImm, dYes, a1, a2, bTup, bLst, bCons, bNil, bName, fSeq, seqOf, fRng1, fRng2, fEn, fZip, zip2, one1, ints1, ints2, asB, asI, negD, addD, subD, modD, ltD, gtD, geD, leD, isND, isnND, intOp, intOpC, lenD_lst, lenD_tup, lenD_frz, len_sD, tupleD, listD, absD, max2D, min2D, allD, isiD, tyN, isiT_tt, isiT_ii, isiT_ib, idxD, lsA, gw, gt, opt_some, opt_none, bd_pu, bd_fl, bd_bd, chk_true, chk_tt, D.imm, D.imms, D.isN, List.map_cons, List.map_nil, List.length_cons, List.length_nil, List.set_cons_zero, List.set_cons_succ, List.getElem?_cons_zero, List.getElem?_cons_succ, List.getElem?_nil, Option.bind_some, Option.bind_none, Option.join_some, Option.join_none, Option.map_some, Bool.and_true, Bool.true_and, Bool.and_false, Bool.false_and, Bool.not_true, Bool.not_false, Bool.false_eq_true, Bool.true_eq_false, if_true, if_false, ite_true, ite_false, List.cons_append, List.nil_append, List.append_nil, Nat.zero_add, Nat.reduceAdd, Nat.reduceSub, Nat.reduceLeDiff, Int.reduceNeg, List.replicate_succ, List.replicate_zero, true_and, and_true, List.length_map, and_pu, or_pu, tand_pu, tor_pu, idx_0, idx_1, if_tt, if_ff, dSl, dNo, dSo, slD, imm_cD, imm_wD, intsD, sAppIx, sExt, sApp, lsD, sFor, seq_sD, eq_str, ne_str, eq_int, ne_int, nc0, nc1, nc2, nc3, nc4, decide_true, decide_false, ne_eq, not_true_eq_false, Int.reduceEq, not_false_eq_true, Bool.or_false, Bool.or_true, Bool.false_or, Bool.true_or, List.all_cons, List.all_nil, id_eq, sPar3, dImm]
    obtain ⟨l, b, hch, hl⟩ := ch_ex V S hg v
    have few := V.few
    have n40 := V.n40
    have hn := n_lchain (v0 := v) V S hg hch hv [] none none none (by simp; omega)
    refine Ens.bd (P := fun r => ∃ x y z, r = (.nx, lE ws cs ss v g l (if b = true then "wall" else "free") x y z)) (fun Q X q => ⟨l.length + 1, hn Q X q⟩) ?_
    rintro r ⟨x, y, z, rfl⟩
    unfold lE
    simp (decide := true) (implicitDefEqProofs := false) only [bodyD, env0, sSeq, thenF, sIf, sRet, sRetN, sRetV, sSet, sSetN, sExpr, sNil, sAsg, sPar, resD, dV, dC, dOp, dUn, dNot, dAnd, dOr, dNotT, dAndT, dOrT, dB, dIf, dChain, dTup, dCons, dNil, dLst, dLstB, dCB, dCall, dCallK, dImm, dYes, a1, a2, bTup, bLst, bCons, bNil, bName, fSeq, seqOf, fRng1, fRng2, fEn, fZip, zip2, one1, ints1, ints2, asB, asI, negD, addD, subD, modD, ltD, gtD, geD, leD, isND, isnND, intOp, intOpC, lenD_lst, lenD_tup, lenD_frz, len_sD, tupleD, listD, absD, max2D, min2D, allD, isiD, tyN, isiT_tt, isiT_ii, isiT_ib, idxD, lsA, gw, gt, opt_some, opt_none, bd_pu, bd_fl, bd_bd, chk_true, chk_tt, D.imm, D.imms, D.isN, List.map_cons, List.map_nil, List.length_cons, List.length_nil, List.set_cons_zero, List.set_cons_succ, List.getElem?_cons_zero, List.getElem?_cons_succ, List.getElem?_nil, Option.bind_some, Option.bind_none, Option.join_some, Option.join_none, Option.map_some, Bool.and_true, Bool.true_and, Bool.and_false, Bool.false_and, Bool.not_true, Bool.not_false, Bool.false_eq_true, Bool.true_eq_false, if_true, if_false, ite_true, ite_false, List.cons_append, List.nil_append, List.append_nil, Nat.zero_add, Nat.reduceAdd, Nat.reduceSub, Nat.reduceLeDiff, Int.reduceNeg, List.replicate_succ, List.replicate_zero, true_and, and_true, List.length_map, and_pu, or_pu, tand_pu, tor_pu, idx_0, idx_1, if_tt, if_ff, dSl, dNo, dSo, slD, imm_cD, imm_wD, intsD, sAppIx, sExt, sApp, lsD, sFor, seq_sD, eq_str, ne_str, eq_int, ne_int, nc0, nc1, nc2, nc3, nc4, decide_true, decide_false, ne_eq, not_true_eq_false, Int.reduceEq, not_false_eq_true, Bool.or_false, Bool.or_true, Bool.false_or, Bool.true_or, List.all_cons, List.all_nil, id_eq, imms_ch]
    exact Ens.pu (.inr ⟨l, b, hch, hl, rfl⟩)
theorem Ch.lt {ws : List (Int × Int)} {cs : List Cp} {ss : List Int} {g : Int} (V : VY ws cs) {v : Nat} {l : List Nat} {b : Bool} (h : Ch ws cs ss g v l b) : v < ws.length → ∀ u ∈ l, u < ws.length := by
  induction h with
  | wall _ => intro hv u hu; rw [List.mem_singleton.mp hu]; exact hv
  | free _ _ => intro hv u hu; rw [List.mem_singleton.mp hu]; exact hv
  | step _ hn _ ih =>
    intro hv u hu
    rcases List.mem_cons.mp hu with e | hu
    · rw [e]; exact hv
    · exact ih (ch_lt V hn) u hu
theorem r_due {l : List Nat} {b : Bool} (hl : l.length ≤ 100) (h : ∀ u ∈ l, u < 1000) : reprD (.lst [rsD l b, rsD l b]) = pu (.str (shD (.lst [rsD l b, rsD l b]))) := by
  have h1 : roks (chD l) = true := rok_ints fun i hi => by
    obtain ⟨u, hu, rfl⟩ := List.mem_map.mp hi
    have := h u hu
    omega
  have h2 : wts (chD l) ≤ 102 * l.length := by
    have := wts_map D.int 101 (fun _ => Nat.le_refl _) (nI l)
    unfold nI at this
    rw [List.length_map] at this
    exact this
  have h3 : dpts (chD l) ≤ 0 := dpts_map D.int 0 (fun _ => Nat.le_refl _) (nI l)
  have e1 : rok (D.str (if b = true then "wall" else "free")) = true := by cases b <;> rfl
  have e2 : wt (D.str (if b = true then "wall" else "free")) = 4 := by cases b <;> rfl
  have e3 : dpt (D.str (if b = true then "wall" else "free")) = 0 := by cases b <;> rfl
  refine e_repr ?_ ?_ ?_
  · cases b <;> simp only [rsD, rok, roks, h1, Bool.and_true] <;> rfl
  · simp only [rsD, dpt, dpts]
    omega
  · have e4 : wts [.tup (chD l), .str (if b = true then "wall" else "free")] = wts (chD l) + 1 + (4 + 1 + 0) := by
      simp only [wts, wt] at e2 ⊢
      rw [e2]
    show wts [.tup (chD l), .str (if b = true then "wall" else "free")] + 1 + (wts [.tup (chD l), .str (if b = true then "wall" else "free")] + 1 + 0) ≤ 500000
    omega
theorem r_nons : reprD (.lst [.non, .non]) = pu (.str (shD (.lst [.non, .non]))) := e_repr rfl (by show (1 : Nat) ≤ 60; decide) (by show (2 : Nat) ≤ 500000; decide)
theorem e_ends {g : Int} (hg : g = -1 ∨ g = 1) (a b : D) : dixD (.dic [.inl (-1), .inl 1] [a, b]) (.int g) = pu (if g = 1 then b else a) := by
  rcases hg with rfl | rfl <;> simp [dixD, asKey, dicAt, opt_some]
theorem far_at {ws : List (Int × Int)} {cs : List Cp} {ss : List Int} {g : Int} {v : Nat} {l : List Nat} (V : VY ws cs) (S : VS ws cs ss) (hv : v < ws.length) (hg : g = -1 ∨ g = 1) (h : Ch ws cs ss g v l true) (hl : l.length ≤ cs.length + 1) : ss.getD v 0 = (rds g cs (ws.map fun w => wallOf w g) ws.length).getD v 0 := by
  have few := V.few
  have hF : ∀ v, v < ws.length → (ws.map fun w => wallOf w g).getD v 0 = wallOf (ws.getD v (0, 0)) g := fun u hu => by
    rw [List.getD_eq_getElem?_getD, List.getElem?_map, getW hu]
    rfl
  have b : Below g ss (ws.map fun w => wallOf w g) := by
    refine ⟨by rw [List.length_map]; exact S.len, fun u hu => ?_⟩
    rw [List.length_map] at hu
    rw [hF u hu]
    have := S.wal u _ (getW hu)
    unfold wallOf
    rcases hg with rfl | rfl
    · rw [if_neg (by decide)]; omega
    · rw [if_pos rfl]; omega
  have h1 := (rds_keeps hg V S (by rw [List.length_map]) b ws.length).2 v (by rw [rds_len, List.length_map]; exact hv)
  have h2 := ch_far hg V S (by rw [List.length_map]) hF h rfl hv ws.length (by omega)
  rcases hg with rfl | rfl <;> omega
/-- the inner loop's body -/
def rG : DL.Env → DL.W (Fl × DL.Env) := (sSeq (sSetN 6 (dCall F__law_reason (dCons (dV 0) (dCons (dV 1) (dCons (dV 5) dNil))))) (sSeq (sSetN 7 (dLst (dCons (dCall F_reason (dCons (dV 0) (dCons (dV 1) (dCons (dV 5) dNil)))) (dCons (dCallK F_reason 0 3 [2, 1, 0] dNil (dCons (dV 5) (dCons (dV 1) (dCons (dV 0) dNil)))) dNil)))) (sSeq (sIf (dB (dOp neS (dCB (a1 reprD) (dCons (dV 7) dNil)) (dCB (a1 reprD) (dCons (dLstB (dCons (dV 6) (dCons (dV 6) dNil))) dNil)))) (sRet (dC (.bl false))) sNil) (sIf (dAndT (dB (dOp isnND (dV 6) (dC .non))) (dAndT (dB (dOp eqS (dOp idxD (dV 6) (dC (.int 1))) (dC (.str "wall")))) (dB (dOp neS (dOp idxD (dV 1) (dV 4)) (dOp idxD (dOp dixD (dV 3) (dOp idxD (dV 5) (dC (.int 1)))) (dV 4)))))) (sRet (dC (.bl false))) sNil))))
def rE (ws : List (Int × Int)) (cs : List Cp) (ss : List Int) (a b c d : Option D) : DL.Env := [some (yD ws cs), some (sD ss), some (.str (shD (.lst [yD ws cs, sD ss]))), some (.dic [.inl (-1), .inl 1] [sD (rds (-1) cs (ws.map fun w => wallOf w (-1)) ws.length), sD (rds 1 cs (ws.map fun w => wallOf w 1) ws.length)]), a, b, c, d]
theorem n_rG {ws : List (Int × Int)} {cs : List Cp} {ss : List Int} {g : Int} {v : Nat} (V : VY ws cs) (S : VS ws cs ss) (hv : v < ws.length) (hg : g = -1 ∨ g = 1) (c d : Option D) :
    Ens (rG (rE ws cs ss (some (.int v)) (some (.tup [.int v, .int g])) c d)) fun r => ∃ δ', r = (.nx, δ') ∧ ∃ b c d, δ' = rE ws cs ss (some (.int v)) b c d := by
  have few := V.few
  have n40 := V.n40
  have hv' : v < ss.length := by rw [S.len]; exact hv
  unfold rG rE
  simp (decide := true) (implicitDefEqProofs := false) only [bodyD, env0, sSeq, thenF, sIf, sRet, sRetN, sRetV, sSet, sSetN, sExpr, sNil, sAsg, sPar, resD, dV, dC, dOp, dUn, dNot, dAnd, dOr, dNotT, dAndT, dOrT, dB, dIf, dChain, dTup, dCons, dNil, dLst, dLstB, dCB, dCall, dCallK, dImm, dYes, a1, a2, bTup, bLst, bCons, bNil, bName, fSeq, seqOf, fRng1, fRng2, fEn, fZip, zip2, one1, ints1, ints2, asB, asI, negD, addD, subD, modD, ltD, gtD, geD, leD, isND, isnND, intOp, intOpC, lenD_lst, lenD_tup, lenD_frz, len_sD, tupleD, listD, absD, max2D, min2D, allD, isiD, tyN, isiT_tt, isiT_ii, isiT_ib, idxD, lsA, gw, gt, opt_some, opt_none, bd_pu, bd_fl, bd_bd, chk_true, chk_tt, D.imm, D.imms, D.isN, List.map_cons, List.map_nil, List.length_cons, List.length_nil, List.set_cons_zero, List.set_cons_succ, List.getElem?_cons_zero, List.getElem?_cons_succ, List.getElem?_nil, Option.bind_some, Option.bind_none, Option.join_some, Option.join_none, Option.map_some, Bool.and_true, Bool.true_and, Bool.and_false, Bool.false_and, Bool.not_true, Bool.not_false, Bool.false_eq_true, Bool.true_eq_false, if_true, if_false, ite_true, ite_false, List.cons_append, List.nil_append, List.append_nil, Nat.zero_add, Nat.reduceAdd, Nat.reduceSub, Nat.reduceLeDiff, Int.reduceNeg, List.replicate_succ, List.replicate_zero, true_and, and_true, List.length_map, and_pu, or_pu, tand_pu, tor_pu, idx_0, idx_1, if_tt, if_ff, dSl, dNo, dSo, slD, imm_cD, imm_wD, intsD, sAppIx, sExt, sApp, lsD, sFor, seq_sD, eq_str, ne_str, eq_int, ne_int, nc0, nc1, nc2, nc3, nc4, decide_true, decide_false, ne_eq, not_true_eq_false, Int.reduceEq, not_false_eq_true, Bool.or_false, Bool.or_true, Bool.false_or, Bool.true_or, List.all_cons, List.all_nil, id_eq]
  refine Ens.bd (n_lreason V S hv hg) ?_
  intro due hdue
  refine Ens.bd (n_reason V S hv hg) ?_
  intro d1 h1
  simp (decide := true) (implicitDefEqProofs := false) only [bodyD, env0, sSeq, thenF, sIf, sRet, sRetN, sRetV, sSet, sSetN, sExpr, sNil, sAsg, sPar, resD, dV, dC, dOp, dUn, dNot, dAnd, dOr, dNotT, dAndT, dOrT, dB, dIf, dChain, dTup, dCons, dNil, dLst, dLstB, dCB, dCall, dCallK, dImm, dYes, a1, a2, bTup, bLst, bCons, bNil, bName, fSeq, seqOf, fRng1, fRng2, fEn, fZip, zip2, one1, ints1, ints2, asB, asI, negD, addD, subD, modD, ltD, gtD, geD, leD, isND, isnND, intOp, intOpC, lenD_lst, lenD_tup, lenD_frz, len_sD, tupleD, listD, absD, max2D, min2D, allD, isiD, tyN, isiT_tt, isiT_ii, isiT_ib, idxD, lsA, gw, gt, opt_some, opt_none, bd_pu, bd_fl, bd_bd, chk_true, chk_tt, D.imm, D.imms, D.isN, List.map_cons, List.map_nil, List.length_cons, List.length_nil, List.set_cons_zero, List.set_cons_succ, List.getElem?_cons_zero, List.getElem?_cons_succ, List.getElem?_nil, Option.bind_some, Option.bind_none, Option.join_some, Option.join_none, Option.map_some, Bool.and_true, Bool.true_and, Bool.and_false, Bool.false_and, Bool.not_true, Bool.not_false, Bool.false_eq_true, Bool.true_eq_false, if_true, if_false, ite_true, ite_false, List.cons_append, List.nil_append, List.append_nil, Nat.zero_add, Nat.reduceAdd, Nat.reduceSub, Nat.reduceLeDiff, Int.reduceNeg, List.replicate_succ, List.replicate_zero, true_and, and_true, List.length_map, and_pu, or_pu, tand_pu, tor_pu, idx_0, idx_1, if_tt, if_ff, dSl, dNo, dSo, slD, imm_cD, imm_wD, intsD, sAppIx, sExt, sApp, lsD, sFor, seq_sD, eq_str, ne_str, eq_int, ne_int, nc0, nc1, nc2, nc3, nc4, decide_true, decide_false, ne_eq, not_true_eq_false, Int.reduceEq, not_false_eq_true, Bool.or_false, Bool.or_true, Bool.false_or, Bool.true_or, List.all_cons, List.all_nil, id_eq, pick210]
  refine Ens.bd (n_reason V S hv hg) ?_
  intro d2 h2
  rcases hdue with ⟨hc, rfl⟩ | ⟨hc, l, b, hch, hl, rfl⟩
  · have e1 : d1 = .non := by
      rcases h1 with ⟨_, e⟩ | ⟨hc', _⟩
      · exact e
      · rw [hc] at hc'; cases hc'
    have e2 : d2 = .non := by
      rcases h2 with ⟨_, e⟩ | ⟨hc', _⟩
      · exact e
      · rw [hc] at hc'; cases hc'
    subst e1; subst e2
    simp (decide := true) (implicitDefEqProofs := false) only [bodyD, env0, sSeq, thenF, sIf, sRet, sRetN, sRetV, sSet, sSetN, sExpr, sNil, sAsg, sPar, resD, dV, dC, dOp, dUn, dNot, dAnd, dOr, dNotT, dAndT, dOrT, dB, dIf, dChain, dTup, dCons, dNil, dLst, dLstB, dCB, dCall, dCallK, dImm, dYes, a1, a2, bTup, bLst, bCons, bNil, bName, fSeq, seqOf, fRng1, fRng2, fEn, fZip, zip2, one1, ints1, ints2, asB, asI, negD, addD, subD, modD, ltD, gtD, geD, leD, isND, isnND, intOp, intOpC, lenD_lst, lenD_tup, lenD_frz, len_sD, tupleD, listD, absD, max2D, min2D, allD, isiD, tyN, isiT_tt, isiT_ii, isiT_ib, idxD, lsA, gw, gt, opt_some, opt_none, bd_pu, bd_fl, bd_bd, chk_true, chk_tt, D.imm, D.imms, D.isN, List.map_cons, List.map_nil, List.length_cons, List.length_nil, List.set_cons_zero, List.set_cons_succ, List.getElem?_cons_zero, List.getElem?_cons_succ, List.getElem?_nil, Option.bind_some, Option.bind_none, Option.join_some, Option.join_none, Option.map_some, Bool.and_true, Bool.true_and, Bool.and_false, Bool.false_and, Bool.not_true, Bool.not_false, Bool.false_eq_true, Bool.true_eq_false, if_true, if_false, ite_true, ite_false, List.cons_append, List.nil_append, List.append_nil, Nat.zero_add, Nat.reduceAdd, Nat.reduceSub, Nat.reduceLeDiff, Int.reduceNeg, List.replicate_succ, List.replicate_zero, true_and, and_true, List.length_map, and_pu, or_pu, tand_pu, tor_pu, idx_0, idx_1, if_tt, if_ff, dSl, dNo, dSo, slD, imm_cD, imm_wD, intsD, sAppIx, sExt, sApp, lsD, sFor, seq_sD, eq_str, ne_str, eq_int, ne_int, nc0, nc1, nc2, nc3, nc4, decide_true, decide_false, ne_eq, not_true_eq_false, Int.reduceEq, not_false_eq_true, Bool.or_false, Bool.or_true, Bool.false_or, Bool.true_or, List.all_cons, List.all_nil, id_eq, r_nons]
    exact Ens.pu ⟨_, rfl, _, _, _, rfl⟩
  · have e1 : d1 = rsD l b := by
      rcases h1 with ⟨hc', _⟩ | ⟨_, l', b', hch', _, e⟩
      · rw [hc] at hc'; cases hc'
      · obtain ⟨q1, q2⟩ := Ch.det hch hch'
        subst q1; subst q2
        exact e
    have e2 : d2 = rsD l b := by
      rcases h2 with ⟨hc', _⟩ | ⟨_, l', b', hch', _, e⟩
      · rw [hc] at hc'; cases hc'
      · obtain ⟨q1, q2⟩ := Ch.det hch hch'
        subst q1; subst q2
        exact e
    subst e1; subst e2
    have ir : (rsD l b).imm = true := by
      unfold rsD
      simp only [D.imm, D.imms, imms_ch, Bool.and_true]
    simp (decide := true) (implicitDefEqProofs := false) only [bodyD, env0, sSeq, thenF, sIf, sRet, sRetN, sRetV, sSet, sSetN, sExpr, sNil, sAsg, sPar, resD, dV, dC, dOp, dUn, dNot, dAnd, dOr, dNotT, dAndT, dOrT, dB, dIf, dChain, dTup, dCons, dNil, dLst, dLstB, dCB, dCall, dCallK, dImm, dYes, a1, a2, bTup, bLst, bCons, bNil, bName, fSeq, seqOf, fRng1, fRng2, fEn, fZip, zip2, one1, ints1, ints2, asB, asI, negD, addD, subD, modD, ltD, gtD, geD, leD, isND, isnND, intOp, intOpC, lenD_lst, lenD_tup, lenD_frz, len_sD, tupleD, listD, absD, max2D, min2D, allD, isiD, tyN, isiT_tt, isiT_ii, isiT_ib, idxD, lsA, gw, gt, opt_some, opt_none, bd_pu, bd_fl, bd_bd, chk_true, chk_tt, D.imm, D.imms, D.isN, List.map_cons, List.map_nil, List.length_cons, List.length_nil, List.set_cons_zero, List.set_cons_succ, List.getElem?_cons_zero, List.getElem?_cons_succ, List.getElem?_nil, Option.bind_some, Option.bind_none, Option.join_some, Option.join_none, Option.map_some, Bool.and_true, Bool.true_and, Bool.and_false, Bool.false_and, Bool.not_true, Bool.not_false, Bool.false_eq_true, Bool.true_eq_false, if_true, if_false, ite_true, ite_false, List.cons_append, List.nil_append, List.append_nil, Nat.zero_add, Nat.reduceAdd, Nat.reduceSub, Nat.reduceLeDiff, Int.reduceNeg, List.replicate_succ, List.replicate_zero, true_and, and_true, List.length_map, and_pu, or_pu, tand_pu, tor_pu, idx_0, idx_1, if_tt, if_ff, dSl, dNo, dSo, slD, imm_cD, imm_wD, intsD, sAppIx, sExt, sApp, lsD, sFor, seq_sD, eq_str, ne_str, eq_int, ne_int, nc0, nc1, nc2, nc3, nc4, decide_true, decide_false, ne_eq, not_true_eq_false, Int.reduceEq, not_false_eq_true, Bool.or_false, Bool.or_true, Bool.false_or, Bool.true_or, List.all_cons, List.all_nil, id_eq, r_due (l := l) (b := b) (by omega) (fun u hu => by have := Ch.lt V hch hv u hu; omega), ir]
    unfold rsD
    cases b with
    | false =>
      simp (decide := true) (implicitDefEqProofs := false) only [bodyD, env0, sSeq, thenF, sIf, sRet, sRetN, sRetV, sSet, sSetN, sExpr, sNil, sAsg, sPar, resD, dV, dC, dOp, dUn, dNot, dAnd, dOr, dNotT, dAndT, dOrT, dB, dIf, dChain, dTup, dCons, dNil, dLst, dLstB, dCB, dCall, dCallK, dImm, dYes, a1, a2, bTup, bLst, bCons, bNil, bName, fSeq, seqOf, fRng1, fRng2, fEn, fZip, zip2, one1, ints1, ints2, asB, asI, negD, addD, subD, modD, ltD, gtD, geD, leD, isND, isnND, intOp, intOpC, lenD_lst, lenD_tup, lenD_frz, len_sD, tupleD, listD, absD, max2D, min2D, allD, isiD, tyN, isiT_tt, isiT_ii, isiT_ib, idxD, lsA, gw, gt, opt_some, opt_none, bd_pu, bd_fl, bd_bd, chk_true, chk_tt, D.imm, D.imms, D.isN, List.map_cons, List.map_nil, List.length_cons, List.length_nil, List.set_cons_zero, List.set_cons_succ, List.getElem?_cons_zero, List.getElem?_cons_succ, List.getElem?_nil, Option.bind_some, Option.bind_none, Option.join_some, Option.join_none, Option.map_some, Bool.and_true, Bool.true_and, Bool.and_false, Bool.false_and, Bool.not_true, Bool.not_false, Bool.false_eq_true, Bool.true_eq_false, if_true, if_false, ite_true, ite_false, List.cons_append, List.nil_append, List.append_nil, Nat.zero_add, Nat.reduceAdd, Nat.reduceSub, Nat.reduceLeDiff, Int.reduceNeg, List.replicate_succ, List.replicate_zero, true_and, and_true, List.length_map, and_pu, or_pu, tand_pu, tor_pu, idx_0, idx_1, if_tt, if_ff, dSl, dNo, dSo, slD, imm_cD, imm_wD, intsD, sAppIx, sExt, sApp, lsD, sFor, seq_sD, eq_str, ne_str, eq_int, ne_int, nc0, nc1, nc2, nc3, nc4, decide_true, decide_false, ne_eq, not_true_eq_false, Int.reduceEq, not_false_eq_true, Bool.or_false, Bool.or_true, Bool.false_or, Bool.true_or, List.all_cons, List.all_nil, id_eq]
      exact Ens.pu ⟨_, rfl, _, _, _, rfl⟩
    | true =>
      have hf := far_at V S hv hg hch hl
      have hfl : v < (rds g cs (ws.map fun w => wallOf w g) ws.length).length := by rw [rds_len, List.length_map]; exact hv
      have ee : (if g = 1 then D.tup ((rds 1 cs (ws.map fun w => wallOf w 1) ws.length).map D.int) else .tup ((rds (-1) cs (ws.map fun w => wallOf w (-1)) ws.length).map D.int)) = .tup ((rds g cs (ws.map fun w => wallOf w g) ws.length).map D.int) := by
        rcases hg with rfl | rfl <;> rfl
      simp (decide := true) (implicitDefEqProofs := false) only [bodyD, env0, sSeq, thenF, sIf, sRet, sRetN, sRetV, sSet, sSetN, sExpr, sNil, sAsg, sPar, resD, dV, dC, dOp, dUn, dNot, dAnd, dOr, dNotT, dAndT, dOrT, dB, dIf, dChain, dTup, dCons, dNil, dLst, dLstB, dCB, dCall, dCallK, dImm, dYes, a1, a2, bTup, bLst, bCons, bNil, bName, fSeq, seqOf, fRng1, fRng2, fEn, fZip, zip2, one1, ints1, ints2, asB, asI, negD, addD, subD, modD, ltD, gtD, geD, leD, isND, isnND, intOp, intOpC, lenD_lst, lenD_tup, lenD_frz, len_sD, tupleD, listD, absD, max2D, min2D, allD, isiD, tyN, isiT_tt, isiT_ii, isiT_ib, idxD, lsA, gw, gt, opt_some, opt_none, bd_pu, bd_fl, bd_bd, chk_true, chk_tt, D.imm, D.imms, D.isN, List.map_cons, List.map_nil, List.length_cons, List.length_nil, List.set_cons_zero, List.set_cons_succ, List.getElem?_cons_zero, List.getElem?_cons_succ, List.getElem?_nil, Option.bind_some, Option.bind_none, Option.join_some, Option.join_none, Option.map_some, Bool.and_true, Bool.true_and, Bool.and_false, Bool.false_and, Bool.not_true, Bool.not_false, Bool.false_eq_true, Bool.true_eq_false, if_true, if_false, ite_true, ite_false, List.cons_append, List.nil_append, List.append_nil, Nat.zero_add, Nat.reduceAdd, Nat.reduceSub, Nat.reduceLeDiff, Int.reduceNeg, List.replicate_succ, List.replicate_zero, true_and, and_true, List.length_map, and_pu, or_pu, tand_pu, tor_pu, idx_0, idx_1, if_tt, if_ff, dSl, dNo, dSo, slD, imm_cD, imm_wD, intsD, sAppIx, sExt, sApp, lsD, sFor, seq_sD, eq_str, ne_str, eq_int, ne_int, nc0, nc1, nc2, nc3, nc4, decide_true, decide_false, ne_eq, not_true_eq_false, Int.reduceEq, not_false_eq_true, Bool.or_false, Bool.or_true, Bool.false_or, Bool.true_or, List.all_cons, List.all_nil, id_eq, sD, idx_int hv', e_ends hg, ee, idx_int hfl, ← hf]
      exact Ens.pu ⟨_, rfl, _, _, _, rfl⟩
theorem n_right {ws : List (Int × Int)} {cs : List Cp} {ss : List Int} (V : VY ws cs) (S : VS ws cs ss) : Ens (F__law_right [yD ws cs, sD ss]) fun d => d = .bl true := by
  unfold F__law_right g__law_right
  have n40 := V.n40
  have hn : -(2 ^ 62) ≤ ((ws.length : Nat) : Int) ∧ ((ws.length : Nat) : Int) < 2 ^ 62 := by omega
  simp (decide := true) (implicitDefEqProofs := false) only [bodyD, env0, sSeq, thenF, sIf, sRet, sRetN, sRetV, sSet, sSetN, sExpr, sNil, sAsg, sPar, resD, dV, dC, dOp, dUn, dNot, dAnd, dOr, dNotT, dAndT, dOrT, dB, dIf, dChain, dTup, dCons, dNil, dLst, dLstB, dCB, dCall, dCallK, dImm, dYes, a1, a2, bTup, bLst, bCons, bNil, bName, fSeq, seqOf, fRng1, fRng2, fEn, fZip, zip2, one1, ints1, ints2, asB, asI, negD, addD, subD, modD, ltD, gtD, geD, leD, isND, isnND, intOp, intOpC, lenD_lst, lenD_tup, lenD_frz, len_sD, tupleD, listD, absD, max2D, min2D, allD, isiD, tyN, isiT_tt, isiT_ii, isiT_ib, idxD, lsA, gw, gt, opt_some, opt_none, bd_pu, bd_fl, bd_bd, chk_true, chk_tt, D.imm, D.imms, D.isN, List.map_cons, List.map_nil, List.length_cons, List.length_nil, List.set_cons_zero, List.set_cons_succ, List.getElem?_cons_zero, List.getElem?_cons_succ, List.getElem?_nil, Option.bind_some, Option.bind_none, Option.join_some, Option.join_none, Option.map_some, Bool.and_true, Bool.true_and, Bool.and_false, Bool.false_and, Bool.not_true, Bool.not_false, Bool.false_eq_true, Bool.true_eq_false, if_true, if_false, ite_true, ite_false, List.cons_append, List.nil_append, List.append_nil, Nat.zero_add, Nat.reduceAdd, Nat.reduceSub, Nat.reduceLeDiff, Int.reduceNeg, List.replicate_succ, List.replicate_zero, true_and, and_true, List.length_map, and_pu, or_pu, tand_pu, tor_pu, idx_0, idx_1, if_tt, if_ff, dSl, dNo, dSo, slD, imm_cD, imm_wD, intsD, sAppIx, sExt, sApp, lsD, sFor, seq_sD, eq_str, ne_str, eq_int, ne_int, nc0, nc1, nc2, nc3, nc4, decide_true, decide_false, ne_eq, not_true_eq_false, Int.reduceEq, not_false_eq_true, Bool.or_false, Bool.or_true, Bool.false_or, Bool.true_or, List.all_cons, List.all_nil, id_eq, r_lot V S, e_far (.inl rfl) V, e_far (.inr rfl) V, imm_yD, imm_sD, dImm, dDic, prs, asKey, dicK, sPar]
  simp (decide := true) (implicitDefEqProofs := false) only [bodyD, env0, sSeq, thenF, sIf, sRet, sRetN, sRetV, sSet, sSetN, sExpr, sNil, sAsg, sPar, resD, dV, dC, dOp, dUn, dNot, dAnd, dOr, dNotT, dAndT, dOrT, dB, dIf, dChain, dTup, dCons, dNil, dLst, dLstB, dCB, dCall, dCallK, dImm, dYes, a1, a2, bTup, bLst, bCons, bNil, bName, fSeq, seqOf, fRng1, fRng2, fEn, fZip, zip2, one1, ints1, ints2, asB, asI, negD, addD, subD, modD, ltD, gtD, geD, leD, isND, isnND, intOp, intOpC, lenD_lst, lenD_tup, lenD_frz, len_sD, tupleD, listD, absD, max2D, min2D, allD, isiD, tyN, isiT_tt, isiT_ii, isiT_ib, idxD, lsA, gw, gt, opt_some, opt_none, bd_pu, bd_fl, bd_bd, chk_true, chk_tt, D.imm, D.imms, D.isN, List.map_cons, List.map_nil, List.length_cons, List.length_nil, List.set_cons_zero, List.set_cons_succ, List.getElem?_cons_zero, List.getElem?_cons_succ, List.getElem?_nil, Option.bind_some, Option.bind_none, Option.join_some, Option.join_none, Option.map_some, Bool.and_true, Bool.true_and, Bool.and_false, Bool.false_and, Bool.not_true, Bool.not_false, Bool.false_eq_true, Bool.true_eq_false, if_true, if_false, ite_true, ite_false, List.cons_append, List.nil_append, List.append_nil, Nat.zero_add, Nat.reduceAdd, Nat.reduceSub, Nat.reduceLeDiff, Int.reduceNeg, List.replicate_succ, List.replicate_zero, true_and, and_true, List.length_map, and_pu, or_pu, tand_pu, tor_pu, idx_0, idx_1, if_tt, if_ff, dSl, dNo, dSo, slD, imm_cD, imm_wD, intsD, sAppIx, sExt, sApp, lsD, sFor, seq_sD, eq_str, ne_str, eq_int, ne_int, nc0, nc1, nc2, nc3, nc4, decide_true, decide_false, ne_eq, not_true_eq_false, Int.reduceEq, not_false_eq_true, Bool.or_false, Bool.or_true, Bool.false_or, Bool.true_or, List.all_cons, List.all_nil, id_eq, S.len, chk_pos hn, Int.toNat_natCast]
  refine Ens.bdFor (fun _ δ => ∃ a b c d, δ = rE ws cs ss a b c d) ⟨_, _, _, _, rfl⟩ ?_ ?_
  · rintro i d δ hd ⟨a, b, c, d', rfl⟩
    obtain ⟨hi, rfl⟩ := rngD_at hd
    unfold rE
    simp (decide := true) (implicitDefEqProofs := false) only [bodyD, env0, sSeq, thenF, sIf, sRet, sRetN, sRetV, sSet, sSetN, sExpr, sNil, sAsg, sPar, resD, dV, dC, dOp, dUn, dNot, dAnd, dOr, dNotT, dAndT, dOrT, dB, dIf, dChain, dTup, dCons, dNil, dLst, dLstB, dCB, dCall, dCallK, dImm, dYes, a1, a2, bTup, bLst, bCons, bNil, bName, fSeq, seqOf, fRng1, fRng2, fEn, fZip, zip2, one1, ints1, ints2, asB, asI, negD, addD, subD, modD, ltD, gtD, geD, leD, isND, isnND, intOp, intOpC, lenD_lst, lenD_tup, lenD_frz, len_sD, tupleD, listD, absD, max2D, min2D, allD, isiD, tyN, isiT_tt, isiT_ii, isiT_ib, idxD, lsA, gw, gt, opt_some, opt_none, bd_pu, bd_fl, bd_bd, chk_true, chk_tt, D.imm, D.imms, D.isN, List.map_cons, List.map_nil, List.length_cons, List.length_nil, List.set_cons_zero, List.set_cons_succ, List.getElem?_cons_zero, List.getElem?_cons_succ, List.getElem?_nil, Option.bind_some, Option.bind_none, Option.join_some, Option.join_none, Option.map_some, Bool.and_true, Bool.true_and, Bool.and_false, Bool.false_and, Bool.not_true, Bool.not_false, Bool.false_eq_true, Bool.true_eq_false, if_true, if_false, ite_true, ite_false, List.cons_append, List.nil_append, List.append_nil, Nat.zero_add, Nat.reduceAdd, Nat.reduceSub, Nat.reduceLeDiff, Int.reduceNeg, List.replicate_succ, List.replicate_zero, true_and, and_true, List.length_map, and_pu, or_pu, tand_pu, tor_pu, idx_0, idx_1, if_tt, if_ff, dSl, dNo, dSo, slD, imm_cD, imm_wD, intsD, sAppIx, sExt, sApp, lsD, sFor, seq_sD, eq_str, ne_str, eq_int, ne_int, nc0, nc1, nc2, nc3, nc4, decide_true, decide_false, ne_eq, not_true_eq_false, Int.reduceEq, not_false_eq_true, Bool.or_false, Bool.or_true, Bool.false_or, Bool.true_or, List.all_cons, List.all_nil, id_eq]
    refine Ens.wk (Ens.for (h := bName 5) (g := rG) (fun _ δ => ∃ b c d, δ = rE ws cs ss (some (.int i)) b c d) [.tup [.int i, .int (-1)], .tup [.int i, .int 1]] _ 0 ⟨_, _, _, rfl⟩ ?_) ?_
    · rintro j d δ hd ⟨b, c, d', rfl⟩
      obtain ⟨g, hg, rfl⟩ : ∃ g, (g = -1 ∨ g = 1) ∧ d = .tup [.int i, .int g] := by
        match j, hd with
        | 0, hd => exact ⟨-1, .inl rfl, (Option.some.inj hd).symm⟩
        | 1, hd => exact ⟨1, .inr rfl, (Option.some.inj hd).symm⟩
      have e1 : bName 5 (.tup [.int i, .int g]) (rE ws cs ss (some (.int i)) b c d') = pu (rE ws cs ss (some (.int i)) (some (.tup [.int i, .int g])) c d') := by
        unfold rE
        simp (decide := true) (implicitDefEqProofs := false) only [bodyD, env0, sSeq, thenF, sIf, sRet, sRetN, sRetV, sSet, sSetN, sExpr, sNil, sAsg, sPar, resD, dV, dC, dOp, dUn, dNot, dAnd, dOr, dNotT, dAndT, dOrT, dB, dIf, dChain, dTup, dCons, dNil, dLst, dLstB, dCB, dCall, dCallK, dImm, dYes, a1, a2, bTup, bLst, bCons, bNil, bName, fSeq, seqOf, fRng1, fRng2, fEn, fZip, zip2, one1, ints1, ints2, asB, asI, negD, addD, subD, modD, ltD, gtD, geD, leD, isND, isnND, intOp, intOpC, lenD_lst, lenD_tup, lenD_frz, len_sD, tupleD, listD, absD, max2D, min2D, allD, isiD, tyN, isiT_tt, isiT_ii, isiT_ib, idxD, lsA, gw, gt, opt_some, opt_none, bd_pu, bd_fl, bd_bd, chk_true, chk_tt, D.imm, D.imms, D.isN, List.map_cons, List.map_nil, List.length_cons, List.length_nil, List.set_cons_zero, List.set_cons_succ, List.getElem?_cons_zero, List.getElem?_cons_succ, List.getElem?_nil, Option.bind_some, Option.bind_none, Option.join_some, Option.join_none, Option.map_some, Bool.and_true, Bool.true_and, Bool.and_false, Bool.false_and, Bool.not_true, Bool.not_false, Bool.false_eq_true, Bool.true_eq_false, if_true, if_false, ite_true, ite_false, List.cons_append, List.nil_append, List.append_nil, Nat.zero_add, Nat.reduceAdd, Nat.reduceSub, Nat.reduceLeDiff, Int.reduceNeg, List.replicate_succ, List.replicate_zero, true_and, and_true, List.length_map, and_pu, or_pu, tand_pu, tor_pu, idx_0, idx_1, if_tt, if_ff, dSl, dNo, dSo, slD, imm_cD, imm_wD, intsD, sAppIx, sExt, sApp, lsD, sFor, seq_sD, eq_str, ne_str, eq_int, ne_int, nc0, nc1, nc2, nc3, nc4, decide_true, decide_false, ne_eq, not_true_eq_false, Int.reduceEq, not_false_eq_true, Bool.or_false, Bool.or_true, Bool.false_or, Bool.true_or, List.all_cons, List.all_nil, id_eq]
      rw [e1, bd_pu]
      exact n_rG V S hi hg c d'
    · rintro r ⟨δ', rfl, b, c, d, rfl⟩
      exact ⟨_, rfl, _, _, _, _, rfl⟩
  · rintro δ' ⟨a, b, c, d, rfl⟩
    unfold rE
    simp (decide := true) (implicitDefEqProofs := false) only [bodyD, env0, sSeq, thenF, sIf, sRet, sRetN, sRetV, sSet, sSetN, sExpr, sNil, sAsg, sPar, resD, dV, dC, dOp, dUn, dNot, dAnd, dOr, dNotT, dAndT, dOrT, dB, dIf, dChain, dTup, dCons, dNil, dLst, dLstB, dCB, dCall, dCallK, dImm, dYes, a1, a2, bTup, bLst, bCons, bNil, bName, fSeq, seqOf, fRng1, fRng2, fEn, fZip, zip2, one1, ints1, ints2, asB, asI, negD, addD, subD, modD, ltD, gtD, geD, leD, isND, isnND, intOp, intOpC, lenD_lst, lenD_tup, lenD_frz, len_sD, tupleD, listD, absD, max2D, min2D, allD, isiD, tyN, isiT_tt, isiT_ii, isiT_ib, idxD, lsA, gw, gt, opt_some, opt_none, bd_pu, bd_fl, bd_bd, chk_true, chk_tt, D.imm, D.imms, D.isN, List.map_cons, List.map_nil, List.length_cons, List.length_nil, List.set_cons_zero, List.set_cons_succ, List.getElem?_cons_zero, List.getElem?_cons_succ, List.getElem?_nil, Option.bind_some, Option.bind_none, Option.join_some, Option.join_none, Option.map_some, Bool.and_true, Bool.true_and, Bool.and_false, Bool.false_and, Bool.not_true, Bool.not_false, Bool.false_eq_true, Bool.true_eq_false, if_true, if_false, ite_true, ite_false, List.cons_append, List.nil_append, List.append_nil, Nat.zero_add, Nat.reduceAdd, Nat.reduceSub, Nat.reduceLeDiff, Int.reduceNeg, List.replicate_succ, List.replicate_zero, true_and, and_true, List.length_map, and_pu, or_pu, tand_pu, tor_pu, idx_0, idx_1, if_tt, if_ff, dSl, dNo, dSo, slD, imm_cD, imm_wD, intsD, sAppIx, sExt, sApp, lsD, sFor, seq_sD, eq_str, ne_str, eq_int, ne_int, nc0, nc1, nc2, nc3, nc4, decide_true, decide_false, ne_eq, not_true_eq_false, Int.reduceEq, not_false_eq_true, Bool.or_false, Bool.or_true, Bool.false_or, Bool.true_or, List.all_cons, List.all_nil, id_eq, r_lot V S]
    exact Ens.pu rfl
end K14
namespace K14
open PySem L2 DL CY DC
/-! ### a row of wagons -/
def rw_ (n : Nat) : List (Int × Int) := List.replicate n (0, 2 * (n : Int))
def rc (n : Nat) : List Cp := (List.range (n - 1)).map fun v => ⟨v, v + 1, 1, 2⟩
/-- f: whether the row is free -/
def rs (n : Nat) (f : Int) : List Int := (List.range n).map fun v : Nat => (v : Int) + ((n : Int) + 1) * (1 - f)
theorem rw_at {n v : Nat} (h : v < n) : (rw_ n).getD v (0, 0) = (0, 2 * (n : Int)) := by
  unfold rw_
  rw [List.getD_eq_getElem?_getD, List.getElem?_replicate, if_pos h]
  rfl
theorem rs_at {n v : Nat} {f : Int} (h : v < n) : (rs n f).getD v 0 = (v : Int) + ((n : Int) + 1) * (1 - f) := by
  unfold rs
  rw [List.getD_eq_getElem?_getD, List.getElem?_map, List.getElem?_range h]
  rfl
theorem rc_at {n k : Nat} {c : Cp} (h : (rc n)[k]? = some c) : k < n - 1 ∧ c = ⟨k, k + 1, 1, 2⟩ := by
  unfold rc at h
  rw [List.getElem?_map] at h
  by_cases hk : k < n - 1
  · rw [List.getElem?_range hk] at h
    exact ⟨hk, (Option.some.inj h).symm⟩
  · rw [List.getElem?_eq_none (by rw [List.length_range]; omega)] at h
    cases h
theorem row_V {n : Nat} (h1 : 2 ≤ n) (h2 : n ≤ 40) : VY (rw_ n) (rc n) := by
  have lw : (rw_ n).length = n := List.length_replicate
  have lc : (rc n).length = n - 1 := by unfold rc; rw [List.length_map, List.length_range]
  refine ⟨by rw [lw]; omega, by rw [lw]; exact h2, fun w hw => ?_, fun c hc => ?_, ?_, fun k c hc => ?_, by rw [lw, lc]; omega⟩
  · rw [List.eq_of_mem_replicate hw]
    show -1000000000 ≤ (0 : Int) ∧ (0 : Int) ≤ 2 * (n : Int) ∧ 2 * (n : Int) ≤ 1000000000
    omega
  · obtain ⟨k, hk⟩ := List.mem_iff_getElem?.mp hc
    obtain ⟨hk, rfl⟩ := rc_at hk
    rw [lw]
    show k < k + 1 ∧ k + 1 < n ∧ -10000000000 ≤ (1 : Int) ∧ (1 : Int) < 2 ∧ (2 : Int) ≤ 10000000000
    omega
  · unfold rc
    refine List.pairwise_map.mpr (List.pairwise_iff_getElem.mpr fun a b ha hb hab => ?_)
    rw [List.getElem_range, List.getElem_range]
    exact .inl hab
  · obtain ⟨hk, rfl⟩ := rc_at hc
    refine ⟨fun u => decide (u ≤ k), ?_, fun l d hd hl => ?_⟩
    · show decide (k ≤ k) ≠ decide (k + 1 ≤ k)
      simp
    · obtain ⟨_, rfl⟩ := rc_at hd
      show decide (l ≤ k) = decide (l + 1 ≤ k)
      rw [Bool.eq_iff_iff]
      simp
      omega
theorem row_S {n : Nat} {f : Int} (h1 : 2 ≤ n) (hf : f = 0 ∨ f = 1) : VS (rw_ n) (rc n) (rs n f) := by
  have lw : (rw_ n).length = n := List.length_replicate
  refine ⟨by rw [lw]; unfold rs; rw [List.length_map, List.length_range], fun v w hv => ?_, fun c hc => ?_⟩
  · have hv' : v < n := by rw [← lw]; exact (List.getElem?_eq_some_iff.mp hv).1
    have e := rw_at hv'
    rw [List.getD_eq_getElem?_getD, hv] at e
    rw [rs_at hv', show w = (0, 2 * (n : Int)) from e]
    show (0 : Int) ≤ _ ∧ _ ≤ 2 * (n : Int)
    rcases hf with rfl | rfl
    · rw [Int.sub_zero, Int.mul_one]; omega
    · rw [Int.sub_self, Int.mul_zero]; omega
  · obtain ⟨k, hk⟩ := List.mem_iff_getElem?.mp hc
    obtain ⟨hk, rfl⟩ := rc_at hk
    show (1 : Int) ≤ (rs n f).getD (k + 1) 0 - (rs n f).getD k 0 ∧ (rs n f).getD (k + 1) 0 - (rs n f).getD k 0 ≤ 2
    rw [rs_at (by omega), rs_at (by omega)]
    generalize ((n : Int) + 1) * (1 - f) = z
    omega
theorem row_nx {n v : Nat} {f : Int} (h1 : 2 ≤ n) (hn : n ≤ 40) (hv : v < n) : nx (rc n) (rs n f) 1 v = if v + 1 < n then some ⟨v + 1, 1, 2⟩ else none := by
  rw [nx_find fun c hc => by
    obtain ⟨k, hk⟩ := List.mem_iff_getElem?.mp hc
    obtain ⟨hk, rfl⟩ := rc_at hk
    exact Nat.lt_succ_self k]
  have hb : ∀ k c, (rc n)[k]? = some c → brk (rs n f) v 1 c = decide (k = v) := fun k c hc => by
    obtain ⟨hk, rfl⟩ := rc_at hc
    unfold brk lkOf okL
    by_cases e : k = v
    · subst e
      dsimp only
      rw [if_pos rfl]
      dsimp only
      rw [rs_at (by omega), rs_at hv]
      generalize ((n : Int) + 1) * (1 - f) = z
      rw [Bool.eq_iff_iff]
      simp
      omega
    · by_cases e2 : k + 1 = v
      · subst e2
        dsimp only
        rw [if_neg (by omega)]
        dsimp only
        rw [rs_at (by omega), rs_at hv]
        generalize ((n : Int) + 1) * (1 - f) = z
        rw [Bool.eq_iff_iff]
        simp
        omega
      · simp [e, e2]
  by_cases h : v + 1 < n
  · rw [if_pos h]
    have e : (rc n)[v]? = some ⟨v, v + 1, 1, 2⟩ := by
      unfold rc
      rw [List.getElem?_map, List.getElem?_range (by omega)]
      rfl
    rw [find_first e (by rw [hb v _ e]; simp) fun j hj b hjb => by rw [hb j b hjb]; exact decide_eq_false (by omega)]
    show some (lkOf v _) = _
    unfold lkOf
    rw [if_pos rfl]
  · rw [if_neg h]
    have e : (rc n).find? (brk (rs n f) v 1) = none := List.find?_eq_none.mpr fun c hc => by
      obtain ⟨k, hk⟩ := List.mem_iff_getElem?.mp hc
      have := hb k c hk
      obtain ⟨hk, _⟩ := rc_at hk
      rw [this]
      simp
      omega
    rw [e]
    rfl
theorem row_wall {n v : Nat} {f : Int} (hf : f = 0 ∨ f = 1) (hv : v < n) : atW (rw_ n) (rs n f) 1 v = (decide (f = 0) && decide (v + 1 = n)) := by
  unfold atW
  rw [rs_at hv, rw_at hv]
  show decide (_ = 2 * (n : Int)) = _
  rcases hf with rfl | rfl
  · rw [Int.sub_zero, Int.mul_one, Bool.eq_iff_iff]
    simp
    omega
  · rw [Int.sub_self, Int.mul_zero, Bool.eq_iff_iff]
    simp
    omega
theorem row_ch {n : Nat} {f : Int} (h1 : 2 ≤ n) (hn : n ≤ 40) (hf : f = 0 ∨ f = 1) : ∀ d, d + 1 ≤ n → Ch (rw_ n) (rc n) (rs n f) 1 (n - 1 - d) (List.range' (n - 1 - d) (d + 1)) (decide (f = 0))
  | 0, _ => by
    have hv : n - 1 < n := by omega
    have e1 := row_wall hf hv
    have e2 := row_nx (f := f) h1 hn hv
    rw [if_neg (by omega)] at e2
    rw [decide_eq_true (show n - 1 + 1 = n by omega), Bool.and_true] at e1
    rw [Nat.sub_zero]
    show Ch _ _ _ _ _ [n - 1] _
    rcases hf with rfl | rfl
    · exact .wall e1
    · exact .free e1 e2
  | d + 1, h => by
    have ih := row_ch h1 hn hf d (by omega)
    have hv : n - 1 - (d + 1) < n := by omega
    have e1 := row_wall hf hv
    have e2 := row_nx (f := f) h1 hn hv
    rw [if_pos (by omega)] at e2
    rw [decide_eq_false (show ¬ n - 1 - (d + 1) + 1 = n by omega), Bool.and_false] at e1
    rw [show n - 1 - d = n - 1 - (d + 1) + 1 by omega] at ih
    have := Ch.step e1 e2 ih
    rw [List.range'_succ]
    exact this
theorem row_first {n : Nat} {f : Int} (h1 : 2 ≤ n) (hn : n ≤ 40) (hf : f = 0 ∨ f = 1) : Ch (rw_ n) (rc n) (rs n f) 1 0 (List.range n) (decide (f = 0)) := by
  have := row_ch h1 hn hf (n - 1) (by omega)
  rw [Nat.sub_self, show n - 1 + 1 = n by omega, ← List.range_eq_range'] at this
  exact this
theorem eq_refl_D {d : D} {p : PyData} (h : d.py = some p) (hs : SeqAt.shaped p = true) : eqD d d = pu (.bl true) := by
  unfold eqD eqvD
  rw [h, opt_some, opt_some, chk_pos ⟨hs, hs⟩, SeqAt.eqv_refl p (Bool.and_eq_true_iff.mp hs).1]
end K14
namespace K14
open PySem L2 DL CY DC
theorem py_rs (l : List Nat) (b : Bool) : (rsD l b).py = some (.tuple [.tuple ((nI l).map PyData.int), .str (if b = true then "wall" else "free")]) := by
  unfold rsD chD
  simp [D.py, D.pys, pys_int]
theorem strOk_word (s : Str) (h : s = "free" ∨ s = "wall") : PyData.strOk s = true := by rcases h with rfl | rfl <;> (unfold PyData.strOk; rw [← Array.all_toList]; rfl)
theorem eq_two (x : D) (px : PyData) (l : List Nat) (b : Bool) (hx : x.py = some px) (h0 : px.canLay0 = true) (hd : px.depth ≤ 2) : eqS (.lst [rsD l b, x]) (.lst [rsD l b, x]) = pu (.bl true) := by
  have e : (D.lst [rsD l b, x]).py = some (.list [.tuple [.tuple ((nI l).map PyData.int), .str (if b = true then "wall" else "free")], px]) := by
    simp [D.py, D.pys, py_rs, hx]
  refine eq_refl_D e (Bool.and_eq_true_iff.mpr ⟨?_, decide_eq_true ?_⟩)
  · cases b <;> simp [PyData.canLay0, PyData.canLayAll0, lay_int, h0] <;> exact strOk_word _ (by decide)
  · have := dep_int (nI l)
    simp only [PyData.depth, PyData.depthAll]
    omega
theorem rc_D (n : Nat) (h : 2 ≤ n) : (rngD 0 (n - 1)).map (fun d => match d with | .int v => D.tup [.int v, .int (v + 1), .int 1, .int 2] | _ => .non) = (rc n).map cD := by
  unfold rngD rc
  rw [List.map_map, List.map_map]
  refine List.map_congr_left fun v _ => ?_
  simp [cD]
theorem rs_D (n : Nat) (f : Int) : (rngD 0 n).map (fun d => match d with | .int v => D.int (v + ((n : Int) + 1) * (1 - f)) | _ => .non) = (rs n f).map D.int := by
  unfold rngD rs
  rw [List.map_map, List.map_map]
  refine List.map_congr_left fun v _ => ?_
  simp
theorem rep_D (z : Int) : ∀ m, (List.replicate m [D.tup [.int 0, .int z]]).flatten = List.replicate m (wD (0, z))
  | 0 => rfl
  | m + 1 => by rw [List.replicate_succ, List.replicate_succ, List.flatten_cons, rep_D z m]; rfl
theorem rw_D (n : Nat) : (List.replicate n [D.tup [.int 0, .int (2 * (n : Int))]]).flatten = (rw_ n).map wD := by
  unfold rw_
  rw [List.map_replicate, rep_D]
theorem q_two (x : D) (px : PyData) (l : List Nat) (b : Bool) (hx : x.py = some px) (h0 : px.canLay0 = true) (hd : px.depth ≤ 2) : Ens (eqS (.lst [rsD l b, x]) (.lst [rsD l b, x])) fun d => d = .bl true := by
  rw [eq_two x px l b hx h0 hd]
  exact Ens.pu rfl
theorem lay_rs (l : List Nat) (b : Bool) : (PyData.tuple [.tuple ((nI l).map PyData.int), .str (if b = true then "wall" else "free")]).canLay0 = true := by
  cases b <;> simp [PyData.canLay0, PyData.canLayAll0, lay_int] <;> exact strOk_word _ (by decide)
theorem dep_rs (l : List Nat) (b : Bool) : (PyData.tuple [.tuple ((nI l).map PyData.int), .str (if b = true then "wall" else "free")]).depth ≤ 2 := by
  have := dep_int (nI l)
  simp only [PyData.depth, PyData.depthAll]
  omega
def c1 : DL.Env → DL.W D := (dLc [7] (fRng1 (dCons (dOp subD (dV 1) (dC (.int 1))) dNil)) (bName 7) dYes (dTup (dCons (dV 7) (dCons (dOp addD (dV 7) (dC (.int 1))) (dCons (dC (.int 1)) (dCons (dC (.int 2)) dNil))))))
def c2 : DL.Env → DL.W D := (dLc [7] (fRng1 (dCons (dV 1) dNil)) (bName 7) dYes (dOp addD (dV 7) (dOp mulD (dOp addD (dV 1) (dC (.int 1))) (dOp subD (dC (.int 1)) (dV 2)))))
theorem rng_small (n : Nat) (h : n ≤ 40) : (rngD 0 n).length < sizeLine := by
  rw [rngD_len]
  exact small (by omega)
theorem e_c1 {n : Nat} (h1 : 2 ≤ n) (hn : n ≤ 40) (a b c d e f : Option D) : c1 [a, some (.int n), b, c, d, e, f, none] = pu (.lst ((rc n).map cD)) := by
  unfold c1
  have hz : -(2 ^ 62) ≤ (n : Int) - 1 ∧ (n : Int) - 1 < 2 ^ 62 := by omega
  have e1 : ((n : Int) - 1).toNat = n - 1 := by omega
  simp (decide := true) (implicitDefEqProofs := false) only [bodyD, env0, sSeq, thenF, sIf, sRet, sRetN, sRetV, sSet, sSetN, sExpr, sNil, sAsg, sPar, resD, dV, dC, dOp, dUn, dNot, dAnd, dOr, dNotT, dAndT, dOrT, dB, dIf, dChain, dTup, dCons, dNil, dLst, dLstB, dCB, dCall, dCallK, dImm, dYes, a1, a2, bTup, bLst, bCons, bNil, bName, fSeq, seqOf, fRng1, fRng2, fEn, fZip, zip2, one1, ints1, ints2, asB, asI, negD, addD, subD, modD, ltD, gtD, geD, leD, isND, isnND, intOp, intOpC, lenD_lst, lenD_tup, lenD_frz, len_sD, tupleD, listD, absD, max2D, min2D, allD, isiD, tyN, isiT_tt, isiT_ii, isiT_ib, idxD, lsA, gw, gt, opt_some, opt_none, bd_pu, bd_fl, bd_bd, chk_true, chk_tt, D.imm, D.imms, D.isN, List.map_cons, List.map_nil, List.length_cons, List.length_nil, List.set_cons_zero, List.set_cons_succ, List.getElem?_cons_zero, List.getElem?_cons_succ, List.getElem?_nil, Option.bind_some, Option.bind_none, Option.join_some, Option.join_none, Option.map_some, Bool.and_true, Bool.true_and, Bool.and_false, Bool.false_and, Bool.not_true, Bool.not_false, Bool.false_eq_true, Bool.true_eq_false, if_true, if_false, ite_true, ite_false, List.cons_append, List.nil_append, List.append_nil, Nat.zero_add, Nat.reduceAdd, Nat.reduceSub, Nat.reduceLeDiff, Int.reduceNeg, List.replicate_succ, List.replicate_zero, true_and, and_true, List.length_map, and_pu, or_pu, tand_pu, tor_pu, idx_0, idx_1, if_tt, if_ff, dSl, dNo, dSo, slD, imm_cD, imm_wD, intsD, sAppIx, sExt, sApp, lsD, sFor, seq_sD, eq_str, ne_str, eq_int, ne_int, nc0, nc1, nc2, nc3, nc4, decide_true, decide_false, ne_eq, not_true_eq_false, Int.reduceEq, not_false_eq_true, Bool.or_false, Bool.or_true, Bool.false_or, Bool.true_or, List.all_cons, List.all_nil, id_eq, dLc, wipeE, chk_pos hz, e1]
  rw [lc_map (fun d => match d with | .int v => D.tup [.int v, .int (v + 1), .int 1, .int 2] | _ => .non) (rngD 0 (n - 1)) (rng_small _ (by omega)) (fun d q => by
    unfold rngD at q
    obtain ⟨k, _, rfl⟩ := List.mem_map.mp q
    refine ⟨_, by simp (decide := true) (implicitDefEqProofs := false) only [bodyD, env0, sSeq, thenF, sIf, sRet, sRetN, sRetV, sSet, sSetN, sExpr, sNil, sAsg, sPar, resD, dV, dC, dOp, dUn, dNot, dAnd, dOr, dNotT, dAndT, dOrT, dB, dIf, dChain, dTup, dCons, dNil, dLst, dLstB, dCB, dCall, dCallK, dImm, dYes, a1, a2, bTup, bLst, bCons, bNil, bName, fSeq, seqOf, fRng1, fRng2, fEn, fZip, zip2, one1, ints1, ints2, asB, asI, negD, addD, subD, modD, ltD, gtD, geD, leD, isND, isnND, intOp, intOpC, lenD_lst, lenD_tup, lenD_frz, len_sD, tupleD, listD, absD, max2D, min2D, allD, isiD, tyN, isiT_tt, isiT_ii, isiT_ib, idxD, lsA, gw, gt, opt_some, opt_none, bd_pu, bd_fl, bd_bd, chk_true, chk_tt, D.imm, D.imms, D.isN, List.map_cons, List.map_nil, List.length_cons, List.length_nil, List.set_cons_zero, List.set_cons_succ, List.getElem?_cons_zero, List.getElem?_cons_succ, List.getElem?_nil, Option.bind_some, Option.bind_none, Option.join_some, Option.join_none, Option.map_some, Bool.and_true, Bool.true_and, Bool.and_false, Bool.false_and, Bool.not_true, Bool.not_false, Bool.false_eq_true, Bool.true_eq_false, if_true, if_false, ite_true, ite_false, List.cons_append, List.nil_append, List.append_nil, Nat.zero_add, Nat.reduceAdd, Nat.reduceSub, Nat.reduceLeDiff, Int.reduceNeg, List.replicate_succ, List.replicate_zero, true_and, and_true, List.length_map, and_pu, or_pu, tand_pu, tor_pu, idx_0, idx_1, if_tt, if_ff, dSl, dNo, dSo, slD, imm_cD, imm_wD, intsD, sAppIx, sExt, sApp, lsD, sFor, seq_sD, eq_str, ne_str, eq_int, ne_int, nc0, nc1, nc2, nc3, nc4, decide_true, decide_false, ne_eq, not_true_eq_false, Int.reduceEq, not_false_eq_true, Bool.or_false, Bool.or_true, Bool.false_or, Bool.true_or, List.all_cons, List.all_nil, id_eq]; rfl, ?_, rfl⟩
    simp (decide := true) (implicitDefEqProofs := false) only [bodyD, env0, sSeq, thenF, sIf, sRet, sRetN, sRetV, sSet, sSetN, sExpr, sNil, sAsg, sPar, resD, dV, dC, dOp, dUn, dNot, dAnd, dOr, dNotT, dAndT, dOrT, dB, dIf, dChain, dTup, dCons, dNil, dLst, dLstB, dCB, dCall, dCallK, dImm, dYes, a1, a2, bTup, bLst, bCons, bNil, bName, fSeq, seqOf, fRng1, fRng2, fEn, fZip, zip2, one1, ints1, ints2, asB, asI, negD, addD, subD, modD, ltD, gtD, geD, leD, isND, isnND, intOp, intOpC, lenD_lst, lenD_tup, lenD_frz, len_sD, tupleD, listD, absD, max2D, min2D, allD, isiD, tyN, isiT_tt, isiT_ii, isiT_ib, idxD, lsA, gw, gt, opt_some, opt_none, bd_pu, bd_fl, bd_bd, chk_true, chk_tt, D.imm, D.imms, D.isN, List.map_cons, List.map_nil, List.length_cons, List.length_nil, List.set_cons_zero, List.set_cons_succ, List.getElem?_cons_zero, List.getElem?_cons_succ, List.getElem?_nil, Option.bind_some, Option.bind_none, Option.join_some, Option.join_none, Option.map_some, Bool.and_true, Bool.true_and, Bool.and_false, Bool.false_and, Bool.not_true, Bool.not_false, Bool.false_eq_true, Bool.true_eq_false, if_true, if_false, ite_true, ite_false, List.cons_append, List.nil_append, List.append_nil, Nat.zero_add, Nat.reduceAdd, Nat.reduceSub, Nat.reduceLeDiff, Int.reduceNeg, List.replicate_succ, List.replicate_zero, true_and, and_true, List.length_map, and_pu, or_pu, tand_pu, tor_pu, idx_0, idx_1, if_tt, if_ff, dSl, dNo, dSo, slD, imm_cD, imm_wD, intsD, sAppIx, sExt, sApp, lsD, sFor, seq_sD, eq_str, ne_str, eq_int, ne_int, nc0, nc1, nc2, nc3, nc4, decide_true, decide_false, ne_eq, not_true_eq_false, Int.reduceEq, not_false_eq_true, Bool.or_false, Bool.or_true, Bool.false_or, Bool.true_or, List.all_cons, List.all_nil, id_eq]), rc_D n h1]
  simp (decide := true) (implicitDefEqProofs := false) only [bodyD, env0, sSeq, thenF, sIf, sRet, sRetN, sRetV, sSet, sSetN, sExpr, sNil, sAsg, sPar, resD, dV, dC, dOp, dUn, dNot, dAnd, dOr, dNotT, dAndT, dOrT, dB, dIf, dChain, dTup, dCons, dNil, dLst, dLstB, dCB, dCall, dCallK, dImm, dYes, a1, a2, bTup, bLst, bCons, bNil, bName, fSeq, seqOf, fRng1, fRng2, fEn, fZip, zip2, one1, ints1, ints2, asB, asI, negD, addD, subD, modD, ltD, gtD, geD, leD, isND, isnND, intOp, intOpC, lenD_lst, lenD_tup, lenD_frz, len_sD, tupleD, listD, absD, max2D, min2D, allD, isiD, tyN, isiT_tt, isiT_ii, isiT_ib, idxD, lsA, gw, gt, opt_some, opt_none, bd_pu, bd_fl, bd_bd, chk_true, chk_tt, D.imm, D.imms, D.isN, List.map_cons, List.map_nil, List.length_cons, List.length_nil, List.set_cons_zero, List.set_cons_succ, List.getElem?_cons_zero, List.getElem?_cons_succ, List.getElem?_nil, Option.bind_some, Option.bind_none, Option.join_some, Option.join_none, Option.map_some, Bool.and_true, Bool.true_and, Bool.and_false, Bool.false_and, Bool.not_true, Bool.not_false, Bool.false_eq_true, Bool.true_eq_false, if_true, if_false, ite_true, ite_false, List.cons_append, List.nil_append, List.append_nil, Nat.zero_add, Nat.reduceAdd, Nat.reduceSub, Nat.reduceLeDiff, Int.reduceNeg, List.replicate_succ, List.replicate_zero, true_and, and_true, List.length_map, and_pu, or_pu, tand_pu, tor_pu, idx_0, idx_1, if_tt, if_ff, dSl, dNo, dSo, slD, imm_cD, imm_wD, intsD, sAppIx, sExt, sApp, lsD, sFor, seq_sD, eq_str, ne_str, eq_int, ne_int, nc0, nc1, nc2, nc3, nc4, decide_true, decide_false, ne_eq, not_true_eq_false, Int.reduceEq, not_false_eq_true, Bool.or_false, Bool.or_true, Bool.false_or, Bool.true_or, List.all_cons, List.all_nil, id_eq]
theorem e_c2 {n : Nat} {f : Int} (h1 : 2 ≤ n) (hn : n ≤ 40) (hf : f = 0 ∨ f = 1) (a c d e g : Option D) : c2 [a, some (.int n), some (.int f), c, d, e, g, none] = pu (.lst ((rs n f).map D.int)) := by
  unfold c2
  have hz : -(2 ^ 62) ≤ (n : Int) ∧ (n : Int) < 2 ^ 62 := by omega
  have m1 : mulD (.int ((n : Int) + 1)) (.int (1 - f)) = pu (.int (((n : Int) + 1) * (1 - f))) := mul_small (by omega) (by omega)
  simp (decide := true) (implicitDefEqProofs := false) only [bodyD, env0, sSeq, thenF, sIf, sRet, sRetN, sRetV, sSet, sSetN, sExpr, sNil, sAsg, sPar, resD, dV, dC, dOp, dUn, dNot, dAnd, dOr, dNotT, dAndT, dOrT, dB, dIf, dChain, dTup, dCons, dNil, dLst, dLstB, dCB, dCall, dCallK, dImm, dYes, a1, a2, bTup, bLst, bCons, bNil, bName, fSeq, seqOf, fRng1, fRng2, fEn, fZip, zip2, one1, ints1, ints2, asB, asI, negD, addD, subD, modD, ltD, gtD, geD, leD, isND, isnND, intOp, intOpC, lenD_lst, lenD_tup, lenD_frz, len_sD, tupleD, listD, absD, max2D, min2D, allD, isiD, tyN, isiT_tt, isiT_ii, isiT_ib, idxD, lsA, gw, gt, opt_some, opt_none, bd_pu, bd_fl, bd_bd, chk_true, chk_tt, D.imm, D.imms, D.isN, List.map_cons, List.map_nil, List.length_cons, List.length_nil, List.set_cons_zero, List.set_cons_succ, List.getElem?_cons_zero, List.getElem?_cons_succ, List.getElem?_nil, Option.bind_some, Option.bind_none, Option.join_some, Option.join_none, Option.map_some, Bool.and_true, Bool.true_and, Bool.and_false, Bool.false_and, Bool.not_true, Bool.not_false, Bool.false_eq_true, Bool.true_eq_false, if_true, if_false, ite_true, ite_false, List.cons_append, List.nil_append, List.append_nil, Nat.zero_add, Nat.reduceAdd, Nat.reduceSub, Nat.reduceLeDiff, Int.reduceNeg, List.replicate_succ, List.replicate_zero, true_and, and_true, List.length_map, and_pu, or_pu, tand_pu, tor_pu, idx_0, idx_1, if_tt, if_ff, dSl, dNo, dSo, slD, imm_cD, imm_wD, intsD, sAppIx, sExt, sApp, lsD, sFor, seq_sD, eq_str, ne_str, eq_int, ne_int, nc0, nc1, nc2, nc3, nc4, decide_true, decide_false, ne_eq, not_true_eq_false, Int.reduceEq, not_false_eq_true, Bool.or_false, Bool.or_true, Bool.false_or, Bool.true_or, List.all_cons, List.all_nil, id_eq, dLc, wipeE, chk_pos hz, Int.toNat_natCast]
  rw [lc_map (fun d => match d with | .int v => D.int (v + ((n : Int) + 1) * (1 - f)) | _ => .non) (rngD 0 n) (rng_small _ hn) (fun d q => by
    unfold rngD at q
    obtain ⟨k, _, rfl⟩ := List.mem_map.mp q
    refine ⟨_, by simp (decide := true) (implicitDefEqProofs := false) only [bodyD, env0, sSeq, thenF, sIf, sRet, sRetN, sRetV, sSet, sSetN, sExpr, sNil, sAsg, sPar, resD, dV, dC, dOp, dUn, dNot, dAnd, dOr, dNotT, dAndT, dOrT, dB, dIf, dChain, dTup, dCons, dNil, dLst, dLstB, dCB, dCall, dCallK, dImm, dYes, a1, a2, bTup, bLst, bCons, bNil, bName, fSeq, seqOf, fRng1, fRng2, fEn, fZip, zip2, one1, ints1, ints2, asB, asI, negD, addD, subD, modD, ltD, gtD, geD, leD, isND, isnND, intOp, intOpC, lenD_lst, lenD_tup, lenD_frz, len_sD, tupleD, listD, absD, max2D, min2D, allD, isiD, tyN, isiT_tt, isiT_ii, isiT_ib, idxD, lsA, gw, gt, opt_some, opt_none, bd_pu, bd_fl, bd_bd, chk_true, chk_tt, D.imm, D.imms, D.isN, List.map_cons, List.map_nil, List.length_cons, List.length_nil, List.set_cons_zero, List.set_cons_succ, List.getElem?_cons_zero, List.getElem?_cons_succ, List.getElem?_nil, Option.bind_some, Option.bind_none, Option.join_some, Option.join_none, Option.map_some, Bool.and_true, Bool.true_and, Bool.and_false, Bool.false_and, Bool.not_true, Bool.not_false, Bool.false_eq_true, Bool.true_eq_false, if_true, if_false, ite_true, ite_false, List.cons_append, List.nil_append, List.append_nil, Nat.zero_add, Nat.reduceAdd, Nat.reduceSub, Nat.reduceLeDiff, Int.reduceNeg, List.replicate_succ, List.replicate_zero, true_and, and_true, List.length_map, and_pu, or_pu, tand_pu, tor_pu, idx_0, idx_1, if_tt, if_ff, dSl, dNo, dSo, slD, imm_cD, imm_wD, intsD, sAppIx, sExt, sApp, lsD, sFor, seq_sD, eq_str, ne_str, eq_int, ne_int, nc0, nc1, nc2, nc3, nc4, decide_true, decide_false, ne_eq, not_true_eq_false, Int.reduceEq, not_false_eq_true, Bool.or_false, Bool.or_true, Bool.false_or, Bool.true_or, List.all_cons, List.all_nil, id_eq]; rfl, ?_, rfl⟩
    simp (decide := true) (implicitDefEqProofs := false) only [bodyD, env0, sSeq, thenF, sIf, sRet, sRetN, sRetV, sSet, sSetN, sExpr, sNil, sAsg, sPar, resD, dV, dC, dOp, dUn, dNot, dAnd, dOr, dNotT, dAndT, dOrT, dB, dIf, dChain, dTup, dCons, dNil, dLst, dLstB, dCB, dCall, dCallK, dImm, dYes, a1, a2, bTup, bLst, bCons, bNil, bName, fSeq, seqOf, fRng1, fRng2, fEn, fZip, zip2, one1, ints1, ints2, asB, asI, negD, addD, subD, modD, ltD, gtD, geD, leD, isND, isnND, intOp, intOpC, lenD_lst, lenD_tup, lenD_frz, len_sD, tupleD, listD, absD, max2D, min2D, allD, isiD, tyN, isiT_tt, isiT_ii, isiT_ib, idxD, lsA, gw, gt, opt_some, opt_none, bd_pu, bd_fl, bd_bd, chk_true, chk_tt, D.imm, D.imms, D.isN, List.map_cons, List.map_nil, List.length_cons, List.length_nil, List.set_cons_zero, List.set_cons_succ, List.getElem?_cons_zero, List.getElem?_cons_succ, List.getElem?_nil, Option.bind_some, Option.bind_none, Option.join_some, Option.join_none, Option.map_some, Bool.and_true, Bool.true_and, Bool.and_false, Bool.false_and, Bool.not_true, Bool.not_false, Bool.false_eq_true, Bool.true_eq_false, if_true, if_false, ite_true, ite_false, List.cons_append, List.nil_append, List.append_nil, Nat.zero_add, Nat.reduceAdd, Nat.reduceSub, Nat.reduceLeDiff, Int.reduceNeg, List.replicate_succ, List.replicate_zero, true_and, and_true, List.length_map, and_pu, or_pu, tand_pu, tor_pu, idx_0, idx_1, if_tt, if_ff, dSl, dNo, dSo, slD, imm_cD, imm_wD, intsD, sAppIx, sExt, sApp, lsD, sFor, seq_sD, eq_str, ne_str, eq_int, ne_int, nc0, nc1, nc2, nc3, nc4, decide_true, decide_false, ne_eq, not_true_eq_false, Int.reduceEq, not_false_eq_true, Bool.or_false, Bool.or_true, Bool.false_or, Bool.true_or, List.all_cons, List.all_nil, id_eq, m1]), rs_D n]
  simp (decide := true) (implicitDefEqProofs := false) only [bodyD, env0, sSeq, thenF, sIf, sRet, sRetN, sRetV, sSet, sSetN, sExpr, sNil, sAsg, sPar, resD, dV, dC, dOp, dUn, dNot, dAnd, dOr, dNotT, dAndT, dOrT, dB, dIf, dChain, dTup, dCons, dNil, dLst, dLstB, dCB, dCall, dCallK, dImm, dYes, a1, a2, bTup, bLst, bCons, bNil, bName, fSeq, seqOf, fRng1, fRng2, fEn, fZip, zip2, one1, ints1, ints2, asB, asI, negD, addD, subD, modD, ltD, gtD, geD, leD, isND, isnND, intOp, intOpC, lenD_lst, lenD_tup, lenD_frz, len_sD, tupleD, listD, absD, max2D, min2D, allD, isiD, tyN, isiT_tt, isiT_ii, isiT_ib, idxD, lsA, gw, gt, opt_some, opt_none, bd_pu, bd_fl, bd_bd, chk_true, chk_tt, D.imm, D.imms, D.isN, List.map_cons, List.map_nil, List.length_cons, List.length_nil, List.set_cons_zero, List.set_cons_succ, List.getElem?_cons_zero, List.getElem?_cons_succ, List.getElem?_nil, Option.bind_some, Option.bind_none, Option.join_some, Option.join_none, Option.map_some, Bool.and_true, Bool.true_and, Bool.and_false, Bool.false_and, Bool.not_true, Bool.not_false, Bool.false_eq_true, Bool.true_eq_false, if_true, if_false, ite_true, ite_false, List.cons_append, List.nil_append, List.append_nil, Nat.zero_add, Nat.reduceAdd, Nat.reduceSub, Nat.reduceLeDiff, Int.reduceNeg, List.replicate_succ, List.replicate_zero, true_and, and_true, List.length_map, and_pu, or_pu, tand_pu, tor_pu, idx_0, idx_1, if_tt, if_ff, dSl, dNo, dSo, slD, imm_cD, imm_wD, intsD, sAppIx, sExt, sApp, lsD, sFor, seq_sD, eq_str, ne_str, eq_int, ne_int, nc0, nc1, nc2, nc3, nc4, decide_true, decide_false, ne_eq, not_true_eq_false, Int.reduceEq, not_false_eq_true, Bool.or_false, Bool.or_true, Bool.false_or, Bool.true_or, List.all_cons, List.all_nil, id_eq]
theorem e_rep {n : Nat} (h1 : 2 ≤ n) (hn : n ≤ 40) : mulD (.tup [.tup [.int 0, .int (2 * (n : Int))]]) (.int n) = pu (.tup ((rw_ n).map wD)) := by
  show chk _ (pu (D.tup (List.replicate ((n : Int)).toNat [D.tup [.int 0, .int (2 * (n : Int))]]).flatten)) = _
  rw [chk_pos ⟨(fun z => nomatch z), by omega, by omega, by show 1 ≤ 1000; decide, rfl⟩, Int.toNat_natCast, rw_D]
theorem n_row : Ens (F__law_row_right [.src]) fun d => d = .bl true := by
  unfold F__law_row_right g__law_row_right
  simp (decide := true) (implicitDefEqProofs := false) only [bodyD, env0, sSeq, thenF, sIf, sRet, sRetN, sRetV, sSet, sSetN, sExpr, sNil, sAsg, sPar, resD, dV, dC, dOp, dUn, dNot, dAnd, dOr, dNotT, dAndT, dOrT, dB, dIf, dChain, dTup, dCons, dNil, dLst, dLstB, dCB, dCall, dCallK, dImm, dYes, a1, a2, bTup, bLst, bCons, bNil, bName, fSeq, seqOf, fRng1, fRng2, fEn, fZip, zip2, one1, ints1, ints2, asB, asI, negD, addD, subD, modD, ltD, gtD, geD, leD, isND, isnND, intOp, intOpC, lenD_lst, lenD_tup, lenD_frz, len_sD, tupleD, listD, absD, max2D, min2D, allD, isiD, tyN, isiT_tt, isiT_ii, isiT_ib, idxD, lsA, gw, gt, opt_some, opt_none, bd_pu, bd_fl, bd_bd, chk_true, chk_tt, D.imm, D.imms, D.isN, List.map_cons, List.map_nil, List.length_cons, List.length_nil, List.set_cons_zero, List.set_cons_succ, List.getElem?_cons_zero, List.getElem?_cons_succ, List.getElem?_nil, Option.bind_some, Option.bind_none, Option.join_some, Option.join_none, Option.map_some, Bool.and_true, Bool.true_and, Bool.and_false, Bool.false_and, Bool.not_true, Bool.not_false, Bool.false_eq_true, Bool.true_eq_false, if_true, if_false, ite_true, ite_false, List.cons_append, List.nil_append, List.append_nil, Nat.zero_add, Nat.reduceAdd, Nat.reduceSub, Nat.reduceLeDiff, Int.reduceNeg, List.replicate_succ, List.replicate_zero, true_and, and_true, List.length_map, and_pu, or_pu, tand_pu, tor_pu, idx_0, idx_1, if_tt, if_ff, dSl, dNo, dSo, slD, imm_cD, imm_wD, intsD, sAppIx, sExt, sApp, lsD, sFor, seq_sD, eq_str, ne_str, eq_int, ne_int, nc0, nc1, nc2, nc3, nc4, decide_true, decide_false, ne_eq, not_true_eq_false, Int.reduceEq, not_false_eq_true, Bool.or_false, Bool.or_true, Bool.false_or, Bool.true_or, List.all_cons, List.all_nil, id_eq, sPar, dImm]
  refine Ens.bd n_next ?_
  rintro _ ⟨r, rfl, r0, r1⟩
  simp (decide := true) (implicitDefEqProofs := false) only [bodyD, env0, sSeq, thenF, sIf, sRet, sRetN, sRetV, sSet, sSetN, sExpr, sNil, sAsg, sPar, resD, dV, dC, dOp, dUn, dNot, dAnd, dOr, dNotT, dAndT, dOrT, dB, dIf, dChain, dTup, dCons, dNil, dLst, dLstB, dCB, dCall, dCallK, dImm, dYes, a1, a2, bTup, bLst, bCons, bNil, bName, fSeq, seqOf, fRng1, fRng2, fEn, fZip, zip2, one1, ints1, ints2, asB, asI, negD, addD, subD, modD, ltD, gtD, geD, leD, isND, isnND, intOp, intOpC, lenD_lst, lenD_tup, lenD_frz, len_sD, tupleD, listD, absD, max2D, min2D, allD, isiD, tyN, isiT_tt, isiT_ii, isiT_ib, idxD, lsA, gw, gt, opt_some, opt_none, bd_pu, bd_fl, bd_bd, chk_true, chk_tt, D.imm, D.imms, D.isN, List.map_cons, List.map_nil, List.length_cons, List.length_nil, List.set_cons_zero, List.set_cons_succ, List.getElem?_cons_zero, List.getElem?_cons_succ, List.getElem?_nil, Option.bind_some, Option.bind_none, Option.join_some, Option.join_none, Option.map_some, Bool.and_true, Bool.true_and, Bool.and_false, Bool.false_and, Bool.not_true, Bool.not_false, Bool.false_eq_true, Bool.true_eq_false, if_true, if_false, ite_true, ite_false, List.cons_append, List.nil_append, List.append_nil, Nat.zero_add, Nat.reduceAdd, Nat.reduceSub, Nat.reduceLeDiff, Int.reduceNeg, List.replicate_succ, List.replicate_zero, true_and, and_true, List.length_map, and_pu, or_pu, tand_pu, tor_pu, idx_0, idx_1, if_tt, if_ff, dSl, dNo, dSo, slD, imm_cD, imm_wD, intsD, sAppIx, sExt, sApp, lsD, sFor, seq_sD, eq_str, ne_str, eq_int, ne_int, nc0, nc1, nc2, nc3, nc4, decide_true, decide_false, ne_eq, not_true_eq_false, Int.reduceEq, not_false_eq_true, Bool.or_false, Bool.or_true, Bool.false_or, Bool.true_or, List.all_cons, List.all_nil, id_eq, mod_pos _ 30 (by decide)]
  refine Ens.bd n_next ?_
  rintro _ ⟨q, rfl, q0, q1⟩
  obtain ⟨n, hn⟩ : ∃ n : Nat, 2 + r % 30 = (n : Nat) := ⟨(2 + r % 30).toNat, by omega⟩
  obtain ⟨f, hf⟩ : ∃ f, q % 2 = f := ⟨_, rfl⟩
  have hf' : f = 0 ∨ f = 1 := by omega
  have n2 : 2 ≤ n := by omega
  have n31 : n ≤ 31 := by omega
  have m2 : mulD (.int 2) (.int n) = pu (.int (2 * (n : Int))) := mul_small (by decide) (by omega)
  have k1 : ∀ a b c d e f, (dLc [7] (fRng1 (dCons (dOp subD (dV 1) (dC (.int 1))) dNil)) (bName 7) dYes (dTup (dCons (dV 7) (dCons (dOp addD (dV 7) (dC (.int 1))) (dCons (dC (.int 1)) (dCons (dC (.int 2)) dNil)))))) [a, some (.int n), b, c, d, e, f, none] = pu (.lst ((rc n).map cD)) := fun a b c d e f => e_c1 n2 (by omega) a b c d e f
  have k2 : ∀ a c d e g, (dLc [7] (fRng1 (dCons (dV 1) dNil)) (bName 7) dYes (dOp addD (dV 7) (dOp mulD (dOp addD (dV 1) (dC (.int 1))) (dOp subD (dC (.int 1)) (dV 2))))) [a, some (.int n), some (.int f), c, d, e, g, none] = pu (.lst ((rs n f).map D.int)) := fun a c d e g => e_c2 n2 (by omega) hf' a c d e g
  simp only [subD] at k1 k2
  have V := row_V n2 (show n ≤ 40 by omega)
  have S := row_S n2 hf'
  have lw : (rw_ n).length = n := List.length_replicate
  have hr : (n : Int) ≤ 16777216 ∧ (0 : Int) ≤ (n : Nat) := by omega
  simp (decide := true) (implicitDefEqProofs := false) only [bodyD, env0, sSeq, thenF, sIf, sRet, sRetN, sRetV, sSet, sSetN, sExpr, sNil, sAsg, sPar, resD, dV, dC, dOp, dUn, dNot, dAnd, dOr, dNotT, dAndT, dOrT, dB, dIf, dChain, dTup, dCons, dNil, dLst, dLstB, dCB, dCall, dCallK, dImm, dYes, a1, a2, bTup, bLst, bCons, bNil, bName, fSeq, seqOf, fRng1, fRng2, fEn, fZip, zip2, one1, ints1, ints2, asB, asI, negD, addD, subD, modD, ltD, gtD, geD, leD, isND, isnND, intOp, intOpC, lenD_lst, lenD_tup, lenD_frz, len_sD, tupleD, listD, absD, max2D, min2D, allD, isiD, tyN, isiT_tt, isiT_ii, isiT_ib, idxD, lsA, gw, gt, opt_some, opt_none, bd_pu, bd_fl, bd_bd, chk_true, chk_tt, D.imm, D.imms, D.isN, List.map_cons, List.map_nil, List.length_cons, List.length_nil, List.set_cons_zero, List.set_cons_succ, List.getElem?_cons_zero, List.getElem?_cons_succ, List.getElem?_nil, Option.bind_some, Option.bind_none, Option.join_some, Option.join_none, Option.map_some, Bool.and_true, Bool.true_and, Bool.and_false, Bool.false_and, Bool.not_true, Bool.not_false, Bool.false_eq_true, Bool.true_eq_false, if_true, if_false, ite_true, ite_false, List.cons_append, List.nil_append, List.append_nil, Nat.zero_add, Nat.reduceAdd, Nat.reduceSub, Nat.reduceLeDiff, Int.reduceNeg, List.replicate_succ, List.replicate_zero, true_and, and_true, List.length_map, and_pu, or_pu, tand_pu, tor_pu, idx_0, idx_1, if_tt, if_ff, dSl, dNo, dSo, slD, imm_cD, imm_wD, intsD, sAppIx, sExt, sApp, lsD, sFor, seq_sD, eq_str, ne_str, eq_int, ne_int, nc0, nc1, nc2, nc3, nc4, decide_true, decide_false, ne_eq, not_true_eq_false, Int.reduceEq, not_false_eq_true, Bool.or_false, Bool.or_true, Bool.false_or, Bool.true_or, List.all_cons, List.all_nil, id_eq, mod_pos _ 2 (by decide), hn, hf, m2, e_rep n2 (show n ≤ 40 by omega), k1, k2, imms_wD, imms_cD, imms_int]
  have en : (n : Int) - 1 = ((n - 1 : Nat) : Int) := by omega
  simp (decide := true) (implicitDefEqProofs := false) only [bodyD, env0, sSeq, thenF, sIf, sRet, sRetN, sRetV, sSet, sSetN, sExpr, sNil, sAsg, sPar, resD, dV, dC, dOp, dUn, dNot, dAnd, dOr, dNotT, dAndT, dOrT, dB, dIf, dChain, dTup, dCons, dNil, dLst, dLstB, dCB, dCall, dCallK, dImm, dYes, a1, a2, bTup, bLst, bCons, bNil, bName, fSeq, seqOf, fRng1, fRng2, fEn, fZip, zip2, one1, ints1, ints2, asB, asI, negD, addD, subD, modD, ltD, gtD, geD, leD, isND, isnND, intOp, intOpC, lenD_lst, lenD_tup, lenD_frz, len_sD, tupleD, listD, absD, max2D, min2D, allD, isiD, tyN, isiT_tt, isiT_ii, isiT_ib, idxD, lsA, gw, gt, opt_some, opt_none, bd_pu, bd_fl, bd_bd, chk_true, chk_tt, D.imm, D.imms, D.isN, List.map_cons, List.map_nil, List.length_cons, List.length_nil, List.set_cons_zero, List.set_cons_succ, List.getElem?_cons_zero, List.getElem?_cons_succ, List.getElem?_nil, Option.bind_some, Option.bind_none, Option.join_some, Option.join_none, Option.map_some, Bool.and_true, Bool.true_and, Bool.and_false, Bool.false_and, Bool.not_true, Bool.not_false, Bool.false_eq_true, Bool.true_eq_false, if_true, if_false, ite_true, ite_false, List.cons_append, List.nil_append, List.append_nil, Nat.zero_add, Nat.reduceAdd, Nat.reduceSub, Nat.reduceLeDiff, Int.reduceNeg, List.replicate_succ, List.replicate_zero, true_and, and_true, List.length_map, and_pu, or_pu, tand_pu, tor_pu, idx_0, idx_1, if_tt, if_ff, dSl, dNo, dSo, slD, imm_cD, imm_wD, intsD, sAppIx, sExt, sApp, lsD, sFor, seq_sD, eq_str, ne_str, eq_int, ne_int, nc0, nc1, nc2, nc3, nc4, decide_true, decide_false, ne_eq, not_true_eq_false, Int.reduceEq, not_false_eq_true, Bool.or_false, Bool.or_true, Bool.false_or, Bool.true_or, List.all_cons, List.all_nil, id_eq, tupRng, chk_pos hr, Int.toNat_natCast, rngD_nI, imms_int, dTr, trD]
  have R1 := n_reason (g := 1) (v := 0) V S (by rw [lw]; omega) (.inr rfl)
  have R2 := n_reason (g := 1) (v := n - 1) V S (by rw [lw]; omega) (.inr rfl)
  have C1 := row_first n2 (show n ≤ 40 by omega) hf'
  have C2 := row_ch (f := f) n2 (show n ≤ 40 by omega) hf' 0 (by omega)
  have hcan1 : canB (rw_ n) (rc n) (rs n f) 0 1 = false := by
    cases hx : canB (rw_ n) (rc n) (rs n f) 0 1 with
    | false => rfl
    | true =>
      exfalso
      have a1 := row_wall (n := n) (v := 0) hf' (by omega)
      have a2 := row_nx (n := n) (v := 0) (f := f) n2 (show n ≤ 40 by omega) (by omega)
      rw [decide_eq_false (show ¬ 0 + 1 = n by omega), Bool.and_false] at a1
      rw [if_pos (by omega)] at a2
      rw [canB_nx a1, a2] at hx
      cases hx
  rcases hf' with rfl | rfl
  · have hcan2 : canB (rw_ n) (rc n) (rs n 0) (n - 1) 1 = false := canB_wall (by
      have a1 := row_wall (n := n) (v := n - 1) (f := 0) (.inl rfl) (by omega)
      rw [a1, decide_eq_true (show n - 1 + 1 = n by omega)]
      rfl)
    simp (decide := true) (implicitDefEqProofs := false) only [bodyD, env0, sSeq, thenF, sIf, sRet, sRetN, sRetV, sSet, sSetN, sExpr, sNil, sAsg, sPar, resD, dV, dC, dOp, dUn, dNot, dAnd, dOr, dNotT, dAndT, dOrT, dB, dIf, dChain, dTup, dCons, dNil, dLst, dLstB, dCB, dCall, dCallK, dImm, dYes, a1, a2, bTup, bLst, bCons, bNil, bName, fSeq, seqOf, fRng1, fRng2, fEn, fZip, zip2, one1, ints1, ints2, asB, asI, negD, addD, subD, modD, ltD, gtD, geD, leD, isND, isnND, intOp, intOpC, lenD_lst, lenD_tup, lenD_frz, len_sD, tupleD, listD, absD, max2D, min2D, allD, isiD, tyN, isiT_tt, isiT_ii, isiT_ib, idxD, lsA, gw, gt, opt_some, opt_none, bd_pu, bd_fl, bd_bd, chk_true, chk_tt, D.imm, D.imms, D.isN, List.map_cons, List.map_nil, List.length_cons, List.length_nil, List.set_cons_zero, List.set_cons_succ, List.getElem?_cons_zero, List.getElem?_cons_succ, List.getElem?_nil, Option.bind_some, Option.bind_none, Option.join_some, Option.join_none, Option.map_some, Bool.and_true, Bool.true_and, Bool.and_false, Bool.false_and, Bool.not_true, Bool.not_false, Bool.false_eq_true, Bool.true_eq_false, if_true, if_false, ite_true, ite_false, List.cons_append, List.nil_append, List.append_nil, Nat.zero_add, Nat.reduceAdd, Nat.reduceSub, Nat.reduceLeDiff, Int.reduceNeg, List.replicate_succ, List.replicate_zero, true_and, and_true, List.length_map, and_pu, or_pu, tand_pu, tor_pu, idx_0, idx_1, if_tt, if_ff, dSl, dNo, dSo, slD, imm_cD, imm_wD, intsD, sAppIx, sExt, sApp, lsD, sFor, seq_sD, eq_str, ne_str, eq_int, ne_int, nc0, nc1, nc2, nc3, nc4, decide_true, decide_false, ne_eq, not_true_eq_false, Int.reduceEq, not_false_eq_true, Bool.or_false, Bool.or_true, Bool.false_or, Bool.true_or, List.all_cons, List.all_nil, id_eq, en]
    refine Ens.bd R1 ?_
    rintro _ (⟨hx, _⟩ | ⟨_, l1, b1, hch1, _, rfl⟩)
    · rw [hcan1] at hx; cases hx
    obtain ⟨rfl, rfl⟩ := Ch.det C1 hch1
    refine Ens.bd R2 ?_
    rintro _ (⟨hx, _⟩ | ⟨_, l2, b2, hch2, _, rfl⟩)
    · rw [hcan2] at hx; cases hx
    obtain ⟨rfl, rfl⟩ := Ch.det C2 hch2
    refine Ens.bd (q_two (rsD [n - 1] true) _ (List.range n) true (py_rs _ _) (lay_rs _ _) (dep_rs _ _)) ?_
    rintro _ rfl
    simp (decide := true) (implicitDefEqProofs := false) only [bodyD, env0, sSeq, thenF, sIf, sRet, sRetN, sRetV, sSet, sSetN, sExpr, sNil, sAsg, sPar, resD, dV, dC, dOp, dUn, dNot, dAnd, dOr, dNotT, dAndT, dOrT, dB, dIf, dChain, dTup, dCons, dNil, dLst, dLstB, dCB, dCall, dCallK, dImm, dYes, a1, a2, bTup, bLst, bCons, bNil, bName, fSeq, seqOf, fRng1, fRng2, fEn, fZip, zip2, one1, ints1, ints2, asB, asI, negD, addD, subD, modD, ltD, gtD, geD, leD, isND, isnND, intOp, intOpC, lenD_lst, lenD_tup, lenD_frz, len_sD, tupleD, listD, absD, max2D, min2D, allD, isiD, tyN, isiT_tt, isiT_ii, isiT_ib, idxD, lsA, gw, gt, opt_some, opt_none, bd_pu, bd_fl, bd_bd, chk_true, chk_tt, D.imm, D.imms, D.isN, List.map_cons, List.map_nil, List.length_cons, List.length_nil, List.set_cons_zero, List.set_cons_succ, List.getElem?_cons_zero, List.getElem?_cons_succ, List.getElem?_nil, Option.bind_some, Option.bind_none, Option.join_some, Option.join_none, Option.map_some, Bool.and_true, Bool.true_and, Bool.and_false, Bool.false_and, Bool.not_true, Bool.not_false, Bool.false_eq_true, Bool.true_eq_false, if_true, if_false, ite_true, ite_false, List.cons_append, List.nil_append, List.append_nil, Nat.zero_add, Nat.reduceAdd, Nat.reduceSub, Nat.reduceLeDiff, Int.reduceNeg, List.replicate_succ, List.replicate_zero, true_and, and_true, List.length_map, and_pu, or_pu, tand_pu, tor_pu, idx_0, idx_1, if_tt, if_ff, dSl, dNo, dSo, slD, imm_cD, imm_wD, intsD, sAppIx, sExt, sApp, lsD, sFor, seq_sD, eq_str, ne_str, eq_int, ne_int, nc0, nc1, nc2, nc3, nc4, decide_true, decide_false, ne_eq, not_true_eq_false, Int.reduceEq, not_false_eq_true, Bool.or_false, Bool.or_true, Bool.false_or, Bool.true_or, List.all_cons, List.all_nil, id_eq]
    exact Ens.pu rfl
  · have hcan2 : canB (rw_ n) (rc n) (rs n 1) (n - 1) 1 = true := by
      have a1 := row_wall (n := n) (v := n - 1) (f := 1) (.inr rfl) (by omega)
      have a2 := row_nx (n := n) (v := n - 1) (f := 1) n2 (show n ≤ 40 by omega) (by omega)
      rw [if_neg (by omega)] at a2
      rw [canB_nx a1, a2]
      rfl
    simp (decide := true) (implicitDefEqProofs := false) only [bodyD, env0, sSeq, thenF, sIf, sRet, sRetN, sRetV, sSet, sSetN, sExpr, sNil, sAsg, sPar, resD, dV, dC, dOp, dUn, dNot, dAnd, dOr, dNotT, dAndT, dOrT, dB, dIf, dChain, dTup, dCons, dNil, dLst, dLstB, dCB, dCall, dCallK, dImm, dYes, a1, a2, bTup, bLst, bCons, bNil, bName, fSeq, seqOf, fRng1, fRng2, fEn, fZip, zip2, one1, ints1, ints2, asB, asI, negD, addD, subD, modD, ltD, gtD, geD, leD, isND, isnND, intOp, intOpC, lenD_lst, lenD_tup, lenD_frz, len_sD, tupleD, listD, absD, max2D, min2D, allD, isiD, tyN, isiT_tt, isiT_ii, isiT_ib, idxD, lsA, gw, gt, opt_some, opt_none, bd_pu, bd_fl, bd_bd, chk_true, chk_tt, D.imm, D.imms, D.isN, List.map_cons, List.map_nil, List.length_cons, List.length_nil, List.set_cons_zero, List.set_cons_succ, List.getElem?_cons_zero, List.getElem?_cons_succ, List.getElem?_nil, Option.bind_some, Option.bind_none, Option.join_some, Option.join_none, Option.map_some, Bool.and_true, Bool.true_and, Bool.and_false, Bool.false_and, Bool.not_true, Bool.not_false, Bool.false_eq_true, Bool.true_eq_false, if_true, if_false, ite_true, ite_false, List.cons_append, List.nil_append, List.append_nil, Nat.zero_add, Nat.reduceAdd, Nat.reduceSub, Nat.reduceLeDiff, Int.reduceNeg, List.replicate_succ, List.replicate_zero, true_and, and_true, List.length_map, and_pu, or_pu, tand_pu, tor_pu, idx_0, idx_1, if_tt, if_ff, dSl, dNo, dSo, slD, imm_cD, imm_wD, intsD, sAppIx, sExt, sApp, lsD, sFor, seq_sD, eq_str, ne_str, eq_int, ne_int, nc0, nc1, nc2, nc3, nc4, decide_true, decide_false, ne_eq, not_true_eq_false, Int.reduceEq, not_false_eq_true, Bool.or_false, Bool.or_true, Bool.false_or, Bool.true_or, List.all_cons, List.all_nil, id_eq, en]
    refine Ens.bd R1 ?_
    rintro _ (⟨hx, _⟩ | ⟨_, l1, b1, hch1, _, rfl⟩)
    · rw [hcan1] at hx; cases hx
    obtain ⟨rfl, rfl⟩ := Ch.det C1 hch1
    refine Ens.bd R2 ?_
    rintro _ (⟨_, rfl⟩ | ⟨hx, _⟩)
    · refine Ens.bd (q_two .non .none (List.range n) false rfl rfl (Nat.zero_le _)) ?_
      rintro _ rfl
      simp (decide := true) (implicitDefEqProofs := false) only [bodyD, env0, sSeq, thenF, sIf, sRet, sRetN, sRetV, sSet, sSetN, sExpr, sNil, sAsg, sPar, resD, dV, dC, dOp, dUn, dNot, dAnd, dOr, dNotT, dAndT, dOrT, dB, dIf, dChain, dTup, dCons, dNil, dLst, dLstB, dCB, dCall, dCallK, dImm, dYes, a1, a2, bTup, bLst, bCons, bNil, bName, fSeq, seqOf, fRng1, fRng2, fEn, fZip, zip2, one1, ints1, ints2, asB, asI, negD, addD, subD, modD, ltD, gtD, geD, leD, isND, isnND, intOp, intOpC, lenD_lst, lenD_tup, lenD_frz, len_sD, tupleD, listD, absD, max2D, min2D, allD, isiD, tyN, isiT_tt, isiT_ii, isiT_ib, idxD, lsA, gw, gt, opt_some, opt_none, bd_pu, bd_fl, bd_bd, chk_true, chk_tt, D.imm, D.imms, D.isN, List.map_cons, List.map_nil, List.length_cons, List.length_nil, List.set_cons_zero, List.set_cons_succ, List.getElem?_cons_zero, List.getElem?_cons_succ, List.getElem?_nil, Option.bind_some, Option.bind_none, Option.join_some, Option.join_none, Option.map_some, Bool.and_true, Bool.true_and, Bool.and_false, Bool.false_and, Bool.not_true, Bool.not_false, Bool.false_eq_true, Bool.true_eq_false, if_true, if_false, ite_true, ite_false, List.cons_append, List.nil_append, List.append_nil, Nat.zero_add, Nat.reduceAdd, Nat.reduceSub, Nat.reduceLeDiff, Int.reduceNeg, List.replicate_succ, List.replicate_zero, true_and, and_true, List.length_map, and_pu, or_pu, tand_pu, tor_pu, idx_0, idx_1, if_tt, if_ff, dSl, dNo, dSo, slD, imm_cD, imm_wD, intsD, sAppIx, sExt, sApp, lsD, sFor, seq_sD, eq_str, ne_str, eq_int, ne_int, nc0, nc1, nc2, nc3, nc4, decide_true, decide_false, ne_eq, not_true_eq_false, Int.reduceEq, not_false_eq_true, Bool.or_false, Bool.or_true, Bool.false_or, Bool.true_or, List.all_cons, List.all_nil, id_eq]
      exact Ens.pu rfl
    · rw [hcan2] at hx; cases hx
end K14
namespace K14
open PySem L2 DL CY DC
theorem pow109 : powD (.int 10) (.int 9) = pu (.int 1000000000) := by
  show chk (CPow 10 9) (pu (D.int (10 ^ (9 : Int).toNat))) = _
  rw [chk_pos ⟨by decide, by decide, by decide⟩]
  rfl
theorem cut1 (xs : List D) : DL.cut xs (some 1) none = xs.drop 1 := cut_from xs 1
def widC : DL.Env → DL.W D := (dLc [8, 9] (fSeq (dOp idxD (dV 3) (dC (.int 0)))) (bTup 2 (bCons (bName 8) (bCons (bName 9) bNil))) dYes (dTup (dCons (dCB (a2 max2D) (dCons (dOp subD (dV 8) (dC (.int 1))) (dCons (dOp subD (dC (.int 0)) (dOp powD (dC (.int 10)) (dC (.int 9)))) dNil))) (dCons (dCB (a2 min2D) (dCons (dOp addD (dV 9) (dC (.int 1))) (dCons (dOp powD (dC (.int 10)) (dC (.int 9))) dNil))) dNil))))
def unW : D → Int × Int
  | .tup [.int a, .int b] => (a, b)
  | _ => (0, 0)
theorem e_wid {ws : List (Int × Int)} {cs : List Cp} (h : ws.length ≤ 40) (a b c d e f g : Option D) : widC [a, b, c, some (yD ws cs), d, e, f, g, none, none] = pu (.lst ((ws.map wid).map wD)) := by
  unfold widC
  simp (decide := true) (implicitDefEqProofs := false) only [bodyD, env0, sSeq, thenF, sIf, sRet, sRetN, sRetV, sSet, sSetN, sExpr, sNil, sAsg, sPar, resD, dV, dC, dOp, dUn, dNot, dAnd, dOr, dNotT, dAndT, dOrT, dB, dIf, dChain, dTup, dCons, dNil, dLst, dLstB, dCB, dCall, dCallK, dImm, dYes, a1, a2, bTup, bLst, bCons, bNil, bName, fSeq, seqOf, fRng1, fRng2, fEn, fZip, zip2, one1, ints1, ints2, asB, asI, negD, addD, subD, modD, ltD, gtD, geD, leD, isND, isnND, intOp, intOpC, lenD_lst, lenD_tup, lenD_frz, len_sD, tupleD, listD, absD, max2D, min2D, allD, isiD, tyN, isiT_tt, isiT_ii, isiT_ib, idxD, lsA, gw, gt, opt_some, opt_none, bd_pu, bd_fl, bd_bd, chk_true, chk_tt, D.imm, D.imms, D.isN, List.map_cons, List.map_nil, List.length_cons, List.length_nil, List.set_cons_zero, List.set_cons_succ, List.getElem?_cons_zero, List.getElem?_cons_succ, List.getElem?_nil, Option.bind_some, Option.bind_none, Option.join_some, Option.join_none, Option.map_some, Bool.and_true, Bool.true_and, Bool.and_false, Bool.false_and, Bool.not_true, Bool.not_false, Bool.false_eq_true, Bool.true_eq_false, if_true, if_false, ite_true, ite_false, List.cons_append, List.nil_append, List.append_nil, Nat.zero_add, Nat.reduceAdd, Nat.reduceSub, Nat.reduceLeDiff, Int.reduceNeg, List.replicate_succ, List.replicate_zero, true_and, and_true, List.length_map, and_pu, or_pu, tand_pu, tor_pu, idx_0, idx_1, if_tt, if_ff, dSl, dNo, dSo, slD, imm_cD, imm_wD, intsD, sAppIx, sExt, sApp, lsD, sFor, seq_sD, eq_str, ne_str, eq_int, ne_int, nc0, nc1, nc2, nc3, nc4, decide_true, decide_false, ne_eq, not_true_eq_false, Int.reduceEq, not_false_eq_true, Bool.or_false, Bool.or_true, Bool.false_or, Bool.true_or, List.all_cons, List.all_nil, id_eq, dLc, wipeE, yD, imms_wD]
  rw [lc_map (fun d => wD (wid (unW d))) (ws.map wD) (by rw [List.length_map]; exact small (by omega)) (fun d q => by
    obtain ⟨w, _, rfl⟩ := List.mem_map.mp q
    refine ⟨_, by simp (decide := true) (implicitDefEqProofs := false) only [bodyD, env0, sSeq, thenF, sIf, sRet, sRetN, sRetV, sSet, sSetN, sExpr, sNil, sAsg, sPar, resD, dV, dC, dOp, dUn, dNot, dAnd, dOr, dNotT, dAndT, dOrT, dB, dIf, dChain, dTup, dCons, dNil, dLst, dLstB, dCB, dCall, dCallK, dImm, dYes, a1, a2, bTup, bLst, bCons, bNil, bName, fSeq, seqOf, fRng1, fRng2, fEn, fZip, zip2, one1, ints1, ints2, asB, asI, negD, addD, subD, modD, ltD, gtD, geD, leD, isND, isnND, intOp, intOpC, lenD_lst, lenD_tup, lenD_frz, len_sD, tupleD, listD, absD, max2D, min2D, allD, isiD, tyN, isiT_tt, isiT_ii, isiT_ib, idxD, lsA, gw, gt, opt_some, opt_none, bd_pu, bd_fl, bd_bd, chk_true, chk_tt, D.imm, D.imms, D.isN, List.map_cons, List.map_nil, List.length_cons, List.length_nil, List.set_cons_zero, List.set_cons_succ, List.getElem?_cons_zero, List.getElem?_cons_succ, List.getElem?_nil, Option.bind_some, Option.bind_none, Option.join_some, Option.join_none, Option.map_some, Bool.and_true, Bool.true_and, Bool.and_false, Bool.false_and, Bool.not_true, Bool.not_false, Bool.false_eq_true, Bool.true_eq_false, if_true, if_false, ite_true, ite_false, List.cons_append, List.nil_append, List.append_nil, Nat.zero_add, Nat.reduceAdd, Nat.reduceSub, Nat.reduceLeDiff, Int.reduceNeg, List.replicate_succ, List.replicate_zero, true_and, and_true, List.length_map, and_pu, or_pu, tand_pu, tor_pu, idx_0, idx_1, if_tt, if_ff, dSl, dNo, dSo, slD, imm_cD, imm_wD, intsD, sAppIx, sExt, sApp, lsD, sFor, seq_sD, eq_str, ne_str, eq_int, ne_int, nc0, nc1, nc2, nc3, nc4, decide_true, decide_false, ne_eq, not_true_eq_false, Int.reduceEq, not_false_eq_true, Bool.or_false, Bool.or_true, Bool.false_or, Bool.true_or, List.all_cons, List.all_nil, id_eq, wD]; rfl, ?_, rfl⟩
    simp (decide := true) (implicitDefEqProofs := false) only [bodyD, env0, sSeq, thenF, sIf, sRet, sRetN, sRetV, sSet, sSetN, sExpr, sNil, sAsg, sPar, resD, dV, dC, dOp, dUn, dNot, dAnd, dOr, dNotT, dAndT, dOrT, dB, dIf, dChain, dTup, dCons, dNil, dLst, dLstB, dCB, dCall, dCallK, dImm, dYes, a1, a2, bTup, bLst, bCons, bNil, bName, fSeq, seqOf, fRng1, fRng2, fEn, fZip, zip2, one1, ints1, ints2, asB, asI, negD, addD, subD, modD, ltD, gtD, geD, leD, isND, isnND, intOp, intOpC, lenD_lst, lenD_tup, lenD_frz, len_sD, tupleD, listD, absD, max2D, min2D, allD, isiD, tyN, isiT_tt, isiT_ii, isiT_ib, idxD, lsA, gw, gt, opt_some, opt_none, bd_pu, bd_fl, bd_bd, chk_true, chk_tt, D.imm, D.imms, D.isN, List.map_cons, List.map_nil, List.length_cons, List.length_nil, List.set_cons_zero, List.set_cons_succ, List.getElem?_cons_zero, List.getElem?_cons_succ, List.getElem?_nil, Option.bind_some, Option.bind_none, Option.join_some, Option.join_none, Option.map_some, Bool.and_true, Bool.true_and, Bool.and_false, Bool.false_and, Bool.not_true, Bool.not_false, Bool.false_eq_true, Bool.true_eq_false, if_true, if_false, ite_true, ite_false, List.cons_append, List.nil_append, List.append_nil, Nat.zero_add, Nat.reduceAdd, Nat.reduceSub, Nat.reduceLeDiff, Int.reduceNeg, List.replicate_succ, List.replicate_zero, true_and, and_true, List.length_map, and_pu, or_pu, tand_pu, tor_pu, idx_0, idx_1, if_tt, if_ff, dSl, dNo, dSo, slD, imm_cD, imm_wD, intsD, sAppIx, sExt, sApp, lsD, sFor, seq_sD, eq_str, ne_str, eq_int, ne_int, nc0, nc1, nc2, nc3, nc4, decide_true, decide_false, ne_eq, not_true_eq_false, Int.reduceEq, not_false_eq_true, Bool.or_false, Bool.or_true, Bool.false_or, Bool.true_or, List.all_cons, List.all_nil, id_eq, pow109, unW, wD, wid]
    rfl)]
  simp (decide := true) (implicitDefEqProofs := false) only [bodyD, env0, sSeq, thenF, sIf, sRet, sRetN, sRetV, sSet, sSetN, sExpr, sNil, sAsg, sPar, resD, dV, dC, dOp, dUn, dNot, dAnd, dOr, dNotT, dAndT, dOrT, dB, dIf, dChain, dTup, dCons, dNil, dLst, dLstB, dCB, dCall, dCallK, dImm, dYes, a1, a2, bTup, bLst, bCons, bNil, bName, fSeq, seqOf, fRng1, fRng2, fEn, fZip, zip2, one1, ints1, ints2, asB, asI, negD, addD, subD, modD, ltD, gtD, geD, leD, isND, isnND, intOp, intOpC, lenD_lst, lenD_tup, lenD_frz, len_sD, tupleD, listD, absD, max2D, min2D, allD, isiD, tyN, isiT_tt, isiT_ii, isiT_ib, idxD, lsA, gw, gt, opt_some, opt_none, bd_pu, bd_fl, bd_bd, chk_true, chk_tt, D.imm, D.imms, D.isN, List.map_cons, List.map_nil, List.length_cons, List.length_nil, List.set_cons_zero, List.set_cons_succ, List.getElem?_cons_zero, List.getElem?_cons_succ, List.getElem?_nil, Option.bind_some, Option.bind_none, Option.join_some, Option.join_none, Option.map_some, Bool.and_true, Bool.true_and, Bool.and_false, Bool.false_and, Bool.not_true, Bool.not_false, Bool.false_eq_true, Bool.true_eq_false, if_true, if_false, ite_true, ite_false, List.cons_append, List.nil_append, List.append_nil, Nat.zero_add, Nat.reduceAdd, Nat.reduceSub, Nat.reduceLeDiff, Int.reduceNeg, List.replicate_succ, List.replicate_zero, true_and, and_true, List.length_map, and_pu, or_pu, tand_pu, tor_pu, idx_0, idx_1, if_tt, if_ff, dSl, dNo, dSo, slD, imm_cD, imm_wD, intsD, sAppIx, sExt, sApp, lsD, sFor, seq_sD, eq_str, ne_str, eq_int, ne_int, nc0, nc1, nc2, nc3, nc4, decide_true, decide_false, ne_eq, not_true_eq_false, Int.reduceEq, not_false_eq_true, Bool.or_false, Bool.or_true, Bool.false_or, Bool.true_or, List.all_cons, List.all_nil, id_eq]
  rw [List.map_map, List.map_map]
  rfl
theorem n_law (ns : List Int) (h63 : ns.length ≤ 63) : Ens (g_lawR (env0 N_law.length [.frz (ns.map D.int), .src])) fun r => r.1 = .rt (.bl true) := by
  unfold g_lawR
  have hz : -(2 ^ 62) ≤ (3 : Int) + ((min 63 ns.length : Nat) : Int) / 8 ∧ (3 : Int) + ((min 63 ns.length : Nat) : Int) / 8 < 2 ^ 62 := by omega
  simp (decide := true) (implicitDefEqProofs := false) only [bodyD, env0, sSeq, thenF, sIf, sRet, sRetN, sRetV, sSet, sSetN, sExpr, sNil, sAsg, sPar, resD, dV, dC, dOp, dUn, dNot, dAnd, dOr, dNotT, dAndT, dOrT, dB, dIf, dChain, dTup, dCons, dNil, dLst, dLstB, dCB, dCall, dCallK, dImm, dYes, a1, a2, bTup, bLst, bCons, bNil, bName, fSeq, seqOf, fRng1, fRng2, fEn, fZip, zip2, one1, ints1, ints2, asB, asI, negD, addD, subD, modD, ltD, gtD, geD, leD, isND, isnND, intOp, intOpC, lenD_lst, lenD_tup, lenD_frz, len_sD, tupleD, listD, absD, max2D, min2D, allD, isiD, tyN, isiT_tt, isiT_ii, isiT_ib, idxD, lsA, gw, gt, opt_some, opt_none, bd_pu, bd_fl, bd_bd, chk_true, chk_tt, D.imm, D.imms, D.isN, List.map_cons, List.map_nil, List.length_cons, List.length_nil, List.set_cons_zero, List.set_cons_succ, List.getElem?_cons_zero, List.getElem?_cons_succ, List.getElem?_nil, Option.bind_some, Option.bind_none, Option.join_some, Option.join_none, Option.map_some, Bool.and_true, Bool.true_and, Bool.and_false, Bool.false_and, Bool.not_true, Bool.not_false, Bool.false_eq_true, Bool.true_eq_false, if_true, if_false, ite_true, ite_false, List.cons_append, List.nil_append, List.append_nil, Nat.zero_add, Nat.reduceAdd, Nat.reduceSub, Nat.reduceLeDiff, Int.reduceNeg, List.replicate_succ, List.replicate_zero, true_and, and_true, List.length_map, and_pu, or_pu, tand_pu, tor_pu, idx_0, idx_1, if_tt, if_ff, dSl, dNo, dSo, slD, imm_cD, imm_wD, intsD, sAppIx, sExt, sApp, lsD, sFor, seq_sD, eq_str, ne_str, eq_int, ne_int, nc0, nc1, nc2, nc3, nc4, decide_true, decide_false, ne_eq, not_true_eq_false, Int.reduceEq, not_false_eq_true, Bool.or_false, Bool.or_true, Bool.false_or, Bool.true_or, List.all_cons, List.all_nil, id_eq, cut63, List.length_take, f8, chk_pos hz]
  refine Ens.bdFor (fun _ δ => ∃ a b c d e f : Option D, δ = [some (.frz (ns.map D.int)), some .src, a, b, c, d, e, f, none, none]) ⟨_, _, _, _, _, _, rfl⟩ ?_ ?_
  · rintro i d δ hd ⟨a, b, c, d', e, f, rfl⟩
    obtain ⟨hi, rfl⟩ := rngD_at hd
    obtain ⟨most, hmost, el⟩ : ∃ most : Nat, (1 ≤ most ∧ most ≤ 40) ∧ (if decide ((i : Int) = 1) = true then pu (D.int 30) else pu (D.int 9) : DL.W D) = pu (.int (most : Nat)) := by
      by_cases h : decide ((i : Int) = 1) = true
      · exact ⟨30, by decide, by rw [if_pos h]; rfl⟩
      · exact ⟨9, by decide, by rw [if_neg h]; rfl⟩
    simp (decide := true) (implicitDefEqProofs := false) only [bodyD, env0, sSeq, thenF, sIf, sRet, sRetN, sRetV, sSet, sSetN, sExpr, sNil, sAsg, sPar, resD, dV, dC, dOp, dUn, dNot, dAnd, dOr, dNotT, dAndT, dOrT, dB, dIf, dChain, dTup, dCons, dNil, dLst, dLstB, dCB, dCall, dCallK, dImm, dYes, a1, a2, bTup, bLst, bCons, bNil, bName, fSeq, seqOf, fRng1, fRng2, fEn, fZip, zip2, one1, ints1, ints2, asB, asI, negD, addD, subD, modD, ltD, gtD, geD, leD, isND, isnND, intOp, intOpC, lenD_lst, lenD_tup, lenD_frz, len_sD, tupleD, listD, absD, max2D, min2D, allD, isiD, tyN, isiT_tt, isiT_ii, isiT_ib, idxD, lsA, gw, gt, opt_some, opt_none, bd_pu, bd_fl, bd_bd, chk_true, chk_tt, D.imm, D.imms, D.isN, List.map_cons, List.map_nil, List.length_cons, List.length_nil, List.set_cons_zero, List.set_cons_succ, List.getElem?_cons_zero, List.getElem?_cons_succ, List.getElem?_nil, Option.bind_some, Option.bind_none, Option.join_some, Option.join_none, Option.map_some, Bool.and_true, Bool.true_and, Bool.and_false, Bool.false_and, Bool.not_true, Bool.not_false, Bool.false_eq_true, Bool.true_eq_false, if_true, if_false, ite_true, ite_false, List.cons_append, List.nil_append, List.append_nil, Nat.zero_add, Nat.reduceAdd, Nat.reduceSub, Nat.reduceLeDiff, Int.reduceNeg, List.replicate_succ, List.replicate_zero, true_and, and_true, List.length_map, and_pu, or_pu, tand_pu, tor_pu, idx_0, idx_1, if_tt, if_ff, dSl, dNo, dSo, slD, imm_cD, imm_wD, intsD, sAppIx, sExt, sApp, lsD, sFor, seq_sD, eq_str, ne_str, eq_int, ne_int, nc0, nc1, nc2, nc3, nc4, decide_true, decide_false, ne_eq, not_true_eq_false, Int.reduceEq, not_false_eq_true, Bool.or_false, Bool.or_true, Bool.false_or, Bool.true_or, List.all_cons, List.all_nil, id_eq]
    rw [el]
    simp (decide := true) (implicitDefEqProofs := false) only [bodyD, env0, sSeq, thenF, sIf, sRet, sRetN, sRetV, sSet, sSetN, sExpr, sNil, sAsg, sPar, resD, dV, dC, dOp, dUn, dNot, dAnd, dOr, dNotT, dAndT, dOrT, dB, dIf, dChain, dTup, dCons, dNil, dLst, dLstB, dCB, dCall, dCallK, dImm, dYes, a1, a2, bTup, bLst, bCons, bNil, bName, fSeq, seqOf, fRng1, fRng2, fEn, fZip, zip2, one1, ints1, ints2, asB, asI, negD, addD, subD, modD, ltD, gtD, geD, leD, isND, isnND, intOp, intOpC, lenD_lst, lenD_tup, lenD_frz, len_sD, tupleD, listD, absD, max2D, min2D, allD, isiD, tyN, isiT_tt, isiT_ii, isiT_ib, idxD, lsA, gw, gt, opt_some, opt_none, bd_pu, bd_fl, bd_bd, chk_true, chk_tt, D.imm, D.imms, D.isN, List.map_cons, List.map_nil, List.length_cons, List.length_nil, List.set_cons_zero, List.set_cons_succ, List.getElem?_cons_zero, List.getElem?_cons_succ, List.getElem?_nil, Option.bind_some, Option.bind_none, Option.join_some, Option.join_none, Option.map_some, Bool.and_true, Bool.true_and, Bool.and_false, Bool.false_and, Bool.not_true, Bool.not_false, Bool.false_eq_true, Bool.true_eq_false, if_true, if_false, ite_true, ite_false, List.cons_append, List.nil_append, List.append_nil, Nat.zero_add, Nat.reduceAdd, Nat.reduceSub, Nat.reduceLeDiff, Int.reduceNeg, List.replicate_succ, List.replicate_zero, true_and, and_true, List.length_map, and_pu, or_pu, tand_pu, tor_pu, idx_0, idx_1, if_tt, if_ff, dSl, dNo, dSo, slD, imm_cD, imm_wD, intsD, sAppIx, sExt, sApp, lsD, sFor, seq_sD, eq_str, ne_str, eq_int, ne_int, nc0, nc1, nc2, nc3, nc4, decide_true, decide_false, ne_eq, not_true_eq_false, Int.reduceEq, not_false_eq_true, Bool.or_false, Bool.or_true, Bool.false_or, Bool.true_or, List.all_cons, List.all_nil, id_eq]
    refine Ens.bd (n_lot hmost) ?_
    rintro _ ⟨ws, cs, ss, rfl, V, S⟩
    have h40 := V.n40
    have hl := S.len
    obtain ⟨m, hm, em⟩ : ∃ m : Int, (0 ≤ m ∧ m ≤ 3) ∧ (if decide (((ss.length : Nat) : Int) < 10) = true then pu (D.int 3) else pu (D.int 1) : DL.W D) = pu (.int m) := by
      by_cases h : decide (((ss.length : Nat) : Int) < 10) = true
      · exact ⟨3, by decide, by rw [if_pos h]⟩
      · exact ⟨1, by decide, by rw [if_neg h]⟩
    have hmz : -(2 ^ 62) ≤ m ∧ m < 2 ^ 62 := by omega
    simp (decide := true) (implicitDefEqProofs := false) only [bodyD, env0, sSeq, thenF, sIf, sRet, sRetN, sRetV, sSet, sSetN, sExpr, sNil, sAsg, sPar, resD, dV, dC, dOp, dUn, dNot, dAnd, dOr, dNotT, dAndT, dOrT, dB, dIf, dChain, dTup, dCons, dNil, dLst, dLstB, dCB, dCall, dCallK, dImm, dYes, a1, a2, bTup, bLst, bCons, bNil, bName, fSeq, seqOf, fRng1, fRng2, fEn, fZip, zip2, one1, ints1, ints2, asB, asI, negD, addD, subD, modD, ltD, gtD, geD, leD, isND, isnND, intOp, intOpC, lenD_lst, lenD_tup, lenD_frz, len_sD, tupleD, listD, absD, max2D, min2D, allD, isiD, tyN, isiT_tt, isiT_ii, isiT_ib, idxD, lsA, gw, gt, opt_some, opt_none, bd_pu, bd_fl, bd_bd, chk_true, chk_tt, D.imm, D.imms, D.isN, List.map_cons, List.map_nil, List.length_cons, List.length_nil, List.set_cons_zero, List.set_cons_succ, List.getElem?_cons_zero, List.getElem?_cons_succ, List.getElem?_nil, Option.bind_some, Option.bind_none, Option.join_some, Option.join_none, Option.map_some, Bool.and_true, Bool.true_and, Bool.and_false, Bool.false_and, Bool.not_true, Bool.not_false, Bool.false_eq_true, Bool.true_eq_false, if_true, if_false, ite_true, ite_false, List.cons_append, List.nil_append, List.append_nil, Nat.zero_add, Nat.reduceAdd, Nat.reduceSub, Nat.reduceLeDiff, Int.reduceNeg, List.replicate_succ, List.replicate_zero, true_and, and_true, List.length_map, and_pu, or_pu, tand_pu, tor_pu, idx_0, idx_1, if_tt, if_ff, dSl, dNo, dSo, slD, imm_cD, imm_wD, intsD, sAppIx, sExt, sApp, lsD, sFor, seq_sD, eq_str, ne_str, eq_int, ne_int, nc0, nc1, nc2, nc3, nc4, decide_true, decide_false, ne_eq, not_true_eq_false, Int.reduceEq, not_false_eq_true, Bool.or_false, Bool.or_true, Bool.false_or, Bool.true_or, List.all_cons, List.all_nil, id_eq, imm_yD, imm_sD]
    rw [em]
    simp (decide := true) (implicitDefEqProofs := false) only [bodyD, env0, sSeq, thenF, sIf, sRet, sRetN, sRetV, sSet, sSetN, sExpr, sNil, sAsg, sPar, resD, dV, dC, dOp, dUn, dNot, dAnd, dOr, dNotT, dAndT, dOrT, dB, dIf, dChain, dTup, dCons, dNil, dLst, dLstB, dCB, dCall, dCallK, dImm, dYes, a1, a2, bTup, bLst, bCons, bNil, bName, fSeq, seqOf, fRng1, fRng2, fEn, fZip, zip2, one1, ints1, ints2, asB, asI, negD, addD, subD, modD, ltD, gtD, geD, leD, isND, isnND, intOp, intOpC, lenD_lst, lenD_tup, lenD_frz, len_sD, tupleD, listD, absD, max2D, min2D, allD, isiD, tyN, isiT_tt, isiT_ii, isiT_ib, idxD, lsA, gw, gt, opt_some, opt_none, bd_pu, bd_fl, bd_bd, chk_true, chk_tt, D.imm, D.imms, D.isN, List.map_cons, List.map_nil, List.length_cons, List.length_nil, List.set_cons_zero, List.set_cons_succ, List.getElem?_cons_zero, List.getElem?_cons_succ, List.getElem?_nil, Option.bind_some, Option.bind_none, Option.join_some, Option.join_none, Option.map_some, Bool.and_true, Bool.true_and, Bool.and_false, Bool.false_and, Bool.not_true, Bool.not_false, Bool.false_eq_true, Bool.true_eq_false, if_true, if_false, ite_true, ite_false, List.cons_append, List.nil_append, List.append_nil, Nat.zero_add, Nat.reduceAdd, Nat.reduceSub, Nat.reduceLeDiff, Int.reduceNeg, List.replicate_succ, List.replicate_zero, true_and, and_true, List.length_map, and_pu, or_pu, tand_pu, tor_pu, idx_0, idx_1, if_tt, if_ff, dSl, dNo, dSo, slD, imm_cD, imm_wD, intsD, sAppIx, sExt, sApp, lsD, sFor, seq_sD, eq_str, ne_str, eq_int, ne_int, nc0, nc1, nc2, nc3, nc4, decide_true, decide_false, ne_eq, not_true_eq_false, Int.reduceEq, not_false_eq_true, Bool.or_false, Bool.or_true, Bool.false_or, Bool.true_or, List.all_cons, List.all_nil, id_eq, chk_pos hmz]
    refine Ens.bdFor (fun _ δ => ∃ (ss : List Int) (a d e f : Option D), VS ws cs ss ∧ δ = [some (.frz (ns.map D.int)), some .src, a, some (yD ws cs), some (sD ss), d, e, f, none, none]) ⟨ss, _, _, _, _, S, rfl⟩ ?_ ?_
    · rintro j e δ he ⟨ss, a, d, e', f, S, rfl⟩
      obtain ⟨_, rfl⟩ := rngD_at he
      have kw := e_wid (cs := cs) h40
      unfold widC at kw
      simp only [subD] at kw
      have ey0 : idxD (yD ws cs) (.int 0) = pu (.tup (ws.map wD)) := by
        unfold yD
        simp (decide := true) (implicitDefEqProofs := false) only [bodyD, env0, sSeq, thenF, sIf, sRet, sRetN, sRetV, sSet, sSetN, sExpr, sNil, sAsg, sPar, resD, dV, dC, dOp, dUn, dNot, dAnd, dOr, dNotT, dAndT, dOrT, dB, dIf, dChain, dTup, dCons, dNil, dLst, dLstB, dCB, dCall, dCallK, dImm, dYes, a1, a2, bTup, bLst, bCons, bNil, bName, fSeq, seqOf, fRng1, fRng2, fEn, fZip, zip2, one1, ints1, ints2, asB, asI, negD, addD, subD, modD, ltD, gtD, geD, leD, isND, isnND, intOp, intOpC, lenD_lst, lenD_tup, lenD_frz, len_sD, tupleD, listD, absD, max2D, min2D, allD, isiD, tyN, isiT_tt, isiT_ii, isiT_ib, idxD, lsA, gw, gt, opt_some, opt_none, bd_pu, bd_fl, bd_bd, chk_true, chk_tt, D.imm, D.imms, D.isN, List.map_cons, List.map_nil, List.length_cons, List.length_nil, List.set_cons_zero, List.set_cons_succ, List.getElem?_cons_zero, List.getElem?_cons_succ, List.getElem?_nil, Option.bind_some, Option.bind_none, Option.join_some, Option.join_none, Option.map_some, Bool.and_true, Bool.true_and, Bool.and_false, Bool.false_and, Bool.not_true, Bool.not_false, Bool.false_eq_true, Bool.true_eq_false, if_true, if_false, ite_true, ite_false, List.cons_append, List.nil_append, List.append_nil, Nat.zero_add, Nat.reduceAdd, Nat.reduceSub, Nat.reduceLeDiff, Int.reduceNeg, List.replicate_succ, List.replicate_zero, true_and, and_true, List.length_map, and_pu, or_pu, tand_pu, tor_pu, idx_0, idx_1, if_tt, if_ff, dSl, dNo, dSo, slD, imm_cD, imm_wD, intsD, sAppIx, sExt, sApp, lsD, sFor, seq_sD, eq_str, ne_str, eq_int, ne_int, nc0, nc1, nc2, nc3, nc4, decide_true, decide_false, ne_eq, not_true_eq_false, Int.reduceEq, not_false_eq_true, Bool.or_false, Bool.or_true, Bool.false_or, Bool.true_or, List.all_cons, List.all_nil, id_eq]
      simp (decide := true) (implicitDefEqProofs := false) only [bodyD, env0, sSeq, thenF, sIf, sRet, sRetN, sRetV, sSet, sSetN, sExpr, sNil, sAsg, sPar, resD, dV, dC, dOp, dUn, dNot, dAnd, dOr, dNotT, dAndT, dOrT, dB, dIf, dChain, dTup, dCons, dNil, dLst, dLstB, dCB, dCall, dCallK, dImm, dYes, a1, a2, bTup, bLst, bCons, bNil, bName, fSeq, seqOf, fRng1, fRng2, fEn, fZip, zip2, one1, ints1, ints2, asB, asI, negD, addD, subD, modD, ltD, gtD, geD, leD, isND, isnND, intOp, intOpC, lenD_lst, lenD_tup, lenD_frz, len_sD, tupleD, listD, absD, max2D, min2D, allD, isiD, tyN, isiT_tt, isiT_ii, isiT_ib, idxD, lsA, gw, gt, opt_some, opt_none, bd_pu, bd_fl, bd_bd, chk_true, chk_tt, D.imm, D.imms, D.isN, List.map_cons, List.map_nil, List.length_cons, List.length_nil, List.set_cons_zero, List.set_cons_succ, List.getElem?_cons_zero, List.getElem?_cons_succ, List.getElem?_nil, Option.bind_some, Option.bind_none, Option.join_some, Option.join_none, Option.map_some, Bool.and_true, Bool.true_and, Bool.and_false, Bool.false_and, Bool.not_true, Bool.not_false, Bool.false_eq_true, Bool.true_eq_false, if_true, if_false, ite_true, ite_false, List.cons_append, List.nil_append, List.append_nil, Nat.zero_add, Nat.reduceAdd, Nat.reduceSub, Nat.reduceLeDiff, Int.reduceNeg, List.replicate_succ, List.replicate_zero, true_and, and_true, List.length_map, and_pu, or_pu, tand_pu, tor_pu, idx_0, idx_1, if_tt, if_ff, dSl, dNo, dSo, slD, imm_cD, imm_wD, intsD, sAppIx, sExt, sApp, lsD, sFor, seq_sD, eq_str, ne_str, eq_int, ne_int, nc0, nc1, nc2, nc3, nc4, decide_true, decide_false, ne_eq, not_true_eq_false, Int.reduceEq, not_false_eq_true, Bool.or_false, Bool.or_true, Bool.false_or, Bool.true_or, List.all_cons, List.all_nil, id_eq, kw, imms_wD]
      unfold yD
      simp (decide := true) (implicitDefEqProofs := false) only [bodyD, env0, sSeq, thenF, sIf, sRet, sRetN, sRetV, sSet, sSetN, sExpr, sNil, sAsg, sPar, resD, dV, dC, dOp, dUn, dNot, dAnd, dOr, dNotT, dAndT, dOrT, dB, dIf, dChain, dTup, dCons, dNil, dLst, dLstB, dCB, dCall, dCallK, dImm, dYes, a1, a2, bTup, bLst, bCons, bNil, bName, fSeq, seqOf, fRng1, fRng2, fEn, fZip, zip2, one1, ints1, ints2, asB, asI, negD, addD, subD, modD, ltD, gtD, geD, leD, isND, isnND, intOp, intOpC, lenD_lst, lenD_tup, lenD_frz, len_sD, tupleD, listD, absD, max2D, min2D, allD, isiD, tyN, isiT_tt, isiT_ii, isiT_ib, idxD, lsA, gw, gt, opt_some, opt_none, bd_pu, bd_fl, bd_bd, chk_true, chk_tt, D.imm, D.imms, D.isN, List.map_cons, List.map_nil, List.length_cons, List.length_nil, List.set_cons_zero, List.set_cons_succ, List.getElem?_cons_zero, List.getElem?_cons_succ, List.getElem?_nil, Option.bind_some, Option.bind_none, Option.join_some, Option.join_none, Option.map_some, Bool.and_true, Bool.true_and, Bool.and_false, Bool.false_and, Bool.not_true, Bool.not_false, Bool.false_eq_true, Bool.true_eq_false, if_true, if_false, ite_true, ite_false, List.cons_append, List.nil_append, List.append_nil, Nat.zero_add, Nat.reduceAdd, Nat.reduceSub, Nat.reduceLeDiff, Int.reduceNeg, List.replicate_succ, List.replicate_zero, true_and, and_true, List.length_map, and_pu, or_pu, tand_pu, tor_pu, idx_0, idx_1, if_tt, if_ff, dSl, dNo, dSo, slD, imm_cD, imm_wD, intsD, sAppIx, sExt, sApp, lsD, sFor, seq_sD, eq_str, ne_str, eq_int, ne_int, nc0, nc1, nc2, nc3, nc4, decide_true, decide_false, ne_eq, not_true_eq_false, Int.reduceEq, not_false_eq_true, Bool.or_false, Bool.or_true, Bool.false_or, Bool.true_or, List.all_cons, List.all_nil, id_eq, cut1, imms_wD, imms_cD, ← List.map_drop]
      refine Ens.bdFor (fun _ δ => ∃ (d : Option D), δ = [some (.frz (ns.map D.int)), some .src, a, some (yD ws cs), some (sD ss), some (.int j), some (.tup ((ws.map wid).map wD)), d, none, none]) ⟨_, rfl⟩ ?_ ?_
      · rintro k d δ hk ⟨x, rfl⟩
        obtain ⟨ws', cs', V', S', rfl⟩ : ∃ ws' cs', VY ws' cs' ∧ VS ws' cs' ss ∧ d = yD ws' cs' := by
          match k, hk with
          | 0, hk => exact ⟨_, _, V.wide, S.wide V, (Option.some.inj hk).symm⟩
          | 1, hk => exact ⟨_, _, V.drop1, S.drop1, (Option.some.inj hk).symm⟩
          | 2, hk => exact ⟨_, _, V, S, (Option.some.inj hk).symm⟩
        simp (decide := true) (implicitDefEqProofs := false) only [bodyD, env0, sSeq, thenF, sIf, sRet, sRetN, sRetV, sSet, sSetN, sExpr, sNil, sAsg, sPar, resD, dV, dC, dOp, dUn, dNot, dAnd, dOr, dNotT, dAndT, dOrT, dB, dIf, dChain, dTup, dCons, dNil, dLst, dLstB, dCB, dCall, dCallK, dImm, dYes, a1, a2, bTup, bLst, bCons, bNil, bName, fSeq, seqOf, fRng1, fRng2, fEn, fZip, zip2, one1, ints1, ints2, asB, asI, negD, addD, subD, modD, ltD, gtD, geD, leD, isND, isnND, intOp, intOpC, lenD_lst, lenD_tup, lenD_frz, len_sD, tupleD, listD, absD, max2D, min2D, allD, isiD, tyN, isiT_tt, isiT_ii, isiT_ib, idxD, lsA, gw, gt, opt_some, opt_none, bd_pu, bd_fl, bd_bd, chk_true, chk_tt, D.imm, D.imms, D.isN, List.map_cons, List.map_nil, List.length_cons, List.length_nil, List.set_cons_zero, List.set_cons_succ, List.getElem?_cons_zero, List.getElem?_cons_succ, List.getElem?_nil, Option.bind_some, Option.bind_none, Option.join_some, Option.join_none, Option.map_some, Bool.and_true, Bool.true_and, Bool.and_false, Bool.false_and, Bool.not_true, Bool.not_false, Bool.false_eq_true, Bool.true_eq_false, if_true, if_false, ite_true, ite_false, List.cons_append, List.nil_append, List.append_nil, Nat.zero_add, Nat.reduceAdd, Nat.reduceSub, Nat.reduceLeDiff, Int.reduceNeg, List.replicate_succ, List.replicate_zero, true_and, and_true, List.length_map, and_pu, or_pu, tand_pu, tor_pu, idx_0, idx_1, if_tt, if_ff, dSl, dNo, dSo, slD, imm_cD, imm_wD, intsD, sAppIx, sExt, sApp, lsD, sFor, seq_sD, eq_str, ne_str, eq_int, ne_int, nc0, nc1, nc2, nc3, nc4, decide_true, decide_false, ne_eq, not_true_eq_false, Int.reduceEq, not_false_eq_true, Bool.or_false, Bool.or_true, Bool.false_or, Bool.true_or, List.all_cons, List.all_nil, id_eq, imm_yD]
        refine Ens.bd (n_right V' S') ?_
        rintro _ rfl
        simp (decide := true) (implicitDefEqProofs := false) only [bodyD, env0, sSeq, thenF, sIf, sRet, sRetN, sRetV, sSet, sSetN, sExpr, sNil, sAsg, sPar, resD, dV, dC, dOp, dUn, dNot, dAnd, dOr, dNotT, dAndT, dOrT, dB, dIf, dChain, dTup, dCons, dNil, dLst, dLstB, dCB, dCall, dCallK, dImm, dYes, a1, a2, bTup, bLst, bCons, bNil, bName, fSeq, seqOf, fRng1, fRng2, fEn, fZip, zip2, one1, ints1, ints2, asB, asI, negD, addD, subD, modD, ltD, gtD, geD, leD, isND, isnND, intOp, intOpC, lenD_lst, lenD_tup, lenD_frz, len_sD, tupleD, listD, absD, max2D, min2D, allD, isiD, tyN, isiT_tt, isiT_ii, isiT_ib, idxD, lsA, gw, gt, opt_some, opt_none, bd_pu, bd_fl, bd_bd, chk_true, chk_tt, D.imm, D.imms, D.isN, List.map_cons, List.map_nil, List.length_cons, List.length_nil, List.set_cons_zero, List.set_cons_succ, List.getElem?_cons_zero, List.getElem?_cons_succ, List.getElem?_nil, Option.bind_some, Option.bind_none, Option.join_some, Option.join_none, Option.map_some, Bool.and_true, Bool.true_and, Bool.and_false, Bool.false_and, Bool.not_true, Bool.not_false, Bool.false_eq_true, Bool.true_eq_false, if_true, if_false, ite_true, ite_false, List.cons_append, List.nil_append, List.append_nil, Nat.zero_add, Nat.reduceAdd, Nat.reduceSub, Nat.reduceLeDiff, Int.reduceNeg, List.replicate_succ, List.replicate_zero, true_and, and_true, List.length_map, and_pu, or_pu, tand_pu, tor_pu, idx_0, idx_1, if_tt, if_ff, dSl, dNo, dSo, slD, imm_cD, imm_wD, intsD, sAppIx, sExt, sApp, lsD, sFor, seq_sD, eq_str, ne_str, eq_int, ne_int, nc0, nc1, nc2, nc3, nc4, decide_true, decide_false, ne_eq, not_true_eq_false, Int.reduceEq, not_false_eq_true, Bool.or_false, Bool.or_true, Bool.false_or, Bool.true_or, List.all_cons, List.all_nil, id_eq]
        exact Ens.pu ⟨_, rfl, _, rfl⟩
      · rintro δ' ⟨x, rfl⟩
        simp (decide := true) (implicitDefEqProofs := false) only [bodyD, env0, sSeq, thenF, sIf, sRet, sRetN, sRetV, sSet, sSetN, sExpr, sNil, sAsg, sPar, resD, dV, dC, dOp, dUn, dNot, dAnd, dOr, dNotT, dAndT, dOrT, dB, dIf, dChain, dTup, dCons, dNil, dLst, dLstB, dCB, dCall, dCallK, dImm, dYes, a1, a2, bTup, bLst, bCons, bNil, bName, fSeq, seqOf, fRng1, fRng2, fEn, fZip, zip2, one1, ints1, ints2, asB, asI, negD, addD, subD, modD, ltD, gtD, geD, leD, isND, isnND, intOp, intOpC, lenD_lst, lenD_tup, lenD_frz, len_sD, tupleD, listD, absD, max2D, min2D, allD, isiD, tyN, isiT_tt, isiT_ii, isiT_ib, idxD, lsA, gw, gt, opt_some, opt_none, bd_pu, bd_fl, bd_bd, chk_true, chk_tt, D.imm, D.imms, D.isN, List.map_cons, List.map_nil, List.length_cons, List.length_nil, List.set_cons_zero, List.set_cons_succ, List.getElem?_cons_zero, List.getElem?_cons_succ, List.getElem?_nil, Option.bind_some, Option.bind_none, Option.join_some, Option.join_none, Option.map_some, Bool.and_true, Bool.true_and, Bool.and_false, Bool.false_and, Bool.not_true, Bool.not_false, Bool.false_eq_true, Bool.true_eq_false, if_true, if_false, ite_true, ite_false, List.cons_append, List.nil_append, List.append_nil, Nat.zero_add, Nat.reduceAdd, Nat.reduceSub, Nat.reduceLeDiff, Int.reduceNeg, List.replicate_succ, List.replicate_zero, true_and, and_true, List.length_map, and_pu, or_pu, tand_pu, tor_pu, idx_0, idx_1, if_tt, if_ff, dSl, dNo, dSo, slD, imm_cD, imm_wD, intsD, sAppIx, sExt, sApp, lsD, sFor, seq_sD, eq_str, ne_str, eq_int, ne_int, nc0, nc1, nc2, nc3, nc4, decide_true, decide_false, ne_eq, not_true_eq_false, Int.reduceEq, not_false_eq_true, Bool.or_false, Bool.or_true, Bool.false_or, Bool.true_or, List.all_cons, List.all_nil, id_eq]
        refine Ens.bd n_next ?_
        rintro _ ⟨r, rfl, r0, r1⟩
        simp (decide := true) (implicitDefEqProofs := false) only [bodyD, env0, sSeq, thenF, sIf, sRet, sRetN, sRetV, sSet, sSetN, sExpr, sNil, sAsg, sPar, resD, dV, dC, dOp, dUn, dNot, dAnd, dOr, dNotT, dAndT, dOrT, dB, dIf, dChain, dTup, dCons, dNil, dLst, dLstB, dCB, dCall, dCallK, dImm, dYes, a1, a2, bTup, bLst, bCons, bNil, bName, fSeq, seqOf, fRng1, fRng2, fEn, fZip, zip2, one1, ints1, ints2, asB, asI, negD, addD, subD, modD, ltD, gtD, geD, leD, isND, isnND, intOp, intOpC, lenD_lst, lenD_tup, lenD_frz, len_sD, tupleD, listD, absD, max2D, min2D, allD, isiD, tyN, isiT_tt, isiT_ii, isiT_ib, idxD, lsA, gw, gt, opt_some, opt_none, bd_pu, bd_fl, bd_bd, chk_true, chk_tt, D.imm, D.imms, D.isN, List.map_cons, List.map_nil, List.length_cons, List.length_nil, List.set_cons_zero, List.set_cons_succ, List.getElem?_cons_zero, List.getElem?_cons_succ, List.getElem?_nil, Option.bind_some, Option.bind_none, Option.join_some, Option.join_none, Option.map_some, Bool.and_true, Bool.true_and, Bool.and_false, Bool.false_and, Bool.not_true, Bool.not_false, Bool.false_eq_true, Bool.true_eq_false, if_true, if_false, ite_true, ite_false, List.cons_append, List.nil_append, List.append_nil, Nat.zero_add, Nat.reduceAdd, Nat.reduceSub, Nat.reduceLeDiff, Int.reduceNeg, List.replicate_succ, List.replicate_zero, true_and, and_true, List.length_map, and_pu, or_pu, tand_pu, tor_pu, idx_0, idx_1, if_tt, if_ff, dSl, dNo, dSo, slD, imm_cD, imm_wD, intsD, sAppIx, sExt, sApp, lsD, sFor, seq_sD, eq_str, ne_str, eq_int, ne_int, nc0, nc1, nc2, nc3, nc4, decide_true, decide_false, ne_eq, not_true_eq_false, Int.reduceEq, not_false_eq_true, Bool.or_false, Bool.or_true, Bool.false_or, Bool.true_or, List.all_cons, List.all_nil, id_eq, mod_pos _ 6 (by decide)]
        refine Ens.bd (n_walked (m := 1 + r % 6) V S (by omega)) ?_
        rintro _ ⟨ss', rfl, S'⟩
        exact Ens.pu ⟨_, rfl, ss', _, _, _, _, S', rfl⟩
    · rintro δ' ⟨ss', a, d, e, f, _, rfl⟩
      simp (decide := true) (implicitDefEqProofs := false) only [bodyD, env0, sSeq, thenF, sIf, sRet, sRetN, sRetV, sSet, sSetN, sExpr, sNil, sAsg, sPar, resD, dV, dC, dOp, dUn, dNot, dAnd, dOr, dNotT, dAndT, dOrT, dB, dIf, dChain, dTup, dCons, dNil, dLst, dLstB, dCB, dCall, dCallK, dImm, dYes, a1, a2, bTup, bLst, bCons, bNil, bName, fSeq, seqOf, fRng1, fRng2, fEn, fZip, zip2, one1, ints1, ints2, asB, asI, negD, addD, subD, modD, ltD, gtD, geD, leD, isND, isnND, intOp, intOpC, lenD_lst, lenD_tup, lenD_frz, len_sD, tupleD, listD, absD, max2D, min2D, allD, isiD, tyN, isiT_tt, isiT_ii, isiT_ib, idxD, lsA, gw, gt, opt_some, opt_none, bd_pu, bd_fl, bd_bd, chk_true, chk_tt, D.imm, D.imms, D.isN, List.map_cons, List.map_nil, List.length_cons, List.length_nil, List.set_cons_zero, List.set_cons_succ, List.getElem?_cons_zero, List.getElem?_cons_succ, List.getElem?_nil, Option.bind_some, Option.bind_none, Option.join_some, Option.join_none, Option.map_some, Bool.and_true, Bool.true_and, Bool.and_false, Bool.false_and, Bool.not_true, Bool.not_false, Bool.false_eq_true, Bool.true_eq_false, if_true, if_false, ite_true, ite_false, List.cons_append, List.nil_append, List.append_nil, Nat.zero_add, Nat.reduceAdd, Nat.reduceSub, Nat.reduceLeDiff, Int.reduceNeg, List.replicate_succ, List.replicate_zero, true_and, and_true, List.length_map, and_pu, or_pu, tand_pu, tor_pu, idx_0, idx_1, if_tt, if_ff, dSl, dNo, dSo, slD, imm_cD, imm_wD, intsD, sAppIx, sExt, sApp, lsD, sFor, seq_sD, eq_str, ne_str, eq_int, ne_int, nc0, nc1, nc2, nc3, nc4, decide_true, decide_false, ne_eq, not_true_eq_false, Int.reduceEq, not_false_eq_true, Bool.or_false, Bool.or_true, Bool.false_or, Bool.true_or, List.all_cons, List.all_nil, id_eq]
      refine Ens.bd n_row ?_
      rintro _ rfl
      simp (decide := true) (implicitDefEqProofs := false) only [bodyD, env0, sSeq, thenF, sIf, sRet, sRetN, sRetV, sSet, sSetN, sExpr, sNil, sAsg, sPar, resD, dV, dC, dOp, dUn, dNot, dAnd, dOr, dNotT, dAndT, dOrT, dB, dIf, dChain, dTup, dCons, dNil, dLst, dLstB, dCB, dCall, dCallK, dImm, dYes, a1, a2, bTup, bLst, bCons, bNil, bName, fSeq, seqOf, fRng1, fRng2, fEn, fZip, zip2, one1, ints1, ints2, asB, asI, negD, addD, subD, modD, ltD, gtD, geD, leD, isND, isnND, intOp, intOpC, lenD_lst, lenD_tup, lenD_frz, len_sD, tupleD, listD, absD, max2D, min2D, allD, isiD, tyN, isiT_tt, isiT_ii, isiT_ib, idxD, lsA, gw, gt, opt_some, opt_none, bd_pu, bd_fl, bd_bd, chk_true, chk_tt, D.imm, D.imms, D.isN, List.map_cons, List.map_nil, List.length_cons, List.length_nil, List.set_cons_zero, List.set_cons_succ, List.getElem?_cons_zero, List.getElem?_cons_succ, List.getElem?_nil, Option.bind_some, Option.bind_none, Option.join_some, Option.join_none, Option.map_some, Bool.and_true, Bool.true_and, Bool.and_false, Bool.false_and, Bool.not_true, Bool.not_false, Bool.false_eq_true, Bool.true_eq_false, if_true, if_false, ite_true, ite_false, List.cons_append, List.nil_append, List.append_nil, Nat.zero_add, Nat.reduceAdd, Nat.reduceSub, Nat.reduceLeDiff, Int.reduceNeg, List.replicate_succ, List.replicate_zero, true_and, and_true, List.length_map, and_pu, or_pu, tand_pu, tor_pu, idx_0, idx_1, if_tt, if_ff, dSl, dNo, dSo, slD, imm_cD, imm_wD, intsD, sAppIx, sExt, sApp, lsD, sFor, seq_sD, eq_str, ne_str, eq_int, ne_int, nc0, nc1, nc2, nc3, nc4, decide_true, decide_false, ne_eq, not_true_eq_false, Int.reduceEq, not_false_eq_true, Bool.or_false, Bool.or_true, Bool.false_or, Bool.true_or, List.all_cons, List.all_nil, id_eq]
      exact Ens.pu ⟨_, rfl, _, _, _, _, _, _, rfl⟩
  · rintro δ' ⟨a, b, c, d, e, f, rfl⟩
    simp (decide := true) (implicitDefEqProofs := false) only [bodyD, env0, sSeq, thenF, sIf, sRet, sRetN, sRetV, sSet, sSetN, sExpr, sNil, sAsg, sPar, resD, dV, dC, dOp, dUn, dNot, dAnd, dOr, dNotT, dAndT, dOrT, dB, dIf, dChain, dTup, dCons, dNil, dLst, dLstB, dCB, dCall, dCallK, dImm, dYes, a1, a2, bTup, bLst, bCons, bNil, bName, fSeq, seqOf, fRng1, fRng2, fEn, fZip, zip2, one1, ints1, ints2, asB, asI, negD, addD, subD, modD, ltD, gtD, geD, leD, isND, isnND, intOp, intOpC, lenD_lst, lenD_tup, lenD_frz, len_sD, tupleD, listD, absD, max2D, min2D, allD, isiD, tyN, isiT_tt, isiT_ii, isiT_ib, idxD, lsA, gw, gt, opt_some, opt_none, bd_pu, bd_fl, bd_bd, chk_true, chk_tt, D.imm, D.imms, D.isN, List.map_cons, List.map_nil, List.length_cons, List.length_nil, List.set_cons_zero, List.set_cons_succ, List.getElem?_cons_zero, List.getElem?_cons_succ, List.getElem?_nil, Option.bind_some, Option.bind_none, Option.join_some, Option.join_none, Option.map_some, Bool.and_true, Bool.true_and, Bool.and_false, Bool.false_and, Bool.not_true, Bool.not_false, Bool.false_eq_true, Bool.true_eq_false, if_true, if_false, ite_true, ite_false, List.cons_append, List.nil_append, List.append_nil, Nat.zero_add, Nat.reduceAdd, Nat.reduceSub, Nat.reduceLeDiff, Int.reduceNeg, List.replicate_succ, List.replicate_zero, true_and, and_true, List.length_map, and_pu, or_pu, tand_pu, tor_pu, idx_0, idx_1, if_tt, if_ff, dSl, dNo, dSo, slD, imm_cD, imm_wD, intsD, sAppIx, sExt, sApp, lsD, sFor, seq_sD, eq_str, ne_str, eq_int, ne_int, nc0, nc1, nc2, nc3, nc4, decide_true, decide_false, ne_eq, not_true_eq_false, Int.reduceEq, not_false_eq_true, Bool.or_false, Bool.or_true, Bool.false_or, Bool.true_or, List.all_cons, List.all_nil, id_eq]
    exact Ens.pu rfl
theorem law_math (ns : List Int) (h63 : ns.length ≤ 63) (X : DL.Ex → Prop) : g_lawR (env0 N_law.length [.frz (ns.map D.int), .src]) (fun r => r.1 = .rt (.bl true)) X := n_law ns h63 _ X fun _ h => h
end K14
namespace K14
open PySem L2 DL CY DC
def top (i : Nat) : Stmt := PySem.Challenge.pw_coupledyard_k14_reasons_of_blocked_steps.main.body.getD i (.Pass ⟨0, 0, 0, 0⟩)
def q__law_state : {s : Stmt // top 29 = s} := ⟨_, by conv => lhs; whnf⟩
abbrev s__law_state : Stmt := q__law_state.1
def q__law_mixed : {s : Stmt // top 28 = s} := ⟨_, by conv => lhs; whnf⟩
abbrev s__law_mixed : Stmt := q__law_mixed.1
def q__law_next : {s : Stmt // top 30 = s} := ⟨_, by conv => lhs; whnf⟩
abbrev s__law_next : Stmt := q__law_next.1
def q__law_shuffled : {s : Stmt // top 32 = s} := ⟨_, by conv => lhs; whnf⟩
abbrev s__law_shuffled : Stmt := q__law_shuffled.1
def q__law_lot : {s : Stmt // top 33 = s} := ⟨_, by conv => lhs; whnf⟩
abbrev s__law_lot : Stmt := q__law_lot.1
def q__law_pick : {s : Stmt // top 31 = s} := ⟨_, by conv => lhs; whnf⟩
abbrev s__law_pick : Stmt := q__law_pick.1
def q__law_moved : {s : Stmt // top 35 = s} := ⟨_, by conv => lhs; whnf⟩
abbrev s__law_moved : Stmt := q__law_moved.1
def q__law_holds : {s : Stmt // top 34 = s} := ⟨_, by conv => lhs; whnf⟩
abbrev s__law_holds : Stmt := q__law_holds.1
def q__law_ready : {s : Stmt // top 36 = s} := ⟨_, by conv => lhs; whnf⟩
abbrev s__law_ready : Stmt := q__law_ready.1
def q__law_walked : {s : Stmt // top 37 = s} := ⟨_, by conv => lhs; whnf⟩
abbrev s__law_walked : Stmt := q__law_walked.1
def q_own_links : {s : Stmt // top 15 = s} := ⟨_, by conv => lhs; whnf⟩
abbrev s_own_links : Stmt := q_own_links.1
def q_is_between : {s : Stmt // top 9 = s} := ⟨_, by conv => lhs; whnf⟩
abbrev s_is_between : Stmt := q_is_between.1
def q_is_walls : {s : Stmt // top 10 = s} := ⟨_, by conv => lhs; whnf⟩
abbrev s_is_walls : Stmt := q_is_walls.1
def q_is_coupling : {s : Stmt // top 11 = s} := ⟨_, by conv => lhs; whnf⟩
abbrev s_is_coupling : Stmt := q_is_coupling.1
def q_couplings_problem : {s : Stmt // top 12 = s} := ⟨_, by conv => lhs; whnf⟩
abbrev s_couplings_problem : Stmt := q_couplings_problem.1
def q_yard_problem : {s : Stmt // top 13 = s} := ⟨_, by conv => lhs; whnf⟩
abbrev s_yard_problem : Stmt := q_yard_problem.1
def q_validate_yard : {s : Stmt // top 14 = s} := ⟨_, by conv => lhs; whnf⟩
abbrev s_validate_yard : Stmt := q_validate_yard.1
def q_arrangement_problem : {s : Stmt // top 17 = s} := ⟨_, by conv => lhs; whnf⟩
abbrev s_arrangement_problem : Stmt := q_arrangement_problem.1
def q_need_arrangement : {s : Stmt // top 18 = s} := ⟨_, by conv => lhs; whnf⟩
abbrev s_need_arrangement : Stmt := q_need_arrangement.1
def q_validate_arrangement : {s : Stmt // top 19 = s} := ⟨_, by conv => lhs; whnf⟩
abbrev s_validate_arrangement : Stmt := q_validate_arrangement.1
def q_is_step : {s : Stmt // top 21 = s} := ⟨_, by conv => lhs; whnf⟩
abbrev s_is_step : Stmt := q_is_step.1
def q_validate_step : {s : Stmt // top 22 = s} := ⟨_, by conv => lhs; whnf⟩
abbrev s_validate_step : Stmt := q_validate_step.1
def q_holder_of : {s : Stmt // top 23 = s} := ⟨_, by conv => lhs; whnf⟩
abbrev s_holder_of : Stmt := q_holder_of.1
def q_is_at_wall : {s : Stmt // top 24 = s} := ⟨_, by conv => lhs; whnf⟩
abbrev s_is_at_wall : Stmt := q_is_at_wall.1
def q_can_step : {s : Stmt // top 25 = s} := ⟨_, by conv => lhs; whnf⟩
abbrev s_can_step : Stmt := q_can_step.1
def q_reason : {s : Stmt // top 26 = s} := ⟨_, by conv => lhs; whnf⟩
abbrev s_reason : Stmt := q_reason.1
def q__law_far : {s : Stmt // top 38 = s} := ⟨_, by conv => lhs; whnf⟩
abbrev s__law_far : Stmt := q__law_far.1
def q__law_reason : {s : Stmt // top 39 = s} := ⟨_, by conv => lhs; whnf⟩
abbrev s__law_reason : Stmt := q__law_reason.1
def q__law_right : {s : Stmt // top 40 = s} := ⟨_, by conv => lhs; whnf⟩
abbrev s__law_right : Stmt := q__law_right.1
def q__law_row_right : {s : Stmt // top 41 = s} := ⟨_, by conv => lhs; whnf⟩
abbrev s__law_row_right : Stmt := q__law_row_right.1
def q_law : {s : Stmt // top 42 = s} := ⟨_, by conv => lhs; whnf⟩
abbrev s_law : Stmt := q_law.1
structure Ad where
  a__law_state : Addr
  d__law_state : FuncData
  a__law_mixed : Addr
  d__law_mixed : FuncData
  a__law_next : Addr
  d__law_next : FuncData
  a__law_shuffled : Addr
  d__law_shuffled : FuncData
  a__law_lot : Addr
  d__law_lot : FuncData
  a__law_pick : Addr
  d__law_pick : FuncData
  a__law_moved : Addr
  d__law_moved : FuncData
  a__law_holds : Addr
  d__law_holds : FuncData
  a__law_ready : Addr
  d__law_ready : FuncData
  a__law_walked : Addr
  d__law_walked : FuncData
  a_own_links : Addr
  d_own_links : FuncData
  a_is_between : Addr
  d_is_between : FuncData
  a_is_walls : Addr
  d_is_walls : FuncData
  a_is_coupling : Addr
  d_is_coupling : FuncData
  a_couplings_problem : Addr
  d_couplings_problem : FuncData
  a_yard_problem : Addr
  d_yard_problem : FuncData
  a_validate_yard : Addr
  d_validate_yard : FuncData
  a_arrangement_problem : Addr
  d_arrangement_problem : FuncData
  a_need_arrangement : Addr
  d_need_arrangement : FuncData
  a_validate_arrangement : Addr
  d_validate_arrangement : FuncData
  a_is_step : Addr
  d_is_step : FuncData
  a_validate_step : Addr
  d_validate_step : FuncData
  a_holder_of : Addr
  d_holder_of : FuncData
  a_is_at_wall : Addr
  d_is_at_wall : FuncData
  a_can_step : Addr
  d_can_step : FuncData
  a_reason : Addr
  d_reason : FuncData
  a__law_far : Addr
  d__law_far : FuncData
  a__law_reason : Addr
  d__law_reason : FuncData
  a__law_right : Addr
  d__law_right : FuncData
  a__law_row_right : Addr
  d__law_row_right : FuncData
  a_law : Addr
  d_law : FuncData
structure Tx (K : PySem.W.Frag) (mg : Str → Option Value) (A : Ad) : Prop where
  h__law_state : L2.Fun K "_law_state" "_law_state" s__law_state A.a__law_state A.d__law_state
  m__law_state : mg "_law_state" = some (.ref A.a__law_state)
  h__law_mixed : L2.Fun K "_law_mixed" "_law_mixed" s__law_mixed A.a__law_mixed A.d__law_mixed
  m__law_mixed : mg "_law_mixed" = some (.ref A.a__law_mixed)
  h__law_next : L2.Fun K "_law_next" "_law_next" s__law_next A.a__law_next A.d__law_next
  m__law_next : mg "_law_next" = some (.ref A.a__law_next)
  h__law_shuffled : L2.Fun K "_law_shuffled" "_law_shuffled" s__law_shuffled A.a__law_shuffled A.d__law_shuffled
  m__law_shuffled : mg "_law_shuffled" = some (.ref A.a__law_shuffled)
  h__law_lot : L2.Fun K "_law_lot" "_law_lot" s__law_lot A.a__law_lot A.d__law_lot
  m__law_lot : mg "_law_lot" = some (.ref A.a__law_lot)
  h__law_pick : L2.Fun K "_law_pick" "_law_pick" s__law_pick A.a__law_pick A.d__law_pick
  m__law_pick : mg "_law_pick" = some (.ref A.a__law_pick)
  h__law_moved : L2.Fun K "_law_moved" "_law_moved" s__law_moved A.a__law_moved A.d__law_moved
  m__law_moved : mg "_law_moved" = some (.ref A.a__law_moved)
  h__law_holds : L2.Fun K "_law_holds" "_law_holds" s__law_holds A.a__law_holds A.d__law_holds
  m__law_holds : mg "_law_holds" = some (.ref A.a__law_holds)
  h__law_ready : L2.Fun K "_law_ready" "_law_ready" s__law_ready A.a__law_ready A.d__law_ready
  m__law_ready : mg "_law_ready" = some (.ref A.a__law_ready)
  h__law_walked : L2.Fun K "_law_walked" "_law_walked" s__law_walked A.a__law_walked A.d__law_walked
  m__law_walked : mg "_law_walked" = some (.ref A.a__law_walked)
  h_own_links : L2.Fun K "own_links" "own_links" s_own_links A.a_own_links A.d_own_links
  m_own_links : mg "own_links" = some (.ref A.a_own_links)
  h_is_between : L2.Fun K "is_between" "is_between" s_is_between A.a_is_between A.d_is_between
  m_is_between : mg "is_between" = some (.ref A.a_is_between)
  h_is_walls : L2.Fun K "is_walls" "is_walls" s_is_walls A.a_is_walls A.d_is_walls
  m_is_walls : mg "is_walls" = some (.ref A.a_is_walls)
  h_is_coupling : L2.Fun K "is_coupling" "is_coupling" s_is_coupling A.a_is_coupling A.d_is_coupling
  m_is_coupling : mg "is_coupling" = some (.ref A.a_is_coupling)
  h_couplings_problem : L2.Fun K "couplings_problem" "couplings_problem" s_couplings_problem A.a_couplings_problem A.d_couplings_problem
  m_couplings_problem : mg "couplings_problem" = some (.ref A.a_couplings_problem)
  h_yard_problem : L2.Fun K "yard_problem" "yard_problem" s_yard_problem A.a_yard_problem A.d_yard_problem
  m_yard_problem : mg "yard_problem" = some (.ref A.a_yard_problem)
  h_validate_yard : L2.Fun K "validate_yard" "validate_yard" s_validate_yard A.a_validate_yard A.d_validate_yard
  m_validate_yard : mg "validate_yard" = some (.ref A.a_validate_yard)
  h_arrangement_problem : L2.Fun K "arrangement_problem" "arrangement_problem" s_arrangement_problem A.a_arrangement_problem A.d_arrangement_problem
  m_arrangement_problem : mg "arrangement_problem" = some (.ref A.a_arrangement_problem)
  h_need_arrangement : L2.Fun K "need_arrangement" "need_arrangement" s_need_arrangement A.a_need_arrangement A.d_need_arrangement
  m_need_arrangement : mg "need_arrangement" = some (.ref A.a_need_arrangement)
  h_validate_arrangement : L2.Fun K "validate_arrangement" "validate_arrangement" s_validate_arrangement A.a_validate_arrangement A.d_validate_arrangement
  m_validate_arrangement : mg "validate_arrangement" = some (.ref A.a_validate_arrangement)
  h_is_step : L2.Fun K "is_step" "is_step" s_is_step A.a_is_step A.d_is_step
  m_is_step : mg "is_step" = some (.ref A.a_is_step)
  h_validate_step : L2.Fun K "validate_step" "validate_step" s_validate_step A.a_validate_step A.d_validate_step
  m_validate_step : mg "validate_step" = some (.ref A.a_validate_step)
  h_holder_of : L2.Fun K "holder_of" "holder_of" s_holder_of A.a_holder_of A.d_holder_of
  m_holder_of : mg "holder_of" = some (.ref A.a_holder_of)
  h_is_at_wall : L2.Fun K "is_at_wall" "is_at_wall" s_is_at_wall A.a_is_at_wall A.d_is_at_wall
  m_is_at_wall : mg "is_at_wall" = some (.ref A.a_is_at_wall)
  h_can_step : L2.Fun K "can_step" "can_step" s_can_step A.a_can_step A.d_can_step
  m_can_step : mg "can_step" = some (.ref A.a_can_step)
  h_reason : L2.Fun K "reason" "reason" s_reason A.a_reason A.d_reason
  m_reason : mg "reason" = some (.ref A.a_reason)
  h__law_far : L2.Fun K "_law_far" "_law_far" s__law_far A.a__law_far A.d__law_far
  m__law_far : mg "_law_far" = some (.ref A.a__law_far)
  h__law_reason : L2.Fun K "_law_reason" "_law_reason" s__law_reason A.a__law_reason A.d__law_reason
  m__law_reason : mg "_law_reason" = some (.ref A.a__law_reason)
  h__law_right : L2.Fun K "_law_right" "_law_right" s__law_right A.a__law_right A.d__law_right
  m__law_right : mg "_law_right" = some (.ref A.a__law_right)
  h__law_row_right : L2.Fun K "_law_row_right" "_law_row_right" s__law_row_right A.a__law_row_right A.d__law_row_right
  m__law_row_right : mg "_law_row_right" = some (.ref A.a__law_row_right)
  h_law : L2.Fun K "law" "law" s_law A.a_law A.d_law
  m_law : mg "law" = some (.ref A.a_law)
  n_all : mg "all" = none
  n_bool : mg "bool" = none
  n_enumerate : mg "enumerate" = none
  n_int : mg "int" = none
  n_isinstance : mg "isinstance" = none
  n_len : mg "len" = none
  n_list : mg "list" = none
  n_max : mg "max" = none
  n_min : mg "min" = none
  n_range : mg "range" = none
  n_repr : mg "repr" = none
  n_sorted : mg "sorted" = none
  n_tuple : mg "tuple" = none
  n_zip : mg "zip" = none
  c_MOST_DIFFERENCE : ∃ t, mg "MOST_DIFFERENCE" = some (.int 10000000000 t)
  c_MOST_PLACE : ∃ t, mg "MOST_PLACE" = some (.int 1000000000 t)
  c_MOST_WAGONS : ∃ t, mg "MOST_WAGONS" = some (.int 40 t)
section
variable {P : Program} {w : World} {K : PySem.W.Frag} {mg : Str → Option Value} {base : Heap} {Ar : Ad}
theorem sc__law_state : FnScope N__law_state ["script"] (defScope s__law_state) := ⟨rfl, rfl, rfl, by decide +kernel, rfl, by decide +kernel, by decide +kernel⟩
theorem kb__law_state (T : Tx K mg Ar) : KB K Ar.d__law_state ["script"] 1 [] (List.range 1) := kb_of T.h__law_state fun _ _ _ _ _ _ us ws h1 h2 => match us, ws, h1, h2 with
  | [_], [], _, _ => rfl
theorem state_of {f : Addr} {fd : FuncData} (F : L2.Fun K "_law_state" "_law_state" s__law_state f fd) (nR : True) : FnG P w K mg base CX0 1 f fd ["script"] (spState K) := by
  obtain ⟨oc, od, kV, doc, pm, an, cdv, ct, osl, rfl, lk, hcd⟩ := F.ex
  refine fnG_of lk hcd sc__law_state spState_len fun A outer s H vs Q E hr gd ⟨a, ns, hv, fz, h63, kq⟩ => ?_
  subst hv
  have hb : PSs (cxOf CX0 P w K mg base N__law_state "_law_state" (defScope s__law_state) f cdv A outer s H E).nox (defBody s__law_state) (tRet (tDisp [(tC (.str "cells"), tD (cNo K H) [0] v1), (tC (.str "great"), tN (cNo K H) v2), (tC (.str "at"), tC (.int 0))])) :=
    pss_one (ps_ret (pe_disp (pps_cons pe_str (pn_sl (pd_v 0 (pv 0)) pt_no (pt_so pd_int)) (pps_cons pe_str (pn_lc (own := [("cell", 1)]) rfl sc__law_state.nd (id_seq (pn_sl (pd_v 0 (pv 0)) pt_no (pt_so pd_int))) (blkOk_by (N := N__law_state) (sc := defScope s__law_state) (by decide +kernel)) (fun _ _ _ _ _ => (gd_name (i := 1) sc__law_state.nd rfl (Or.inl rfl))) (fun _ _ _ _ _ => (pts_one (qt_c oo_ge (pd_v 1 (pv 1)) (qd_op oo_pow pd_int pd_int) (nomark _)))) (fun _ _ _ _ _ => (pd_v 1 (pv 1))) (by decide)) (pps_cons pe_str pe_int pps_nil))) (by rfl) (by rfl) (fun z => by cases z) (by decide)))
  refine ⟨_, hb.nox, ?_⟩
  intro p hp
  have e0 : EnvOk (cNo K H) (fun _ => []) H [some (.ref a), none] [some (.frz (ns.map D.int)), none] := by
    refine ⟨trivial, rfl, fun i d q => ?_, (fun _ _ => rfl), (fun _ _ z => nomatch z), (fun _ _ _ z => nomatch z), (fun _ _ => List.nodup_nil), (fun _ _ _ _ _ z => nomatch z), (fun _ _ e _ => e)⟩
    match i, q with
    | 0, q =>
      cases q
      exact ⟨.ref a, rfl, .frz fz .of_ints⟩
    | 1, q => cases q
    | i + 2, q => cases q
  have k1 : Kp (gNo K) H (upd H p (.dK [])) := Kp.laid trivial hp _
  refine ⟨fun _ => [], [some (.frz (ns.map D.int)), none], fun d => d = .lst ((ns.take 63).map D.int), e0.kp k1, by rw [e_v1]; rfl, fun d hd v H2 F2 p2 r2 => ?_⟩
  subst hd
  have k2 := k1.trans p2.kp
  cases r2 with
  | @lst l xs _ F3 hl ax =>
    obtain ⟨rfl, rfl⟩ := ax.ints
    refine ⟨fun _ => [], [some (.frz (ns.map D.int)), none], fun d => d = .lst (((ns.take 63).filter fun z => decide (1000000000000000000 ≤ z)).map D.int), e0.kp k2, by rw [e_v2]; rfl, fun d hd v H3 F4 kp3 r3 fr nd => ?_⟩
    subst hd
    have k3 := k2.trans kp3
    cases r3 with
    | @lst g xs _ F5 hg ax =>
      obtain ⟨rfl, rfl⟩ := ax.ints
      have hl3 : H3 l = some (.lst ((ns.take 63).map V.int)) := kp3.kp _ _ hl (fun z => nomatch z)
      have hp1 : upd H p (.dK []) p = some (.dK []) := upd_same
      have hp2 : H2 p = some (.dK []) := p2.kp.kp _ _ hp1 (fun z => nomatch z)
      have hp3 : H3 p = some (.dK []) := kp3.kp _ _ hp2 (fun z => nomatch z)
      have nlg : l ≠ g := fun z => by
        have := fr g (by simp)
        rw [← z, hl] at this
        cases this
      have npl : l ≠ p := fun z => by
        rw [z, hp3] at hl3
        cases hl3
      have npg : g ≠ p := fun z => by
        rw [z, hp3] at hg
        cases hg
      refine ⟨hp3, dkv l g 0, rfl, by show 3 ≤ 15; decide, ?_⟩
      have em : mergeK [] (dkv l g 0) = dkv l g 0 := by rfl
      rw [em]
      refine kq p [p, l, g] _ ⟨l, g, ns.take 63, (ns.take 63).filter fun z => decide (1000000000000000000 ≤ z), 0, rfl, nlg, by rw [List.length_take]; omega, ?_, upd_same, by rw [upd_ne npl]; exact hl3, by rw [upd_ne npg]; exact hg⟩ fun b o hb => ?_
      · have := List.length_filter_le (fun z : Int => decide (1000000000000000000 ≤ z)) (ns.take 63)
        rw [List.length_take] at this
        omega
      · have nb : b ≠ p := fun z => by
          rw [z, hp] at hb
          cases hb
        rw [upd_ne nb]
        exact k3.kp b o hb (fun z => nomatch z)
theorem ok__law_state (T : Tx K mg Ar) : FnG P w K mg base CX0 1 Ar.a__law_state Ar.d__law_state ["script"] (spState K) := state_of T.h__law_state trivial
theorem sc__law_mixed : FnScope N__law_mixed ["number", "k"] (defScope s__law_mixed) := ⟨rfl, rfl, rfl, by decide +kernel, rfl, by decide +kernel, by decide +kernel⟩
theorem kb__law_mixed (T : Tx K mg Ar) : KB K Ar.d__law_mixed ["number", "k"] 2 [] (List.range 2) := kb_of T.h__law_mixed fun _ _ _ _ _ _ us ws h1 h2 => match us, ws, h1, h2 with
  | [_, _], [], _, _ => rfl
set_option maxHeartbeats 4000000 in
theorem ok__law_mixed (T : Tx K mg Ar) : FnG P w K mg base CX0 1 Ar.a__law_mixed Ar.d__law_mixed ["number", "k"] (spD (K := K) F__law_mixed) :=
  fnD (n := 2) (N := N__law_mixed) (own := [2]) (g := g__law_mixed) T.h__law_mixed sc__law_mixed rfl (by decide) (by decide) fun cdv A outer s H E hr gd G H0 xq =>
    (sd_cons (sd_set (i := 2) sc__law_mixed.nd rfl (Or.inl rfl) (qd_op oo_mod (qd_op oo_mul (qd_op oo_add (qd_op oo_add (qd_op oo_add (qd_op oo_mod (pd_v 0 (pv 0)) pd_int) (qd_op oo_mul (qd_op oo_mul pd_int (pd_v 1 (pv 1))) (pd_v 1 (pv 1)))) (qd_op oo_mul pd_int (pd_v 1 (pv 1)))) pd_int) pd_int) pd_int))
      (sd_one (sd_ret (qd_op oo_fdiv (qd_op oo_mod (qd_op oo_mul (pd_v 2 (pv 2)) pd_int) pd_int) pd_int))))
theorem sc__law_next : FnScope N__law_next ["dice"] (defScope s__law_next) := ⟨rfl, rfl, rfl, by decide +kernel, rfl, by decide +kernel, by decide +kernel⟩
theorem kb__law_next (T : Tx K mg Ar) : KB K Ar.d__law_next ["dice"] 1 [] (List.range 1) := kb_of T.h__law_next fun _ _ _ _ _ _ us ws h1 h2 => match us, ws, h1, h2 with
  | [_], [], _, _ => rfl
theorem next_of {f : Addr} {fd : FuncData} (T : Tx K mg Ar) (F : L2.Fun K "_law_next" "_law_next" s__law_next f fd) : FnG P w K mg base CX0 2 f fd ["dice"] (spD (K := K) F__law_next) := by
  obtain ⟨oc, od, kV, doc, pm, an, cdv, ct, osl, rfl, lk, hcd⟩ := F.ex
  refine fnG_of lk hcd sc__law_next (spD_len ln__law_next rfl) fun A outer s H vs Q E hr gd ⟨G, ds, Fp, Qd, Xq, ok, nF, r, ⟨hds, hq⟩, kq⟩ => ?_
  subst hds
  obtain ⟨d, rfl, hrt⟩ : ∃ d, vs = [.ref d] ∧ G.rt = some d := by
    cases r with
    | cons r0 r1 =>
      cases r1
      cases r0 with
      | src h => exact ⟨_, rfl, h⟩
  have hu := hu_of hr
  have gd' := deep_guards (env := PyProof.Rows.envOfC "_law_next" (defScope s__law_next) s.heap.objs.size f cdv) gd
  refine ⟨_, PSs.nox (X := cxOf CX0 P w K mg base N__law_next "_law_next" (defScope s__law_next) f cdv A outer s H E) (pss_cons (ps_daug hu (pv 0) pe_str pe_int in_add (fun _ _ _ => rfl))
    (pss_cons (ps_set (i := 1) sc__law_next.nd rfl (Or.inl rfl) (pe_dget hu (pv 0) pe_str (fun _ _ => rfl)))
    (pss_cons (ps_while PassesOwn.never (pw_and (pt_cmpR (op_neD hr.units) (pv 1) (pe_lst pa_nil) (nomark _)) (pw_and1 (pt_cmpR op_eq (pe_ix ix_list (pv 1) pe_int (fun _ _ => rfl)) pe_int (nomark _)))).pt
      (pss_one (ps_expr (pe_bm PySem.F.plainAttrs_list PySem.F.slot_list_pop PySem.F.type_list_pop mt_popAt (pv 1) (pa_cons pe_int pa_nil)))))
    (pss_cons (ps_if (pt_cmpR (op_neD hr.units) (pv 1) (pe_lst pa_nil) (nomark _))
      (pss_cons (ps_set (i := 2) sc__law_next.nd rfl (Or.inl rfl) (pe_op op_mod (pe_ix ix_list (pv 1) pe_int (fun _ _ => rfl)) pe_int))
      (pss_cons (ps_asg (pe_op op_fdivW (pe_ix ix_list (pv 1) pe_int (fun _ _ => rfl)) pe_int) (pg_sub (pv 1) pe_int set_list (by intro _; rfl)))
      (pss_one (ps_ret (pv 2))))) pss_nil)
    (pss_cons (ps_par (i := 3) (j := 4) rfl sc__law_next.nd rfl rfl (by decide) rfl rfl (pa_cons (pe_dget hu (pv 0) pe_str (fun _ _ => rfl)) (pa_cons (pe_dget hu (pv 0) pe_str (fun _ _ => rfl)) pa_nil)) rfl)
    (pss_cons (ps_set (i := 5) sc__law_next.nd rfl (Or.inl rfl) (pe_ifExp (pt_cmpR (op_neD hr.units) (pv 3) (pe_lst pa_nil) (nomark _)) (pe_ix ix_list (pv 3) (pe_op op_mod (pv 4) (pe_callB call_len_seq (by rfl) T.n_len PySem.boot_len (pa_cons (pv 3) pa_nil))) (fun _ _ => rfl)) pe_int))
    (pss_one (ps_ret (pe_op op_mod (pe_g (E := L2.E0) (ok__law_mixed T) (hr.mono (by decide)) gd' (by rfl) T.m__law_mixed T.h__law_mixed.kp (kb__law_mixed T) L2.pass0 (pa_cons (pe_g (E := L2.E0) (ok__law_mixed T) (hr.mono (by decide)) gd' (by rfl) T.m__law_mixed T.h__law_mixed.kp (kb__law_mixed T) L2.pass0
      (pa_cons (pe_op op_add (pv 5) (pe_op op_mul pe_int (pv 4))) (pa_cons (pe_op op_mod (pv 4) pe_int) pa_nil))) (pa_cons pe_int pa_nil))) pe_int))))))))), ?_⟩
  obtain ⟨l, g, xs, gs, t, hS, nlg, x63, g63, hd, hl, hg⟩ := (G.fam d hrt H).mp ok
  have ld : l ≠ d := fun z => by rw [z, hd] at hl; cases hl
  have gdn : g ≠ d := fun z => by rw [z, hd] at hg; cases hg
  have fin : ∀ (gs' : List Int) (t' : Int) (H' : Hp) (r : Int), Ds H H' d l g xs gs' t' → 0 ≤ r → r < 65536 → Q (.int r) H' := fun gs' t' H' r D h0 h1 => kq (.int r) (hq r h0 h1) (.int r) H' [] (D.kpG hrt hS x63 ok) (.int r) (fun _ z => nomatch z) List.nodup_nil
  -- dice['at'] += 1
  refine ⟨_, rfl, d, .int t, rfl, DGet.k (k := .inr "at") hd, t, 1, rfl, rfl, _, DPut.k (k := .inr "at") hd (by show 3 < sizeLine; decide), ?_⟩
  have D1 : Ds H (upd H d (.dK (dkv l g (t + 1)))) d l g xs gs (t + 1) := ⟨upd_same, by rw [upd_ne ld]; exact hl, by rw [upd_ne gdn]; exact hg, g63, nlg, fun b o e m => by rw [upd_ne (fun z => m (by simp [z]))]; exact e, fun b e => by
    by_cases z : b = d
    · rw [z, upd_same]; exact fun z => nomatch z
    · rw [upd_ne z]; exact e⟩
  have ep : putK (dkv l g t) (.inr "at") (.int (t + 1)) = dkv l g (t + 1) := rfl
  rw [ep]
  generalize upd H d (.dK (dkv l g (t + 1))) = H1 at D1 ⊢
  -- great = dice['great']
  refine ⟨_, rfl, d, .ref g, rfl, DGet.k (k := .inr "great") D1.hd, ?_⟩
  -- the loop
  refine ⟨fun m σ H' => ∃ gs', gs'.length = m ∧ Ds H H' d l g xs gs' (t + 1) ∧ σ = [some (.ref d), some (.ref g), none, none, none, none], ⟨_, gs, rfl, D1, rfl⟩, ?_⟩
  rintro m σ H' ⟨gs', rfl, D2, rfl⟩
  refine rd_test rfl D2 fun b H3 D3 hb => ?_
  cases b with
  | true =>
    obtain ⟨rest, rfl⟩ := hb rfl
    refine iteT ⟨fun σ H' => Ds H H' d l g xs rest (t + 1) ∧ σ = [some (.ref d), some (.ref g), none, none, none, none], fun σ' H4 h => ⟨rest.length, Nat.lt_succ_self _, rest, rfl, h.1, h.2⟩, ?_⟩
    refine ⟨_, rfl, .inl ⟨rfl, _, SqL.of D3.hg⟩, g, _, 0, 0, .int 0, rfl, rfl, D3.hg, by decide, by decide, (L2.ixN_seq (ixN_nat (k := 0) (by simp))).1, rfl, ?_⟩
    exact ⟨D3.setg (by have := D3.g63; simp at this; omega), rfl⟩
  | false =>
    refine iteF ?_
    -- if great != []
    refine rd_ne (i := 1) rfl D3.hg fun q hq2 => ?_
    have D4 := D3.fresh hq2 (.lst [])
    cases gs' with
    | cons n rest =>
      refine iteT ?_
      refine ⟨_, rfl, g, _, 0, .int n, rfl, rfl, SqL.of D4.hg, atI_nat (k := 0) rfl, n, 65536, rfl, rfl, (by show (0 : Int) < 65536; decide), ?_⟩
      refine ⟨_, rfl, g, _, 0, .int n, rfl, rfl, SqL.of D4.hg, atI_nat (k := 0) rfl, n, 65536, rfl, rfl, ⟨by decide, Nat.lt_trans (PySem.Flt.log2_lt_of (k := 17) (by decide) (by decide)) (by decide)⟩, ?_⟩
      refine ⟨_, rfl, g, _, 0, 0, rfl, rfl, D4.hg, ixN_nat (k := 0) (by simp), ?_⟩
      have D5 := D4.setg (gs' := (n / 65536) :: rest) D4.g63
      exact ⟨_, rfl, fin _ _ _ _ D5 (Int.emod_nonneg _ (by decide)) (Int.emod_lt_of_pos _ (by decide))⟩
    | nil =>
      refine iteF ?_
      refine ⟨_, rfl, d, .ref l, rfl, DGet.k (k := .inr "cells") D4.hd, _, rfl, d, .int (t + 1), rfl, DGet.k (k := .inr "at") D4.hd, _, _, rfl, ?_⟩
      refine rd_cell (a := t + 1) rfl rfl D4 fun cv H5 D5 => ?_
      have q1 : 0 ≤ (t + 1) % 1000 := Int.emod_nonneg _ (by decide)
      have q2 : (t + 1) % 1000 < 1000 := Int.emod_lt_of_pos _ (by decide)
      refine ⟨_, rfl, _, rfl, 7919, t + 1, rfl, rfl, .inl ⟨by decide, by decide⟩, cv, _, rfl, rfl, _, rfl, t + 1, 1000, rfl, rfl, (by show (0 : Int) < 1000; decide), rfl, rfl, ?_⟩
      refine sp_mixed D5 _ _ ⟨q1, q2⟩ fun r H6 D6 => ?_
      refine ⟨rfl, rfl, ?_⟩
      refine sp_mixed D6 _ _ ⟨by decide, by decide⟩ fun r2 H7 D7 => ?_
      exact ⟨r2, 65536, rfl, rfl, (by show (0 : Int) < 65536; decide), fin _ _ _ _ D7 (Int.emod_nonneg _ (by decide)) (Int.emod_lt_of_pos _ (by decide))⟩
theorem ok__law_next (T : Tx K mg Ar) : FnG P w K mg base CX0 2 Ar.a__law_next Ar.d__law_next ["dice"] (spD (K := K) F__law_next) := next_of T T.h__law_next
theorem sc__law_shuffled : FnScope N__law_shuffled ["dice", "many"] (defScope s__law_shuffled) := ⟨rfl, rfl, rfl, by decide +kernel, rfl, by decide +kernel, by decide +kernel⟩
theorem kb__law_shuffled (T : Tx K mg Ar) : KB K Ar.d__law_shuffled ["dice", "many"] 2 [] (List.range 2) := kb_of T.h__law_shuffled fun _ _ _ _ _ _ us ws h1 h2 => match us, ws, h1, h2 with
  | [_, _], [], _, _ => rfl
set_option maxHeartbeats 4000000 in
theorem ok__law_shuffled (T : Tx K mg Ar) : FnG P w K mg base CX0 3 Ar.a__law_shuffled Ar.d__law_shuffled ["dice", "many"] (spD (K := K) F__law_shuffled) :=
  fnD (n := 2) (N := N__law_shuffled) (own := [2, 3]) (g := g__law_shuffled) T.h__law_shuffled sc__law_shuffled rfl (by decide) (by decide) fun cdv A outer s H E hr gd G H0 xq =>
    (sd_cons (sd_par (i := 2) (j := 3) rfl sc__law_shuffled.nd rfl rfl (by decide) rfl rfl (pn_listRng rfl (by rfl) T.n_list (by rfl) T.n_range (pd_v 1 (pv 1))) (pn_lst pda_nil) rfl)
      (sd_cons (sd_while PassesOwn.never (qt_c (oo_ne hr) (pd_v 2 (pv 2)) (pd_lst pda_nil) (nomark _)) (sd_one (sd_appPop 3 2 (by decide) (List.Mem.tail _ (List.Mem.head _)) (List.Mem.head _) (pv 3) (pv 2) (qd_op oo_mod (pd_new (pn_call (ok__law_next T) (ln__law_next) (hr.mono (by decide)) gd (by rfl) T.m__law_next T.h__law_next.kp (kb__law_next T) (pda_cons (pd_v 0 (pv 0)) pda_nil))) (qd_callB cc_len PySem.boot_len (by rfl) T.n_len (pda_cons (pd_v 2 (pv 2)) pda_nil))))))
      (sd_one (sd_retV 3 (List.Mem.tail _ (List.Mem.head _)) (pv 3)))))
theorem sc__law_lot : FnScope N__law_lot ["dice", "most"] (defScope s__law_lot) := ⟨rfl, rfl, rfl, by decide +kernel, rfl, by decide +kernel, by decide +kernel⟩
theorem kb__law_lot (T : Tx K mg Ar) : KB K Ar.d__law_lot ["dice", "most"] 2 [] (List.range 2) := kb_of T.h__law_lot fun _ _ _ _ _ _ us ws h1 h2 => match us, ws, h1, h2 with
  | [_, _], [], _, _ => rfl
set_option maxHeartbeats 4000000 in
theorem ok__law_lot (T : Tx K mg Ar) : FnG P w K mg base CX0 4 Ar.a__law_lot Ar.d__law_lot ["dice", "most"] (spD (K := K) F__law_lot) :=
  fnD (n := 2) (N := N__law_lot) (own := [2, 3, 4, 5, 6, 7, 8, 9, 10, 11, 12, 13, 14, 15, 16, 17]) (g := g__law_lot) T.h__law_lot sc__law_lot rfl (by decide) (by decide) fun cdv A outer s H E hr gd G H0 xq =>
    (sd_cons (sd_parT (i := 2) (j := 3) rfl sc__law_lot.nd rfl rfl (Or.inl rfl) (Or.inr rfl) (pn_imm (qd_op oo_add pd_int (qd_op oo_mod (pd_new (pn_call (ok__law_next T) (ln__law_next) (hr.mono (by decide)) gd (by rfl) T.m__law_next T.h__law_next.kp (kb__law_next T) (pda_cons (pd_v 0 (pv 0)) pda_nil))) (pd_v 1 (pv 1))))) (pn_imm (qd_ix (pd_lst (pda_cons pd_int (pda_cons pd_int (pda_cons pd_int (pda_cons (qd_op oo_sub (qd_op oo_pow pd_int pd_int) pd_int) (pda_cons (qd_op oo_sub pd_int (qd_op oo_pow pd_int pd_int)) pda_nil)))))) (qd_op oo_mod (pd_new (pn_call (ok__law_next T) (ln__law_next) (hr.mono (by decide)) gd (by rfl) T.m__law_next T.h__law_next.kp (kb__law_next T) (pda_cons (pd_v 0 (pv 0)) pda_nil))) pd_int) (fun _ _ => rfl))) rfl)
      (sd_cons (sd_par (i := 4) (j := 5) rfl sc__law_lot.nd rfl rfl (by decide) rfl rfl (pn_lc (own := [("v", 17)]) rfl sc__law_lot.nd (id_rng1 (by rfl) T.n_range (pda_cons (pd_v 2 (pv 2)) pda_nil)) (blkOk_by (N := N__law_lot) (sc := defScope s__law_lot) (by decide +kernel)) (fun _ _ _ _ _ => (gd_name (i := 17) sc__law_lot.nd rfl (Or.inl rfl))) (fun _ _ _ _ _ => pts0) (fun _ _ _ _ _ => (qd_op oo_add (pd_v 3 (pv 3)) (qd_op oo_mod (pd_new (pn_call (ok__law_next T) (ln__law_next) (hr.mono (by decide)) gd (by rfl) T.m__law_next T.h__law_next.kp (kb__law_next T) (pda_cons (pd_v 0 (pv 0)) pda_nil))) pd_int))) (by decide)) (pn_lst pda_nil) rfl)
      (sd_cons (sd_for PassesOwn.never rfl (id_seq (pd_v 4 (pv 4))) (gd_name (i := 6) sc__law_lot.nd rfl (Or.inl rfl)) (sd_cons (sd_setN (i := 7) sc__law_lot.nd rfl (Or.inl rfl) (pn_call (ok__law_next T) (ln__law_next) (hr.mono (by decide)) gd (by rfl) T.m__law_next T.h__law_next.kp (kb__law_next T) (pda_cons (pd_v 0 (pv 0)) pda_nil)))
      (sd_cons (sd_par (i := 8) (j := 9) rfl sc__law_lot.nd rfl rfl (by decide) rfl rfl (pn_imm (qd_op oo_sub (pd_v 6 (pv 6)) (qd_ix (pd_lst (pda_cons pd_int (pda_cons pd_int (pda_cons pd_int (pda_cons (qd_op oo_mod (qd_op oo_fdiv (pd_v 7 (pv 7)) pd_int) pd_int) pda_nil))))) (qd_op oo_mod (pd_v 7 (pv 7)) pd_int) (fun _ _ => rfl)))) (pn_imm (qd_op oo_add (pd_v 6 (pv 6)) (qd_ix (pd_lst (pda_cons pd_int (pda_cons pd_int (pda_cons pd_int (pda_cons (qd_op oo_mod (qd_op oo_fdiv (pd_v 7 (pv 7)) pd_int) pd_int) pda_nil))))) (qd_op oo_mod (qd_op oo_fdiv (pd_v 7 (pv 7)) pd_int) pd_int) (fun _ _ => rfl)))) rfl)
      (sd_one (sd_app 5 (List.Mem.tail _ (List.Mem.tail _ (List.Mem.tail _ (List.Mem.head _)))) (pv 5) (pd_tup (pda_cons (qd_callB (cc_max2 rfl) PyProof.Rows.boot_max (by rfl) T.n_max (pda_cons (pd_v 8 (pv 8)) (pda_cons (qd_op oo_sub pd_int (qd_op oo_pow pd_int pd_int)) pda_nil))) (pda_cons (qd_callB (cc_min2 rfl) PyProof.Rows.boot_min (by rfl) T.n_min (pda_cons (pd_v 9 (pv 9)) (pda_cons (qd_op oo_pow pd_int pd_int) pda_nil))) pda_nil))))))) (by decide))
      (sd_cons (sd_par (i := 10) (j := 11) rfl sc__law_lot.nd rfl rfl (by decide) rfl rfl (pn_call (ok__law_shuffled T) (bodyD_len _ _ _) (hr.mono (by decide)) gd (by rfl) T.m__law_shuffled T.h__law_shuffled.kp (kb__law_shuffled T) (pda_cons (pd_v 0 (pv 0)) (pda_cons (pd_v 2 (pv 2)) pda_nil))) (pn_lst pda_nil) rfl)
      (sd_cons (sd_for PassesOwn.never rfl (id_rng2 (by rfl) T.n_range (pda_cons pd_int (pda_cons (pd_v 2 (pv 2)) pda_nil))) (gd_name (i := 12) sc__law_lot.nd rfl (Or.inl rfl)) (sd_cons (sd_setN (i := 7) sc__law_lot.nd rfl (Or.inl rfl) (pn_call (ok__law_next T) (ln__law_next) (hr.mono (by decide)) gd (by rfl) T.m__law_next T.h__law_next.kp (kb__law_next T) (pda_cons (pd_v 0 (pv 0)) pda_nil)))
      (sd_one (sd_if (qt_c oo_gt (qd_op oo_mod (pd_v 7 (pv 7)) pd_int) pd_int (nomark _)) (sd_cons (sd_asg (pd_new (qn_callB cc_sortI PyProof.Rows.boot_sorted (by rfl) T.n_sorted (pda_cons (pd_lst (pda_cons (qd_ix (pd_v 10 (pv 10)) (pd_v 12 (pv 12)) (fun _ _ => rfl)) (pda_cons (qd_ix (pd_v 10 (pv 10)) (qd_op oo_mod (pd_new (pn_call (ok__law_next T) (ln__law_next) (hr.mono (by decide)) gd (by rfl) T.m__law_next T.h__law_next.kp (kb__law_next T) (pda_cons (pd_v 0 (pv 0)) pda_nil))) (pd_v 12 (pv 12))) (fun _ _ => rfl)) pda_nil))) pda_nil))) (gd_lst rfl (gds_cons (gd_name (i := 13) sc__law_lot.nd rfl (Or.inl rfl)) (gds_cons (gd_name (i := 14) sc__law_lot.nd rfl (Or.inl rfl)) gds_nil))))
      (sd_cons (sd_par (i := 15) (j := 16) rfl sc__law_lot.nd rfl rfl (by decide) rfl rfl (pn_imm (qd_op oo_sub (qd_ix (pd_v 4 (pv 4)) (pd_v 14 (pv 14)) (fun _ _ => rfl)) (qd_ix (pd_v 4 (pv 4)) (pd_v 13 (pv 13)) (fun _ _ => rfl)))) (pn_imm (qd_ix (pd_lst (pda_cons pd_int (pda_cons pd_int (pda_cons pd_int (pda_cons pd_int pda_nil))))) (qd_op oo_mod (qd_op oo_fdiv (pd_v 7 (pv 7)) pd_int) pd_int) (fun _ _ => rfl))) rfl)
      (sd_one (sd_app 11 (List.Mem.tail _ (List.Mem.tail _ (List.Mem.tail _ (List.Mem.tail _ (List.Mem.tail _ (List.Mem.tail _ (List.Mem.tail _ (List.Mem.tail _ (List.Mem.tail _ (List.Mem.head _)))))))))) (pv 11) (pd_tup (pda_cons (pd_v 13 (pv 13)) (pda_cons (pd_v 14 (pv 14)) (pda_cons (qd_op oo_sub (pd_v 15 (pv 15)) (pd_v 16 (pv 16))) (pda_cons (qd_op oo_add (pd_v 15 (pv 15)) (qd_callB (cc_max2 rfl) PyProof.Rows.boot_max (by rfl) T.n_max (pda_cons (qd_ix (pd_lst (pda_cons pd_int (pda_cons pd_int (pda_cons pd_int (pda_cons pd_int pda_nil))))) (qd_op oo_mod (qd_op oo_fdiv (pd_v 7 (pv 7)) pd_int) pd_int) (fun _ _ => rfl)) (pda_cons (qd_op oo_sub pd_int (pd_v 16 (pv 16))) pda_nil)))) pda_nil))))))))) sd_nil))) (by decide))
      (sd_one (sd_ret (pd_tup (pda_cons (pd_tup (pda_cons (qd_callTy cc_tuple PyProof.Rows.boot_tuple (by rfl) T.n_tuple (pda_cons (pd_v 5 (pv 5)) pda_nil)) (pda_cons (qd_callTy cc_tuple PyProof.Rows.boot_tuple (by rfl) T.n_tuple (pda_cons (pd_new (qn_callB cc_sortT PyProof.Rows.boot_sorted (by rfl) T.n_sorted (pda_cons (pd_v 11 (pv 11)) pda_nil))) pda_nil)) pda_nil))) (pda_cons (qd_callTy cc_tuple PyProof.Rows.boot_tuple (by rfl) T.n_tuple (pda_cons (pd_v 4 (pv 4)) pda_nil)) pda_nil))))))))))
theorem sc__law_pick : FnScope N__law_pick ["dice", "some"] (defScope s__law_pick) := ⟨rfl, rfl, rfl, by decide +kernel, rfl, by decide +kernel, by decide +kernel⟩
theorem kb__law_pick (T : Tx K mg Ar) : KB K Ar.d__law_pick ["dice", "some"] 2 [] (List.range 2) := kb_of T.h__law_pick fun _ _ _ _ _ _ us ws h1 h2 => match us, ws, h1, h2 with
  | [_, _], [], _, _ => rfl
set_option maxHeartbeats 4000000 in
theorem ok__law_pick (T : Tx K mg Ar) : FnG P w K mg base CX0 3 Ar.a__law_pick Ar.d__law_pick ["dice", "some"] (spD (K := K) F__law_pick) :=
  fnD (n := 2) (N := N__law_pick) (own := []) (g := g__law_pick) T.h__law_pick sc__law_pick rfl (by decide) (by decide) fun cdv A outer s H E hr gd G H0 xq =>
    (sd_one (sd_ret (qd_ix (pd_v 1 (pv 1)) (qd_op oo_mod (pd_new (pn_call (ok__law_next T) (ln__law_next) (hr.mono (by decide)) gd (by rfl) T.m__law_next T.h__law_next.kp (kb__law_next T) (pda_cons (pd_v 0 (pv 0)) pda_nil))) (qd_callB cc_len PySem.boot_len (by rfl) T.n_len (pda_cons (pd_v 1 (pv 1)) pda_nil))) (fun _ _ => rfl))))
theorem sc__law_moved : FnScope N__law_moved ["spots", "act"] (defScope s__law_moved) := ⟨rfl, rfl, rfl, by decide +kernel, rfl, by decide +kernel, by decide +kernel⟩
theorem kb__law_moved (T : Tx K mg Ar) : KB K Ar.d__law_moved ["spots", "act"] 2 [] (List.range 2) := kb_of T.h__law_moved fun _ _ _ _ _ _ us ws h1 h2 => match us, ws, h1, h2 with
  | [_, _], [], _, _ => rfl
set_option maxHeartbeats 4000000 in
theorem ok__law_moved (T : Tx K mg Ar) : FnG P w K mg base CX0 1 Ar.a__law_moved Ar.d__law_moved ["spots", "act"] (spD (K := K) F__law_moved) :=
  fnD (n := 2) (N := N__law_moved) (own := []) (g := g__law_moved) T.h__law_moved sc__law_moved rfl (by decide) (by decide) fun cdv A outer s H E hr gd G H0 xq =>
    (sd_one (sd_ret (qd_op oo_add (qd_op oo_add (pn_sl (pd_v 0 (pv 0)) pt_no (pt_so (qd_ix (pd_v 1 (pv 1)) pd_int (fun _ _ => rfl)))) (pd_tup (pda_cons (qd_op oo_add (qd_ix (pd_v 0 (pv 0)) (qd_ix (pd_v 1 (pv 1)) pd_int (fun _ _ => rfl)) (fun _ _ => rfl)) (qd_ix (pd_v 1 (pv 1)) pd_int (fun _ _ => rfl))) pda_nil))) (pn_sl (pd_v 0 (pv 0)) (pt_so (qd_op oo_add (qd_ix (pd_v 1 (pv 1)) pd_int (fun _ _ => rfl)) pd_int)) pt_no))))
theorem sc__law_holds : FnScope N__law_holds ["lot", "spots"] (defScope s__law_holds) := ⟨rfl, rfl, rfl, by decide +kernel, rfl, by decide +kernel, by decide +kernel⟩
theorem kb__law_holds (T : Tx K mg Ar) : KB K Ar.d__law_holds ["lot", "spots"] 2 [] (List.range 2) := kb_of T.h__law_holds fun _ _ _ _ _ _ us ws h1 h2 => match us, ws, h1, h2 with
  | [_, _], [], _, _ => rfl
set_option maxHeartbeats 4000000 in
theorem ok__law_holds (T : Tx K mg Ar) : FnG P w K mg base CX0 1 Ar.a__law_holds Ar.d__law_holds ["lot", "spots"] (spD (K := K) F__law_holds) :=
  fnD (n := 2) (N := N__law_holds) (own := [2, 3, 4, 5, 6, 7]) (g := g__law_holds) T.h__law_holds sc__law_holds rfl (by decide) (by decide) fun cdv A outer s H E hr gd G H0 xq =>
    (sd_cons (sd_for PassesOwn.never rfl (id_zip (by rfl) T.n_zip (pda_cons (qd_ix (pd_v 0 (pv 0)) pd_int (fun _ _ => rfl)) (pda_cons (pd_v 1 (pv 1)) pda_nil))) (gd_tup rfl (gds_cons (gd_name (i := 2) sc__law_holds.nd rfl (Or.inl rfl)) (gds_cons (gd_name (i := 3) sc__law_holds.nd rfl (Or.inl rfl)) gds_nil))) (sd_one (sd_if (pt_n (qt_ch (oo_le hr) (oo_le hr) (qd_ix (pd_v 2 (pv 2)) pd_int (fun _ _ => rfl)) (pd_v 3 (pv 3)) (qd_ix (pd_v 2 (pv 2)) pd_int (fun _ _ => rfl)))) (sd_one (sd_ret pd_bl)) sd_nil)) (by decide))
      (sd_cons (sd_for PassesOwn.never rfl (id_seq (qd_ix (pd_v 0 (pv 0)) pd_int (fun _ _ => rfl))) (gd_tup rfl (gds_cons (gd_name (i := 4) sc__law_holds.nd rfl (Or.inl rfl)) (gds_cons (gd_name (i := 5) sc__law_holds.nd rfl (Or.inl rfl)) (gds_cons (gd_name (i := 6) sc__law_holds.nd rfl (Or.inl rfl)) (gds_cons (gd_name (i := 7) sc__law_holds.nd rfl (Or.inl rfl)) gds_nil))))) (sd_one (sd_if (pt_n (qt_ch (oo_le hr) (oo_le hr) (pd_v 6 (pv 6)) (qd_op oo_sub (qd_ix (pd_v 1 (pv 1)) (pd_v 5 (pv 5)) (fun _ _ => rfl)) (qd_ix (pd_v 1 (pv 1)) (pd_v 4 (pv 4)) (fun _ _ => rfl))) (pd_v 7 (pv 7)))) (sd_one (sd_ret pd_bl)) sd_nil)) (by decide))
      (sd_one (sd_ret pd_bl))))
theorem sc__law_ready : FnScope N__law_ready ["lot", "spots"] (defScope s__law_ready) := ⟨rfl, rfl, rfl, by decide +kernel, rfl, by decide +kernel, by decide +kernel⟩
theorem kb__law_ready (T : Tx K mg Ar) : KB K Ar.d__law_ready ["lot", "spots"] 2 [] (List.range 2) := kb_of T.h__law_ready fun _ _ _ _ _ _ us ws h1 h2 => match us, ws, h1, h2 with
  | [_, _], [], _, _ => rfl
set_option maxHeartbeats 4000000 in
theorem ok__law_ready (T : Tx K mg Ar) : FnG P w K mg base CX0 2 Ar.a__law_ready Ar.d__law_ready ["lot", "spots"] (spD (K := K) F__law_ready) :=
  fnD (n := 2) (N := N__law_ready) (own := [2, 3, 4]) (g := g__law_ready) T.h__law_ready sc__law_ready rfl (by decide) (by decide) fun cdv A outer s H E hr gd G H0 xq =>
    (sd_cons (sd_setN (i := 2) sc__law_ready.nd rfl (Or.inl rfl) (pn_lst pda_nil))
      (sd_cons (sd_for PassesOwn.never rfl (id_rng1 (by rfl) T.n_range (pda_cons (qd_callB cc_len PySem.boot_len (by rfl) T.n_len (pda_cons (pd_v 1 (pv 1)) pda_nil)) pda_nil)) (gd_name (i := 3) sc__law_ready.nd rfl (Or.inr rfl)) (sd_one (sd_ext 2 (List.Mem.head _) (pv 2) (pn_lc (own := [("sign", 4)]) rfl sc__law_ready.nd (id_seq (pd_tup (pda_cons (pd_neg pd_int) (pda_cons pd_int pda_nil)))) (blkOk_by (N := N__law_ready) (sc := defScope s__law_ready) (by decide +kernel)) (fun _ _ _ _ _ => (gd_name (i := 4) sc__law_ready.nd rfl (Or.inl rfl))) (fun _ _ _ _ _ => (pts_one (pt_v (pd_new (pn_call (ok__law_holds T) (bodyD_len _ _ _) (hr.mono (by decide)) gd (by rfl) T.m__law_holds T.h__law_holds.kp (kb__law_holds T) (pda_cons (pd_v 0 (pv 0)) (pda_cons (pd_new (pn_call (ok__law_moved T) (bodyD_len _ _ _) (hr.mono (by decide)) gd (by rfl) T.m__law_moved T.h__law_moved.kp (kb__law_moved T) (pda_cons (pd_v 1 (pv 1)) (pda_cons (pd_tup (pda_cons (pd_v 3 (pv 3)) (pda_cons (pd_v 4 (pv 4)) pda_nil))) pda_nil)))) pda_nil))))))) (fun _ _ _ _ _ => (pd_tup (pda_cons (pd_v 3 (pv 3)) (pda_cons (pd_v 4 (pv 4)) pda_nil)))) (by decide)))) (by decide))
      (sd_one (sd_retV 2 (List.Mem.head _) (pv 2)))))
theorem sc__law_walked : FnScope N__law_walked ["dice", "lot", "spots", "many"] (defScope s__law_walked) := ⟨rfl, rfl, rfl, by decide +kernel, rfl, by decide +kernel, by decide +kernel⟩
theorem kb__law_walked (T : Tx K mg Ar) : KB K Ar.d__law_walked ["dice", "lot", "spots", "many"] 4 [] (List.range 4) := kb_of T.h__law_walked fun _ _ _ _ _ _ us ws h1 h2 => match us, ws, h1, h2 with
  | [_, _, _, _], [], _, _ => rfl
set_option maxHeartbeats 4000000 in
theorem ok__law_walked (T : Tx K mg Ar) : FnG P w K mg base CX0 4 Ar.a__law_walked Ar.d__law_walked ["dice", "lot", "spots", "many"] (spD (K := K) F__law_walked) :=
  fnD (n := 4) (N := N__law_walked) (own := [4, 5]) (g := g__law_walked) T.h__law_walked sc__law_walked rfl (by decide) (by decide) fun cdv A outer s H E hr gd G H0 xq =>
    (sd_cons (sd_for PassesOwn.never rfl (id_rng1 (by rfl) T.n_range (pda_cons (pd_v 3 (pv 3)) pda_nil)) (gd_name (i := 4) sc__law_walked.nd rfl (Or.inl rfl)) (sd_cons (sd_setN (i := 5) sc__law_walked.nd rfl (Or.inl rfl) (pn_call (ok__law_ready T) (bodyD_len _ _ _) (hr.mono (by decide)) gd (by rfl) T.m__law_ready T.h__law_ready.kp (kb__law_ready T) (pda_cons (pd_v 1 (pv 1)) (pda_cons (pd_v 2 (pv 2)) pda_nil))))
      (sd_one (sd_if (qt_c (oo_ne hr) (pd_v 5 (pv 5)) (pd_lst pda_nil) (nomark _)) (sd_one (sd_setN (i := 2) sc__law_walked.nd rfl (Or.inl rfl) (pn_call (ok__law_moved T) (bodyD_len _ _ _) (hr.mono (by decide)) gd (by rfl) T.m__law_moved T.h__law_moved.kp (kb__law_moved T) (pda_cons (pd_v 2 (pv 2)) (pda_cons (pd_new (pn_call (ok__law_pick T) (bodyD_len _ _ _) (hr.mono (by decide)) gd (by rfl) T.m__law_pick T.h__law_pick.kp (kb__law_pick T) (pda_cons (pd_v 0 (pv 0)) (pda_cons (pd_v 5 (pv 5)) pda_nil)))) pda_nil))))) sd_nil))) (by decide))
      (sd_one (sd_ret (pd_v 2 (pv 2)))))
theorem sc_own_links : FnScope N_own_links ["yard"] (defScope s_own_links) := ⟨rfl, rfl, rfl, by decide +kernel, rfl, by decide +kernel, by decide +kernel⟩
theorem kb_own_links (T : Tx K mg Ar) : KB K Ar.d_own_links ["yard"] 1 [] (List.range 1) := kb_of T.h_own_links fun _ _ _ _ _ _ us ws h1 h2 => match us, ws, h1, h2 with
  | [_], [], _, _ => rfl
set_option maxHeartbeats 4000000 in
theorem ok_own_links (T : Tx K mg Ar) : FnG P w K mg base CX0 1 Ar.a_own_links Ar.d_own_links ["yard"] (spD (K := K) F_own_links) :=
  fnD (n := 1) (N := N_own_links) (own := [1, 2, 3, 4, 5, 6]) (g := g_own_links) T.h_own_links sc_own_links rfl (by decide) (by decide) fun cdv A outer s H E hr gd G H0 xq =>
    (sd_cons (sd_setLcN (i := 1) (own := [("pair", 6)]) rfl sc_own_links.nd rfl rfl (sw_true rfl rfl rfl (by decide +kernel)) (id_seq (qd_ix (pd_v 0 (pv 0)) pd_int (fun _ _ => rfl))) (blkOk_by (N := N_own_links) (sc := defScope s_own_links) (by decide +kernel)) (fun _ _ _ _ _ => (gd_name (i := 6) sc_own_links.nd rfl (Or.inl rfl))) (fun _ _ _ _ _ => pts0) (fun _ _ _ _ _ => (pn_lst pda_nil)) (by decide))
      (sd_cons (sd_for PassesOwn.never rfl (id_seq (qd_ix (pd_v 0 (pv 0)) pd_int (fun _ _ => rfl))) (gd_tup rfl (gds_cons (gd_name (i := 2) sc_own_links.nd rfl (Or.inl rfl)) (gds_cons (gd_name (i := 3) sc_own_links.nd rfl (Or.inl rfl)) (gds_cons (gd_name (i := 4) sc_own_links.nd rfl (Or.inl rfl)) (gds_cons (gd_name (i := 5) sc_own_links.nd rfl (Or.inl rfl)) gds_nil))))) (sd_cons (sd_appIx 1 (List.Mem.head _) (pv 1) (pd_v 2 (pv 2)) (pd_tup (pda_cons (pd_v 3 (pv 3)) (pda_cons (pd_v 4 (pv 4)) (pda_cons (pd_v 5 (pv 5)) pda_nil)))) (fun _ _ => rfl))
      (sd_one (sd_appIx 1 (List.Mem.head _) (pv 1) (pd_v 3 (pv 3)) (pd_tup (pda_cons (pd_v 2 (pv 2)) (pda_cons (pd_neg (pd_v 5 (pv 5))) (pda_cons (pd_neg (pd_v 4 (pv 4))) pda_nil)))) (fun _ _ => rfl)))) (by decide))
      (sd_one (sd_retV 1 (List.Mem.head _) (pv 1)))))
theorem sc_is_between : FnScope N_is_between ["value", "least", "most"] (defScope s_is_between) := ⟨rfl, rfl, rfl, by decide +kernel, rfl, by decide +kernel, by decide +kernel⟩
theorem kb_is_between (T : Tx K mg Ar) : KB K Ar.d_is_between ["value", "least", "most"] 3 [] (List.range 3) := kb_of T.h_is_between fun _ _ _ _ _ _ us ws h1 h2 => match us, ws, h1, h2 with
  | [_, _, _], [], _, _ => rfl
set_option maxHeartbeats 4000000 in
theorem ok_is_between (T : Tx K mg Ar) : FnG P w K mg base CX0 1 Ar.a_is_between Ar.d_is_between ["value", "least", "most"] (spD (K := K) F_is_between) :=
  fnD (n := 3) (N := N_is_between) (own := []) (g := g_is_between) T.h_is_between sc_is_between rfl (by decide) (by decide) fun cdv A outer s H E hr gd G H0 xq =>
    (sd_one (sd_ret (pd_and (qd_callB cc_isi PyProof.Rows.boot_isinstance (by rfl) T.n_isinstance (pda_cons (pd_v 0 (pv 0)) (pda_cons (pd_ty (by rfl) T.n_int PyProof.Rows.boot_int) pda_nil))) (pd_and (pd_not (qd_callB cc_isi PyProof.Rows.boot_isinstance (by rfl) T.n_isinstance (pda_cons (pd_v 0 (pv 0)) (pda_cons (pd_ty (by rfl) T.n_bool PyProof.Rows.boot_bool) pda_nil)))) (pd_one (qd_chain (oo_le hr) (oo_le hr) (pd_v 1 (pv 1)) (pd_v 0 (pv 0)) (pd_v 2 (pv 2))))))))
theorem sc_is_walls : FnScope N_is_walls ["value"] (defScope s_is_walls) := ⟨rfl, rfl, rfl, by decide +kernel, rfl, by decide +kernel, by decide +kernel⟩
theorem kb_is_walls (T : Tx K mg Ar) : KB K Ar.d_is_walls ["value"] 1 [] (List.range 1) := kb_of T.h_is_walls fun _ _ _ _ _ _ us ws h1 h2 => match us, ws, h1, h2 with
  | [_], [], _, _ => rfl
set_option maxHeartbeats 4000000 in
theorem ok_is_walls (T : Tx K mg Ar) : FnG P w K mg base CX0 2 Ar.a_is_walls Ar.d_is_walls ["value"] (spD (K := K) F_is_walls) :=
  fnD (n := 1) (N := N_is_walls) (own := [1]) (g := g_is_walls) T.h_is_walls sc_is_walls rfl (by decide) (by decide) fun cdv A outer s H E hr gd G H0 xq =>
    (sd_cons (sd_if ((pw_o (pt_n (pt_v (qd_callB cc_isi PyProof.Rows.boot_isinstance (by rfl) T.n_isinstance (pda_cons (pd_v 0 (pv 0)) (pda_cons (pd_ty (by rfl) T.n_tuple PyProof.Rows.boot_tuple) pda_nil))))) (pw_o1 (qt_c (oo_ne hr) (qd_callB cc_len PySem.boot_len (by rfl) T.n_len (pda_cons (pd_v 0 (pv 0)) pda_nil)) pd_int (nomark _))))).pt (sd_one (sd_ret pd_bl)) sd_nil)
      (sd_one (sd_ret (pd_and (qd_callB (cc_all rfl) PyProof.Rows.boot_all (by rfl) T.n_all (pda_cons (pd_new (pn_lc (own := [("place", 1)]) rfl sc_is_walls.nd (id_seq (pd_v 0 (pv 0))) (blkOk_by (N := N_is_walls) (sc := defScope s_is_walls) (by decide +kernel)) (fun _ _ _ _ _ => (gd_name (i := 1) sc_is_walls.nd rfl (Or.inl rfl))) (fun _ _ _ _ _ => pts0) (fun _ _ _ _ _ => (pd_new (pn_call (ok_is_between T) (bodyD_len _ _ _) (hr.mono (by decide)) gd (by rfl) T.m_is_between T.h_is_between.kp (kb_is_between T) (pda_cons (pd_v 1 (pv 1)) (pda_cons (pd_neg (pd_c (pe_glob (v := V.int 1000000000) (by rfl) T.c_MOST_PLACE.choose_spec ⟨_, rfl⟩) (fun _ => .int _))) (pda_cons (pd_c (pe_glob (v := V.int 1000000000) (by rfl) T.c_MOST_PLACE.choose_spec ⟨_, rfl⟩) (fun _ => .int _)) pda_nil)))))) (by decide))) pda_nil)) (pd_one (qd_cmp (oo_le hr) (qd_ix (pd_v 0 (pv 0)) pd_int (fun _ _ => rfl)) (qd_ix (pd_v 0 (pv 0)) pd_int (fun _ _ => rfl)) (nomark _)))))))
theorem sc_is_coupling : FnScope N_is_coupling ["value", "many"] (defScope s_is_coupling) := ⟨rfl, rfl, rfl, by decide +kernel, rfl, by decide +kernel, by decide +kernel⟩
theorem kb_is_coupling (T : Tx K mg Ar) : KB K Ar.d_is_coupling ["value", "many"] 2 [] (List.range 2) := kb_of T.h_is_coupling fun _ _ _ _ _ _ us ws h1 h2 => match us, ws, h1, h2 with
  | [_, _], [], _, _ => rfl
set_option maxHeartbeats 4000000 in
theorem ok_is_coupling (T : Tx K mg Ar) : FnG P w K mg base CX0 2 Ar.a_is_coupling Ar.d_is_coupling ["value", "many"] (spD (K := K) F_is_coupling) :=
  fnD (n := 2) (N := N_is_coupling) (own := [2, 3, 4, 5]) (g := g_is_coupling) T.h_is_coupling sc_is_coupling rfl (by decide) (by decide) fun cdv A outer s H E hr gd G H0 xq =>
    (sd_cons (sd_if ((pw_o (pt_n (pt_v (qd_callB cc_isi PyProof.Rows.boot_isinstance (by rfl) T.n_isinstance (pda_cons (pd_v 0 (pv 0)) (pda_cons (pd_ty (by rfl) T.n_tuple PyProof.Rows.boot_tuple) pda_nil))))) (pw_o1 (qt_c (oo_ne hr) (qd_callB cc_len PySem.boot_len (by rfl) T.n_len (pda_cons (pd_v 0 (pv 0)) pda_nil)) pd_int (nomark _))))).pt (sd_one (sd_ret pd_bl)) sd_nil)
      (sd_cons (sd_asg (pd_v 0 (pv 0)) (gd_tup rfl (gds_cons (gd_name (i := 2) sc_is_coupling.nd rfl (Or.inl rfl)) (gds_cons (gd_name (i := 3) sc_is_coupling.nd rfl (Or.inl rfl)) (gds_cons (gd_name (i := 4) sc_is_coupling.nd rfl (Or.inl rfl)) (gds_cons (gd_name (i := 5) sc_is_coupling.nd rfl (Or.inl rfl)) gds_nil))))))
      (sd_cons (sd_if ((pw_o (pt_n (pt_v (pd_new (pn_call (ok_is_between T) (bodyD_len _ _ _) (hr.mono (by decide)) gd (by rfl) T.m_is_between T.h_is_between.kp (kb_is_between T) (pda_cons (pd_v 2 (pv 2)) (pda_cons pd_int (pda_cons (qd_op oo_sub (pd_v 1 (pv 1)) pd_int) pda_nil))))))) (pw_o (pt_n (pt_v (pd_new (pn_call (ok_is_between T) (bodyD_len _ _ _) (hr.mono (by decide)) gd (by rfl) T.m_is_between T.h_is_between.kp (kb_is_between T) (pda_cons (pd_v 3 (pv 3)) (pda_cons pd_int (pda_cons (qd_op oo_sub (pd_v 1 (pv 1)) pd_int) pda_nil))))))) (pw_o1 (qt_c oo_ge (pd_v 2 (pv 2)) (pd_v 3 (pv 3)) (nomark _)))))).pt (sd_one (sd_ret pd_bl)) sd_nil)
      (sd_cons (sd_if (pt_n (pt_v (pd_new (pn_call (ok_is_between T) (bodyD_len _ _ _) (hr.mono (by decide)) gd (by rfl) T.m_is_between T.h_is_between.kp (kb_is_between T) (pda_cons (pd_v 4 (pv 4)) (pda_cons (pd_neg (pd_c (pe_glob (v := V.int 10000000000) (by rfl) T.c_MOST_DIFFERENCE.choose_spec ⟨_, rfl⟩) (fun _ => .int _))) (pda_cons (pd_c (pe_glob (v := V.int 10000000000) (by rfl) T.c_MOST_DIFFERENCE.choose_spec ⟨_, rfl⟩) (fun _ => .int _)) pda_nil))))))) (sd_one (sd_ret pd_bl)) sd_nil)
      (sd_one (sd_ret (pd_and (pd_new (pn_call (ok_is_between T) (bodyD_len _ _ _) (hr.mono (by decide)) gd (by rfl) T.m_is_between T.h_is_between.kp (kb_is_between T) (pda_cons (pd_v 5 (pv 5)) (pda_cons (pd_neg (pd_c (pe_glob (v := V.int 10000000000) (by rfl) T.c_MOST_DIFFERENCE.choose_spec ⟨_, rfl⟩) (fun _ => .int _))) (pda_cons (pd_c (pe_glob (v := V.int 10000000000) (by rfl) T.c_MOST_DIFFERENCE.choose_spec ⟨_, rfl⟩) (fun _ => .int _)) pda_nil))))) (pd_one (qd_cmp oo_lt (pd_v 4 (pv 4)) (pd_v 5 (pv 5)) (nomark _))))))))))
theorem sc_couplings_problem : FnScope N_couplings_problem ["couplings", "many"] (defScope s_couplings_problem) := ⟨rfl, rfl, rfl, by decide +kernel, rfl, by decide +kernel, by decide +kernel⟩
theorem kb_couplings_problem (T : Tx K mg Ar) : KB K Ar.d_couplings_problem ["couplings", "many"] 2 [] (List.range 2) := kb_of T.h_couplings_problem fun _ _ _ _ _ _ us ws h1 h2 => match us, ws, h1, h2 with
  | [_, _], [], _, _ => rfl
set_option maxHeartbeats 4000000 in
theorem ok_couplings_problem (T : Tx K mg Ar) : FnG P w K mg base CX0 3 Ar.a_couplings_problem Ar.d_couplings_problem ["couplings", "many"] (spD (K := K) F_couplings_problem) :=
  fnD (n := 2) (N := N_couplings_problem) (own := [2, 3, 4, 5, 6, 7, 8]) (g := g_couplings_problem) T.h_couplings_problem sc_couplings_problem rfl (by decide) (by decide) fun cdv A outer s H E hr gd G H0 xq =>
    (sd_cons (sd_par (i := 2) (j := 3) rfl sc_couplings_problem.nd rfl rfl (by decide) rfl rfl (pn_listRng rfl (by rfl) T.n_list (by rfl) T.n_range (pd_v 1 (pv 1))) (pn_imm (pd_tup (pda_cons (pd_neg pd_int) (pda_cons (pd_neg pd_int) pda_nil)))) rfl)
      (sd_cons (sd_for PassesOwn.never rfl (id_en (by rfl) T.n_enumerate (pda_cons (pd_v 0 (pv 0)) pda_nil)) (gd_tup rfl (gds_cons (gd_name (i := 4) sc_couplings_problem.nd rfl (Or.inl rfl)) (gds_cons (gd_name (i := 5) sc_couplings_problem.nd rfl (Or.inl rfl)) gds_nil))) (sd_cons (sd_if ((pw_o (pt_n (pt_v (pd_new (pn_call (ok_is_coupling T) (bodyD_len _ _ _) (hr.mono (by decide)) gd (by rfl) T.m_is_coupling T.h_is_coupling.kp (kb_is_coupling T) (pda_cons (pd_v 5 (pv 5)) (pda_cons (pd_v 1 (pv 1)) pda_nil)))))) (pw_o1 (qt_c (oo_le hr) (pn_sl (pd_v 5 (pv 5)) pt_no (pt_so pd_int)) (pd_v 3 (pv 3)) (nomark _))))).pt (sd_one (sd_ret (pd_v 4 (pv 4)))) sd_nil)
      (sd_cons (sd_set (i := 3) sc_couplings_problem.nd rfl (Or.inl rfl) (pn_sl (pd_v 5 (pv 5)) pt_no (pt_so pd_int)))
      (sd_cons (sd_parT (i := 6) (j := 7) rfl sc_couplings_problem.nd rfl rfl (Or.inr rfl) (Or.inr rfl) (pn_imm (qd_ix (pd_v 2 (pv 2)) (qd_ix (pd_v 3 (pv 3)) pd_int (fun _ _ => rfl)) (fun _ _ => rfl))) (pn_imm (qd_ix (pd_v 2 (pv 2)) (qd_ix (pd_v 3 (pv 3)) pd_int (fun _ _ => rfl)) (fun _ _ => rfl))) rfl)
      (sd_cons (sd_if (qt_c (oo_eq hr) (pd_v 6 (pv 6)) (pd_v 7 (pv 7)) (nomark _)) (sd_one (sd_ret (pd_v 4 (pv 4)))) sd_nil)
      (sd_one (sd_setLc (i := 2) (own := [("label", 8)]) rfl sc_couplings_problem.nd rfl rfl (sw_true rfl rfl rfl (by decide +kernel)) (id_seq (pd_v 2 (pv 2))) (blkOk_by (N := N_couplings_problem) (sc := defScope s_couplings_problem) (by decide +kernel)) (fun _ _ _ _ _ => (gd_name (i := 8) sc_couplings_problem.nd rfl (Or.inl rfl))) (fun _ _ _ _ _ => pts0) (fun _ _ _ _ _ => (pd_if (qt_c (oo_eq hr) (pd_v 8 (pv 8)) (pd_v 7 (pv 7)) (nomark _)) (pd_v 6 (pv 6)) (pd_v 8 (pv 8)))) (by decide))))))) (by decide))
      (sd_one (sd_ret pd_non))))
theorem sc_yard_problem : FnScope N_yard_problem ["value"] (defScope s_yard_problem) := ⟨rfl, rfl, rfl, by decide +kernel, rfl, by decide +kernel, by decide +kernel⟩
theorem kb_yard_problem (T : Tx K mg Ar) : KB K Ar.d_yard_problem ["value"] 1 [] (List.range 1) := kb_of T.h_yard_problem fun _ _ _ _ _ _ us ws h1 h2 => match us, ws, h1, h2 with
  | [_], [], _, _ => rfl
set_option maxHeartbeats 4000000 in
theorem ok_yard_problem (T : Tx K mg Ar) : FnG P w K mg base CX0 4 Ar.a_yard_problem Ar.d_yard_problem ["value"] (spD (K := K) F_yard_problem) :=
  fnD (n := 1) (N := N_yard_problem) (own := [1, 2, 3, 4]) (g := g_yard_problem) T.h_yard_problem sc_yard_problem rfl (by decide) (by decide) fun cdv A outer s H E hr gd G H0 xq =>
    (sd_cons (sd_if ((pw_o (pt_n (pt_v (qd_callB cc_isi PyProof.Rows.boot_isinstance (by rfl) T.n_isinstance (pda_cons (pd_v 0 (pv 0)) (pda_cons (pd_ty (by rfl) T.n_tuple PyProof.Rows.boot_tuple) pda_nil))))) (pw_o1 (qt_c (oo_ne hr) (qd_callB cc_len PySem.boot_len (by rfl) T.n_len (pda_cons (pd_v 0 (pv 0)) pda_nil)) pd_int (nomark _))))).pt (sd_one (sd_ret (pd_tup (pda_cons pd_str (pda_cons pd_non pda_nil))))) sd_nil)
      (sd_cons (sd_asg (pd_v 0 (pv 0)) (gd_tup rfl (gds_cons (gd_name (i := 1) sc_yard_problem.nd rfl (Or.inl rfl)) (gds_cons (gd_name (i := 2) sc_yard_problem.nd rfl (Or.inl rfl)) gds_nil))))
      (sd_cons (sd_if ((pw_o (pt_n (pt_v (qd_callB cc_isi PyProof.Rows.boot_isinstance (by rfl) T.n_isinstance (pda_cons (pd_v 1 (pv 1)) (pda_cons (pd_ty (by rfl) T.n_tuple PyProof.Rows.boot_tuple) pda_nil))))) (pw_o1 (pt_n (qt_ch (oo_le hr) (oo_le hr) pd_int (qd_callB cc_len PySem.boot_len (by rfl) T.n_len (pda_cons (pd_v 1 (pv 1)) pda_nil)) (pd_c (pe_glob (v := V.int 40) (by rfl) T.c_MOST_WAGONS.choose_spec ⟨_, rfl⟩) (fun _ => .int _))))))).pt (sd_one (sd_ret (pd_tup (pda_cons pd_str (pda_cons pd_non pda_nil))))) sd_nil)
      (sd_cons (sd_for PassesOwn.never rfl (id_en (by rfl) T.n_enumerate (pda_cons (pd_v 1 (pv 1)) pda_nil)) (gd_tup rfl (gds_cons (gd_name (i := 3) sc_yard_problem.nd rfl (Or.inl rfl)) (gds_cons (gd_name (i := 4) sc_yard_problem.nd rfl (Or.inl rfl)) gds_nil))) (sd_one (sd_if (pt_n (pt_v (pd_new (pn_call (ok_is_walls T) (bodyD_len _ _ _) (hr.mono (by decide)) gd (by rfl) T.m_is_walls T.h_is_walls.kp (kb_is_walls T) (pda_cons (pd_v 4 (pv 4)) pda_nil))))) (sd_one (sd_ret (pd_tup (pda_cons pd_str (pda_cons (pd_v 3 (pv 3)) pda_nil))))) sd_nil)) (by decide))
      (sd_cons (sd_if (pt_n (pt_v (qd_callB cc_isi PyProof.Rows.boot_isinstance (by rfl) T.n_isinstance (pda_cons (pd_v 2 (pv 2)) (pda_cons (pd_ty (by rfl) T.n_tuple PyProof.Rows.boot_tuple) pda_nil))))) (sd_one (sd_ret (pd_tup (pda_cons pd_str (pda_cons pd_non pda_nil))))) sd_nil)
      (sd_cons (sd_setN (i := 3) sc_yard_problem.nd rfl (Or.inl rfl) (pn_call (ok_couplings_problem T) (bodyD_len _ _ _) (hr.mono (by decide)) gd (by rfl) T.m_couplings_problem T.h_couplings_problem.kp (kb_couplings_problem T) (pda_cons (pd_v 2 (pv 2)) (pda_cons (qd_callB cc_len PySem.boot_len (by rfl) T.n_len (pda_cons (pd_v 1 (pv 1)) pda_nil)) pda_nil))))
      (sd_one (sd_ret (pd_if (qt_c oo_is (pd_v 3 (pv 3)) pd_non (nomark _)) pd_non (pd_tup (pda_cons pd_str (pda_cons (pd_v 3 (pv 3)) pda_nil))))))))))))
theorem sc_validate_yard : FnScope N_validate_yard ["yard"] (defScope s_validate_yard) := ⟨rfl, rfl, rfl, by decide +kernel, rfl, by decide +kernel, by decide +kernel⟩
theorem kb_validate_yard (T : Tx K mg Ar) : KB K Ar.d_validate_yard ["yard"] 1 [] (List.range 1) := kb_of T.h_validate_yard fun _ _ _ _ _ _ us ws h1 h2 => match us, ws, h1, h2 with
  | [_], [], _, _ => rfl
set_option maxHeartbeats 4000000 in
theorem ok_validate_yard (T : Tx K mg Ar) : FnG P w K mg base CX0 5 Ar.a_validate_yard Ar.d_validate_yard ["yard"] (spD (K := K) F_validate_yard) :=
  fnD (n := 1) (N := N_validate_yard) (own := [1]) (g := g_validate_yard) T.h_validate_yard sc_validate_yard rfl (by decide) (by decide) fun cdv A outer s H E hr gd G H0 xq =>
    (sd_cons (sd_setN (i := 1) sc_validate_yard.nd rfl (Or.inl rfl) (pn_call (ok_yard_problem T) (bodyD_len _ _ _) (hr.mono (by decide)) gd (by rfl) T.m_yard_problem T.h_yard_problem.kp (kb_yard_problem T) (pda_cons (pd_v 0 (pv 0)) pda_nil)))
      (sd_one (sd_if (qt_c oo_isn (pd_v 1 (pv 1)) pd_non (nomark _)) (sd_one sd_never) sd_nil)))
theorem sc_arrangement_problem : FnScope N_arrangement_problem ["yard", "value"] (defScope s_arrangement_problem) := ⟨rfl, rfl, rfl, by decide +kernel, rfl, by decide +kernel, by decide +kernel⟩
theorem kb_arrangement_problem (T : Tx K mg Ar) : KB K Ar.d_arrangement_problem ["yard", "value"] 2 [] (List.range 2) := kb_of T.h_arrangement_problem fun _ _ _ _ _ _ us ws h1 h2 => match us, ws, h1, h2 with
  | [_, _], [], _, _ => rfl
set_option maxHeartbeats 4000000 in
theorem ok_arrangement_problem (T : Tx K mg Ar) : FnG P w K mg base CX0 2 Ar.a_arrangement_problem Ar.d_arrangement_problem ["yard", "value"] (spD (K := K) F_arrangement_problem) :=
  fnD (n := 2) (N := N_arrangement_problem) (own := [2, 3, 4, 5, 6, 7, 8, 9]) (g := g_arrangement_problem) T.h_arrangement_problem sc_arrangement_problem rfl (by decide) (by decide) fun cdv A outer s H E hr gd G H0 xq =>
    (sd_cons (sd_if ((pw_o (pt_n (pt_v (qd_callB cc_isi PyProof.Rows.boot_isinstance (by rfl) T.n_isinstance (pda_cons (pd_v 1 (pv 1)) (pda_cons (pd_ty (by rfl) T.n_tuple PyProof.Rows.boot_tuple) pda_nil))))) (pw_o1 (qt_c (oo_ne hr) (qd_callB cc_len PySem.boot_len (by rfl) T.n_len (pda_cons (pd_v 1 (pv 1)) pda_nil)) (qd_callB cc_len PySem.boot_len (by rfl) T.n_len (pda_cons (qd_ix (pd_v 0 (pv 0)) pd_int (fun _ _ => rfl)) pda_nil)) (nomark _))))).pt (sd_one (sd_ret (pd_tup (pda_cons pd_str (pda_cons pd_non pda_nil))))) sd_nil)
      (sd_cons (sd_for PassesOwn.never rfl (id_en (by rfl) T.n_enumerate (pda_cons (qd_ix (pd_v 0 (pv 0)) pd_int (fun _ _ => rfl)) pda_nil)) (gd_tup rfl (gds_cons (gd_name (i := 2) sc_arrangement_problem.nd rfl (Or.inl rfl)) (gds_cons (gd_tup rfl (gds_cons (gd_name (i := 3) sc_arrangement_problem.nd rfl (Or.inl rfl)) (gds_cons (gd_name (i := 4) sc_arrangement_problem.nd rfl (Or.inl rfl)) gds_nil))) gds_nil))) (sd_one (sd_if (pt_n (pt_v (pd_new (pn_call (ok_is_between T) (bodyD_len _ _ _) (hr.mono (by decide)) gd (by rfl) T.m_is_between T.h_is_between.kp (kb_is_between T) (pda_cons (qd_ix (pd_v 1 (pv 1)) (pd_v 2 (pv 2)) (fun _ _ => rfl)) (pda_cons (pd_v 3 (pv 3)) (pda_cons (pd_v 4 (pv 4)) pda_nil))))))) (sd_one (sd_ret (pd_tup (pda_cons pd_str (pda_cons (pd_v 2 (pv 2)) pda_nil))))) sd_nil)) (by decide))
      (sd_cons (sd_for PassesOwn.never rfl (id_en (by rfl) T.n_enumerate (pda_cons (qd_ix (pd_v 0 (pv 0)) pd_int (fun _ _ => rfl)) pda_nil)) (gd_tup rfl (gds_cons (gd_name (i := 5) sc_arrangement_problem.nd rfl (Or.inl rfl)) (gds_cons (gd_tup rfl (gds_cons (gd_name (i := 6) sc_arrangement_problem.nd rfl (Or.inl rfl)) (gds_cons (gd_name (i := 7) sc_arrangement_problem.nd rfl (Or.inl rfl)) (gds_cons (gd_name (i := 8) sc_arrangement_problem.nd rfl (Or.inl rfl)) (gds_cons (gd_name (i := 9) sc_arrangement_problem.nd rfl (Or.inl rfl)) gds_nil))))) gds_nil))) (sd_one (sd_if (pt_n (qt_ch (oo_le hr) (oo_le hr) (pd_v 8 (pv 8)) (qd_op oo_sub (qd_ix (pd_v 1 (pv 1)) (pd_v 7 (pv 7)) (fun _ _ => rfl)) (qd_ix (pd_v 1 (pv 1)) (pd_v 6 (pv 6)) (fun _ _ => rfl))) (pd_v 9 (pv 9)))) (sd_one (sd_ret (pd_tup (pda_cons pd_str (pda_cons (pd_v 5 (pv 5)) pda_nil))))) sd_nil)) (by decide))
      (sd_one (sd_ret pd_non)))))
theorem sc_need_arrangement : FnScope N_need_arrangement ["yard", "arrangement"] (defScope s_need_arrangement) := ⟨rfl, rfl, rfl, by decide +kernel, rfl, by decide +kernel, by decide +kernel⟩
theorem kb_need_arrangement (T : Tx K mg Ar) : KB K Ar.d_need_arrangement ["yard", "arrangement"] 2 [] (List.range 2) := kb_of T.h_need_arrangement fun _ _ _ _ _ _ us ws h1 h2 => match us, ws, h1, h2 with
  | [_, _], [], _, _ => rfl
set_option maxHeartbeats 4000000 in
theorem ok_need_arrangement (T : Tx K mg Ar) : FnG P w K mg base CX0 3 Ar.a_need_arrangement Ar.d_need_arrangement ["yard", "arrangement"] (spD (K := K) F_need_arrangement) :=
  fnD (n := 2) (N := N_need_arrangement) (own := [2]) (g := g_need_arrangement) T.h_need_arrangement sc_need_arrangement rfl (by decide) (by decide) fun cdv A outer s H E hr gd G H0 xq =>
    (sd_cons (sd_setN (i := 2) sc_need_arrangement.nd rfl (Or.inl rfl) (pn_call (ok_arrangement_problem T) (bodyD_len _ _ _) (hr.mono (by decide)) gd (by rfl) T.m_arrangement_problem T.h_arrangement_problem.kp (kb_arrangement_problem T) (pda_cons (pd_v 0 (pv 0)) (pda_cons (pd_v 1 (pv 1)) pda_nil))))
      (sd_one (sd_if (qt_c oo_isn (pd_v 2 (pv 2)) pd_non (nomark _)) (sd_one sd_never) sd_nil)))
theorem sc_validate_arrangement : FnScope N_validate_arrangement ["yard", "arrangement"] (defScope s_validate_arrangement) := ⟨rfl, rfl, rfl, by decide +kernel, rfl, by decide +kernel, by decide +kernel⟩
theorem kb_validate_arrangement (T : Tx K mg Ar) : KB K Ar.d_validate_arrangement ["yard", "arrangement"] 2 [] (List.range 2) := kb_of T.h_validate_arrangement fun _ _ _ _ _ _ us ws h1 h2 => match us, ws, h1, h2 with
  | [_, _], [], _, _ => rfl
set_option maxHeartbeats 4000000 in
theorem ok_validate_arrangement (T : Tx K mg Ar) : FnG P w K mg base CX0 6 Ar.a_validate_arrangement Ar.d_validate_arrangement ["yard", "arrangement"] (spD (K := K) F_validate_arrangement) :=
  fnD (n := 2) (N := N_validate_arrangement) (own := []) (g := g_validate_arrangement) T.h_validate_arrangement sc_validate_arrangement rfl (by decide) (by decide) fun cdv A outer s H E hr gd G H0 xq =>
    (sd_cons (sd_expr (pd_new (pn_call (ok_validate_yard T) (bodyD_len _ _ _) (hr.mono (by decide)) gd (by rfl) T.m_validate_yard T.h_validate_yard.kp (kb_validate_yard T) (pda_cons (pd_v 0 (pv 0)) pda_nil))))
      (sd_one (sd_expr (pd_new (pn_call (ok_need_arrangement T) (bodyD_len _ _ _) (hr.mono (by decide)) gd (by rfl) T.m_need_arrangement T.h_need_arrangement.kp (kb_need_arrangement T) (pda_cons (pd_v 0 (pv 0)) (pda_cons (pd_v 1 (pv 1)) pda_nil)))))))
theorem sc_is_step : FnScope N_is_step ["yard", "value"] (defScope s_is_step) := ⟨rfl, rfl, rfl, by decide +kernel, rfl, by decide +kernel, by decide +kernel⟩
theorem kb_is_step (T : Tx K mg Ar) : KB K Ar.d_is_step ["yard", "value"] 2 [] (List.range 2) := kb_of T.h_is_step fun _ _ _ _ _ _ us ws h1 h2 => match us, ws, h1, h2 with
  | [_, _], [], _, _ => rfl
set_option maxHeartbeats 4000000 in
theorem ok_is_step (T : Tx K mg Ar) : FnG P w K mg base CX0 2 Ar.a_is_step Ar.d_is_step ["yard", "value"] (spD (K := K) F_is_step) :=
  fnD (n := 2) (N := N_is_step) (own := []) (g := g_is_step) T.h_is_step sc_is_step rfl (by decide) (by decide) fun cdv A outer s H E hr gd G H0 xq =>
    (sd_cons (sd_if ((pw_o (pt_n (pt_v (qd_callB cc_isi PyProof.Rows.boot_isinstance (by rfl) T.n_isinstance (pda_cons (pd_v 1 (pv 1)) (pda_cons (pd_ty (by rfl) T.n_tuple PyProof.Rows.boot_tuple) pda_nil))))) (pw_o1 (qt_c (oo_ne hr) (qd_callB cc_len PySem.boot_len (by rfl) T.n_len (pda_cons (pd_v 1 (pv 1)) pda_nil)) pd_int (nomark _))))).pt (sd_one (sd_ret pd_bl)) sd_nil)
      (sd_one (sd_ret (pd_and (pd_new (pn_call (ok_is_between T) (bodyD_len _ _ _) (hr.mono (by decide)) gd (by rfl) T.m_is_between T.h_is_between.kp (kb_is_between T) (pda_cons (qd_ix (pd_v 1 (pv 1)) pd_int (fun _ _ => rfl)) (pda_cons pd_int (pda_cons (qd_op oo_sub (qd_callB cc_len PySem.boot_len (by rfl) T.n_len (pda_cons (qd_ix (pd_v 0 (pv 0)) pd_int (fun _ _ => rfl)) pda_nil)) pd_int) pda_nil))))) (pd_and (pd_new (pn_call (ok_is_between T) (bodyD_len _ _ _) (hr.mono (by decide)) gd (by rfl) T.m_is_between T.h_is_between.kp (kb_is_between T) (pda_cons (qd_ix (pd_v 1 (pv 1)) pd_int (fun _ _ => rfl)) (pda_cons (pd_neg pd_int) (pda_cons pd_int pda_nil))))) (pd_one (qd_cmp (oo_ne hr) (qd_ix (pd_v 1 (pv 1)) pd_int (fun _ _ => rfl)) pd_int (nomark _))))))))
theorem sc_validate_step : FnScope N_validate_step ["yard", "step"] (defScope s_validate_step) := ⟨rfl, rfl, rfl, by decide +kernel, rfl, by decide +kernel, by decide +kernel⟩
theorem kb_validate_step (T : Tx K mg Ar) : KB K Ar.d_validate_step ["yard", "step"] 2 [] (List.range 2) := kb_of T.h_validate_step fun _ _ _ _ _ _ us ws h1 h2 => match us, ws, h1, h2 with
  | [_, _], [], _, _ => rfl
set_option maxHeartbeats 4000000 in
theorem ok_validate_step (T : Tx K mg Ar) : FnG P w K mg base CX0 3 Ar.a_validate_step Ar.d_validate_step ["yard", "step"] (spD (K := K) F_validate_step) :=
  fnD (n := 2) (N := N_validate_step) (own := []) (g := g_validate_step) T.h_validate_step sc_validate_step rfl (by decide) (by decide) fun cdv A outer s H E hr gd G H0 xq =>
    (sd_one (sd_if (pt_n (pt_v (pd_new (pn_call (ok_is_step T) (bodyD_len _ _ _) (hr.mono (by decide)) gd (by rfl) T.m_is_step T.h_is_step.kp (kb_is_step T) (pda_cons (pd_v 0 (pv 0)) (pda_cons (pd_v 1 (pv 1)) pda_nil)))))) (sd_one sd_never) sd_nil))
theorem sc_holder_of : FnScope N_holder_of ["links", "places", "wagon", "sign"] (defScope s_holder_of) := ⟨rfl, rfl, rfl, by decide +kernel, rfl, by decide +kernel, by decide +kernel⟩
theorem kb_holder_of (T : Tx K mg Ar) : KB K Ar.d_holder_of ["links", "places", "wagon", "sign"] 4 [] (List.range 4) := kb_of T.h_holder_of fun _ _ _ _ _ _ us ws h1 h2 => match us, ws, h1, h2 with
  | [_, _, _, _], [], _, _ => rfl
set_option maxHeartbeats 4000000 in
theorem ok_holder_of (T : Tx K mg Ar) : FnG P w K mg base CX0 1 Ar.a_holder_of Ar.d_holder_of ["links", "places", "wagon", "sign"] (spD (K := K) F_holder_of) :=
  fnD (n := 4) (N := N_holder_of) (own := [4, 5, 6]) (g := g_holder_of) T.h_holder_of sc_holder_of rfl (by decide) (by decide) fun cdv A outer s H E hr gd G H0 xq =>
    (sd_cons (sd_for PassesOwn.never rfl (id_seq (qd_ix (pd_v 0 (pv 0)) (pd_v 2 (pv 2)) (fun _ _ => rfl))) (gd_tup rfl (gds_cons (gd_name (i := 4) sc_holder_of.nd rfl (Or.inl rfl)) (gds_cons (gd_name (i := 5) sc_holder_of.nd rfl (Or.inl rfl)) (gds_cons (gd_name (i := 6) sc_holder_of.nd rfl (Or.inl rfl)) gds_nil)))) (sd_one (sd_if (pt_n (qt_ch (oo_le hr) (oo_le hr) (pd_v 5 (pv 5)) (qd_op oo_sub (qd_op oo_sub (qd_ix (pd_v 1 (pv 1)) (pd_v 4 (pv 4)) (fun _ _ => rfl)) (qd_ix (pd_v 1 (pv 1)) (pd_v 2 (pv 2)) (fun _ _ => rfl))) (pd_v 3 (pv 3))) (pd_v 6 (pv 6)))) (sd_one (sd_ret (pd_v 4 (pv 4)))) sd_nil)) (by decide))
      (sd_one (sd_ret pd_non)))
theorem sc_is_at_wall : FnScope N_is_at_wall ["yard", "places", "wagon", "sign"] (defScope s_is_at_wall) := ⟨rfl, rfl, rfl, by decide +kernel, rfl, by decide +kernel, by decide +kernel⟩
theorem kb_is_at_wall (T : Tx K mg Ar) : KB K Ar.d_is_at_wall ["yard", "places", "wagon", "sign"] 4 [] (List.range 4) := kb_of T.h_is_at_wall fun _ _ _ _ _ _ us ws h1 h2 => match us, ws, h1, h2 with
  | [_, _, _, _], [], _, _ => rfl
set_option maxHeartbeats 4000000 in
theorem ok_is_at_wall (T : Tx K mg Ar) : FnG P w K mg base CX0 1 Ar.a_is_at_wall Ar.d_is_at_wall ["yard", "places", "wagon", "sign"] (spD (K := K) F_is_at_wall) :=
  fnD (n := 4) (N := N_is_at_wall) (own := []) (g := g_is_at_wall) T.h_is_at_wall sc_is_at_wall rfl (by decide) (by decide) fun cdv A outer s H E hr gd G H0 xq =>
    (sd_one (sd_ret (qd_cmp (oo_eq hr) (qd_ix (pd_v 1 (pv 1)) (pd_v 2 (pv 2)) (fun _ _ => rfl)) (pd_if (qt_c (oo_eq hr) (pd_v 3 (pv 3)) pd_int (nomark _)) (qd_ix (qd_ix (qd_ix (pd_v 0 (pv 0)) pd_int (fun _ _ => rfl)) (pd_v 2 (pv 2)) (fun _ _ => rfl)) pd_int (fun _ _ => rfl)) (qd_ix (qd_ix (qd_ix (pd_v 0 (pv 0)) pd_int (fun _ _ => rfl)) (pd_v 2 (pv 2)) (fun _ _ => rfl)) pd_int (fun _ _ => rfl))) (nomark _))))
theorem sc_can_step : FnScope N_can_step ["yard", "links", "places", "wagon", "sign"] (defScope s_can_step) := ⟨rfl, rfl, rfl, by decide +kernel, rfl, by decide +kernel, by decide +kernel⟩
theorem kb_can_step (T : Tx K mg Ar) : KB K Ar.d_can_step ["yard", "links", "places", "wagon", "sign"] 5 [] (List.range 5) := kb_of T.h_can_step fun _ _ _ _ _ _ us ws h1 h2 => match us, ws, h1, h2 with
  | [_, _, _, _, _], [], _, _ => rfl
set_option maxHeartbeats 4000000 in
theorem ok_can_step (T : Tx K mg Ar) : FnG P w K mg base CX0 2 Ar.a_can_step Ar.d_can_step ["yard", "links", "places", "wagon", "sign"] (spD (K := K) F_can_step) :=
  fnD (n := 5) (N := N_can_step) (own := []) (g := g_can_step) T.h_can_step sc_can_step rfl (by decide) (by decide) fun cdv A outer s H E hr gd G H0 xq =>
    (sd_one (sd_ret (pd_and (pd_not (pd_new (pn_call (ok_is_at_wall T) (bodyD_len _ _ _) (hr.mono (by decide)) gd (by rfl) T.m_is_at_wall T.h_is_at_wall.kp (kb_is_at_wall T) (pda_cons (pd_v 0 (pv 0)) (pda_cons (pd_v 2 (pv 2)) (pda_cons (pd_v 3 (pv 3)) (pda_cons (pd_v 4 (pv 4)) pda_nil))))))) (pd_one (qd_cmp oo_is (pd_new (pn_call (ok_holder_of T) (bodyD_len _ _ _) (hr.mono (by decide)) gd (by rfl) T.m_holder_of T.h_holder_of.kp (kb_holder_of T) (pda_cons (pd_v 1 (pv 1)) (pda_cons (pd_v 2 (pv 2)) (pda_cons (pd_v 3 (pv 3)) (pda_cons (pd_v 4 (pv 4)) pda_nil)))))) pd_non (nomark _))))))
theorem sc_reason : FnScope N_reason ["yard", "arrangement", "step"] (defScope s_reason) := ⟨rfl, rfl, rfl, by decide +kernel, rfl, by decide +kernel, by decide +kernel⟩
theorem kb_reason_0_step_arrangement_yard (T : Tx K mg Ar) : KB K Ar.d_reason ["yard", "arrangement", "step"] 0 ["step", "arrangement", "yard"] [2, 1, 0] := kb_of T.h_reason fun _ _ _ _ _ _ us ws h1 h2 => match us, ws, h1, h2 with
  | [], [_, _, _], _, _ => rfl
theorem kb_reason (T : Tx K mg Ar) : KB K Ar.d_reason ["yard", "arrangement", "step"] 3 [] (List.range 3) := kb_of T.h_reason fun _ _ _ _ _ _ us ws h1 h2 => match us, ws, h1, h2 with
  | [_, _, _], [], _, _ => rfl
set_option maxHeartbeats 4000000 in
theorem ok_reason (T : Tx K mg Ar) : FnG P w K mg base CX0 7 Ar.a_reason Ar.d_reason ["yard", "arrangement", "step"] (spD (K := K) F_reason) :=
  fnD (n := 3) (N := N_reason) (own := [3, 4, 5, 6]) (g := g_reason) T.h_reason sc_reason rfl (by decide) (by decide) fun cdv A outer s H E hr gd G H0 xq =>
    (sd_cons (sd_expr (pd_new (pn_call (ok_validate_arrangement T) (bodyD_len _ _ _) (hr.mono (by decide)) gd (by rfl) T.m_validate_arrangement T.h_validate_arrangement.kp (kb_validate_arrangement T) (pda_cons (pd_v 0 (pv 0)) (pda_cons (pd_v 1 (pv 1)) pda_nil)))))
      (sd_cons (sd_expr (pd_new (pn_call (ok_validate_step T) (bodyD_len _ _ _) (hr.mono (by decide)) gd (by rfl) T.m_validate_step T.h_validate_step.kp (kb_validate_step T) (pda_cons (pd_v 0 (pv 0)) (pda_cons (pd_v 2 (pv 2)) pda_nil)))))
      (sd_cons (sd_asg (pd_v 2 (pv 2)) (gd_tup rfl (gds_cons (gd_name (i := 3) sc_reason.nd rfl (Or.inl rfl)) (gds_cons (gd_name (i := 4) sc_reason.nd rfl (Or.inl rfl)) gds_nil))))
      (sd_cons (sd_par (i := 5) (j := 6) rfl sc_reason.nd rfl rfl (by decide) rfl rfl (pn_call (ok_own_links T) (bodyD_len _ _ _) (hr.mono (by decide)) gd (by rfl) T.m_own_links T.h_own_links.kp (kb_own_links T) (pda_cons (pd_v 0 (pv 0)) pda_nil)) (pn_lst (pda_cons (pd_v 3 (pv 3)) pda_nil)) rfl)
      (sd_cons (sd_if (pt_v (pd_new (pn_call (ok_can_step T) (bodyD_len _ _ _) (hr.mono (by decide)) gd (by rfl) T.m_can_step T.h_can_step.kp (kb_can_step T) (pda_cons (pd_v 0 (pv 0)) (pda_cons (pd_v 5 (pv 5)) (pda_cons (pd_v 1 (pv 1)) (pda_cons (pd_v 3 (pv 3)) (pda_cons (pd_v 4 (pv 4)) pda_nil)))))))) (sd_one (sd_ret pd_non)) sd_nil)
      (sd_cons (sd_while PassesOwn.never (pt_n (pt_v (pd_new (pn_call (ok_can_step T) (bodyD_len _ _ _) (hr.mono (by decide)) gd (by rfl) T.m_can_step T.h_can_step.kp (kb_can_step T) (pda_cons (pd_v 0 (pv 0)) (pda_cons (pd_v 5 (pv 5)) (pda_cons (pd_v 1 (pv 1)) (pda_cons (qd_ix (pd_v 6 (pv 6)) (pd_neg pd_int) (fun _ _ => rfl)) (pda_cons (pd_v 4 (pv 4)) pda_nil))))))))) (sd_cons (sd_if (pt_v (pd_new (pn_call (ok_is_at_wall T) (bodyD_len _ _ _) (hr.mono (by decide)) gd (by rfl) T.m_is_at_wall T.h_is_at_wall.kp (kb_is_at_wall T) (pda_cons (pd_v 0 (pv 0)) (pda_cons (pd_v 1 (pv 1)) (pda_cons (qd_ix (pd_v 6 (pv 6)) (pd_neg pd_int) (fun _ _ => rfl)) (pda_cons (pd_v 4 (pv 4)) pda_nil))))))) (sd_one (sd_ret (pd_tup (pda_cons (qd_callTy cc_tuple PyProof.Rows.boot_tuple (by rfl) T.n_tuple (pda_cons (pd_v 6 (pv 6)) pda_nil)) (pda_cons pd_str pda_nil))))) sd_nil)
      (sd_one (sd_app 6 (List.Mem.tail _ (List.Mem.tail _ (List.Mem.tail _ (List.Mem.head _)))) (pv 6) (pd_new (pn_call (ok_holder_of T) (bodyD_len _ _ _) (hr.mono (by decide)) gd (by rfl) T.m_holder_of T.h_holder_of.kp (kb_holder_of T) (pda_cons (pd_v 5 (pv 5)) (pda_cons (pd_v 1 (pv 1)) (pda_cons (qd_ix (pd_v 6 (pv 6)) (pd_neg pd_int) (fun _ _ => rfl)) (pda_cons (pd_v 4 (pv 4)) pda_nil))))))))))
      (sd_one (sd_ret (pd_tup (pda_cons (qd_callTy cc_tuple PyProof.Rows.boot_tuple (by rfl) T.n_tuple (pda_cons (pd_v 6 (pv 6)) pda_nil)) (pda_cons pd_str pda_nil)))))))))))
theorem sc__law_far : FnScope N__law_far ["lot", "sign"] (defScope s__law_far) := ⟨rfl, rfl, rfl, by decide +kernel, rfl, by decide +kernel, by decide +kernel⟩
theorem kb__law_far (T : Tx K mg Ar) : KB K Ar.d__law_far ["lot", "sign"] 2 [] (List.range 2) := kb_of T.h__law_far fun _ _ _ _ _ _ us ws h1 h2 => match us, ws, h1, h2 with
  | [_, _], [], _, _ => rfl
set_option maxHeartbeats 4000000 in
theorem ok__law_far (T : Tx K mg Ar) : FnG P w K mg base CX0 1 Ar.a__law_far Ar.d__law_far ["lot", "sign"] (spD (K := K) F__law_far) :=
  fnD (n := 2) (N := N__law_far) (own := [2, 3, 4, 5, 6, 7, 8]) (g := g__law_far) T.h__law_far sc__law_far rfl (by decide) (by decide) fun cdv A outer s H E hr gd G H0 xq =>
    (sd_cons (sd_setLc (i := 2) (own := [("ends_here", 8)]) rfl sc__law_far.nd rfl rfl (sw_true rfl rfl rfl (by decide +kernel)) (id_seq (qd_ix (pd_v 0 (pv 0)) pd_int (fun _ _ => rfl))) (blkOk_by (N := N__law_far) (sc := defScope s__law_far) (by decide +kernel)) (fun _ _ _ _ _ => (gd_name (i := 8) sc__law_far.nd rfl (Or.inl rfl))) (fun _ _ _ _ _ => pts0) (fun _ _ _ _ _ => (qd_ix (pd_v 8 (pv 8)) (pd_if (qt_c oo_gt (pd_v 1 (pv 1)) pd_int (nomark _)) pd_int pd_int) (fun _ _ => rfl))) (by decide))
      (sd_cons (sd_for PassesOwn.never rfl (id_rng1 (by rfl) T.n_range (pda_cons (qd_callB cc_len PySem.boot_len (by rfl) T.n_len (pda_cons (pd_v 2 (pv 2)) pda_nil)) pda_nil)) (gd_name (i := 3) sc__law_far.nd rfl (Or.inl rfl)) (sd_one (sd_for PassesOwn.never rfl (id_seq (qd_ix (pd_v 0 (pv 0)) pd_int (fun _ _ => rfl))) (gd_tup rfl (gds_cons (gd_name (i := 4) sc__law_far.nd rfl (Or.inl rfl)) (gds_cons (gd_name (i := 5) sc__law_far.nd rfl (Or.inl rfl)) (gds_cons (gd_name (i := 6) sc__law_far.nd rfl (Or.inl rfl)) (gds_cons (gd_name (i := 7) sc__law_far.nd rfl (Or.inl rfl)) gds_nil))))) (sd_one (sd_if (qt_c oo_gt (pd_v 1 (pv 1)) pd_int (nomark _)) (sd_cons (sd_put 2 (List.Mem.head _) (pv 2) (pd_v 5 (pv 5)) (qd_callB (cc_min2 rfl) PyProof.Rows.boot_min (by rfl) T.n_min (pda_cons (qd_ix (pd_v 2 (pv 2)) (pd_v 5 (pv 5)) (fun _ _ => rfl)) (pda_cons (qd_op oo_add (qd_ix (pd_v 2 (pv 2)) (pd_v 4 (pv 4)) (fun _ _ => rfl)) (pd_v 7 (pv 7))) pda_nil))))
      (sd_one (sd_put 2 (List.Mem.head _) (pv 2) (pd_v 4 (pv 4)) (qd_callB (cc_min2 rfl) PyProof.Rows.boot_min (by rfl) T.n_min (pda_cons (qd_ix (pd_v 2 (pv 2)) (pd_v 4 (pv 4)) (fun _ _ => rfl)) (pda_cons (qd_op oo_sub (qd_ix (pd_v 2 (pv 2)) (pd_v 5 (pv 5)) (fun _ _ => rfl)) (pd_v 6 (pv 6))) pda_nil)))))) (sd_cons (sd_put 2 (List.Mem.head _) (pv 2) (pd_v 5 (pv 5)) (qd_callB (cc_max2 rfl) PyProof.Rows.boot_max (by rfl) T.n_max (pda_cons (qd_ix (pd_v 2 (pv 2)) (pd_v 5 (pv 5)) (fun _ _ => rfl)) (pda_cons (qd_op oo_add (qd_ix (pd_v 2 (pv 2)) (pd_v 4 (pv 4)) (fun _ _ => rfl)) (pd_v 6 (pv 6))) pda_nil))))
      (sd_one (sd_put 2 (List.Mem.head _) (pv 2) (pd_v 4 (pv 4)) (qd_callB (cc_max2 rfl) PyProof.Rows.boot_max (by rfl) T.n_max (pda_cons (qd_ix (pd_v 2 (pv 2)) (pd_v 4 (pv 4)) (fun _ _ => rfl)) (pda_cons (qd_op oo_sub (qd_ix (pd_v 2 (pv 2)) (pd_v 5 (pv 5)) (fun _ _ => rfl)) (pd_v 7 (pv 7))) pda_nil)))))))) (by decide))) (by decide))
      (sd_one (sd_ret (qd_callTy cc_tuple PyProof.Rows.boot_tuple (by rfl) T.n_tuple (pda_cons (pd_v 2 (pv 2)) pda_nil))))))
theorem sc__law_reason : FnScope N__law_reason ["lot", "spots", "act"] (defScope s__law_reason) := ⟨rfl, rfl, rfl, by decide +kernel, rfl, by decide +kernel, by decide +kernel⟩
theorem kb__law_reason (T : Tx K mg Ar) : KB K Ar.d__law_reason ["lot", "spots", "act"] 3 [] (List.range 3) := kb_of T.h__law_reason fun _ _ _ _ _ _ us ws h1 h2 => match us, ws, h1, h2 with
  | [_, _, _], [], _, _ => rfl
set_option maxHeartbeats 4000000 in
theorem ok__law_reason (T : Tx K mg Ar) : FnG P w K mg base CX0 2 Ar.a__law_reason Ar.d__law_reason ["lot", "spots", "act"] (spD (K := K) F__law_reason) :=
  fnD (n := 3) (N := N__law_reason) (own := [3, 4, 5, 6, 7, 8, 9, 10, 11, 12]) (g := g__law_reason) T.h__law_reason sc__law_reason rfl (by decide) (by decide) fun cdv A outer s H E hr gd G H0 xq =>
    (sd_cons (sd_if (pt_v (pd_new (pn_call (ok__law_holds T) (bodyD_len _ _ _) (hr.mono (by decide)) gd (by rfl) T.m__law_holds T.h__law_holds.kp (kb__law_holds T) (pda_cons (pd_v 0 (pv 0)) (pda_cons (pd_new (pn_call (ok__law_moved T) (bodyD_len _ _ _) (hr.mono (by decide)) gd (by rfl) T.m__law_moved T.h__law_moved.kp (kb__law_moved T) (pda_cons (pd_v 1 (pv 1)) (pda_cons (pd_v 2 (pv 2)) pda_nil)))) pda_nil))))) (sd_one (sd_ret pd_non)) sd_nil)
      (sd_cons (sd_par3 (i := 3) (j := 4) (l := 5) rfl sc__law_reason.nd rfl rfl rfl (by decide) (by decide) (by decide) rfl rfl rfl (pn_lst (pda_cons (qd_ix (pd_v 2 (pv 2)) pd_int (fun _ _ => rfl)) pda_nil)) (pn_imm (qd_ix (pd_v 2 (pv 2)) pd_int (fun _ _ => rfl))) (pn_imm pd_str) rfl)
      (sd_cons (sd_while PassesOwn.never (qt_c (oo_eq hr) (pd_v 5 (pv 5)) pd_str (nomark _)) (sd_cons (sd_set (i := 6) sc__law_reason.nd rfl (Or.inl rfl) (qd_ix (pd_v 3 (pv 3)) (pd_neg pd_int) (fun _ _ => rfl)))
      (sd_cons (sd_setN (i := 7) sc__law_reason.nd rfl (Or.inr rfl) (pn_call (ok__law_moved T) (bodyD_len _ _ _) (hr.mono (by decide)) gd (by rfl) T.m__law_moved T.h__law_moved.kp (kb__law_moved T) (pda_cons (pd_v 1 (pv 1)) (pda_cons (pd_tup (pda_cons (pd_v 6 (pv 6)) (pda_cons (pd_v 4 (pv 4)) pda_nil))) pda_nil))))
      (sd_one (sd_if (qt_c (oo_eq hr) (qd_ix (pd_v 1 (pv 1)) (pd_v 6 (pv 6)) (fun _ _ => rfl)) (qd_ix (qd_ix (qd_ix (pd_v 0 (pv 0)) pd_int (fun _ _ => rfl)) (pd_v 6 (pv 6)) (fun _ _ => rfl)) (pd_if (qt_c oo_gt (pd_v 4 (pv 4)) pd_int (nomark _)) pd_int pd_int) (fun _ _ => rfl)) (nomark _)) (sd_one (sd_set (i := 5) sc__law_reason.nd rfl (Or.inl rfl) pd_str)) (sd_one (sd_if (pt_v (pd_new (pn_call (ok__law_holds T) (bodyD_len _ _ _) (hr.mono (by decide)) gd (by rfl) T.m__law_holds T.h__law_holds.kp (kb__law_holds T) (pda_cons (pd_v 0 (pv 0)) (pda_cons (pd_v 7 (pv 7)) pda_nil))))) (sd_one (sd_set (i := 5) sc__law_reason.nd rfl (Or.inl rfl) pd_str)) (sd_cons (sd_setLc (i := 8) (own := [("i", 9), ("j", 10), ("least", 11), ("top", 12)]) rfl sc__law_reason.nd rfl rfl (sw_true rfl rfl rfl (by decide +kernel)) (id_seq (qd_ix (pd_v 0 (pv 0)) pd_int (fun _ _ => rfl))) (blkOk_by (N := N__law_reason) (sc := defScope s__law_reason) (by decide +kernel)) (fun _ _ _ _ _ => (gd_tup rfl (gds_cons (gd_name (i := 9) sc__law_reason.nd rfl (Or.inl rfl)) (gds_cons (gd_name (i := 10) sc__law_reason.nd rfl (Or.inl rfl)) (gds_cons (gd_name (i := 11) sc__law_reason.nd rfl (Or.inl rfl)) (gds_cons (gd_name (i := 12) sc__law_reason.nd rfl (Or.inl rfl)) gds_nil)))))) (fun _ _ _ _ _ => (pts_one (pt_n (qt_ch (oo_le hr) (oo_le hr) (pd_v 11 (pv 11)) (qd_op oo_sub (qd_ix (pd_v 7 (pv 7)) (pd_v 10 (pv 10)) (fun _ _ => rfl)) (qd_ix (pd_v 7 (pv 7)) (pd_v 9 (pv 9)) (fun _ _ => rfl))) (pd_v 12 (pv 12)))))) (fun _ _ _ _ _ => (pd_tup (pda_cons (pd_v 9 (pv 9)) (pda_cons (pd_v 10 (pv 10)) pda_nil)))) (by decide))
      (sd_one (sd_app 3 (List.Mem.head _) (pv 3) (pd_if (qt_c (oo_eq hr) (qd_ix (qd_ix (pd_v 8 (pv 8)) pd_int (fun _ _ => rfl)) pd_int (fun _ _ => rfl)) (pd_v 6 (pv 6)) (nomark _)) (qd_ix (qd_ix (pd_v 8 (pv 8)) pd_int (fun _ _ => rfl)) pd_int (fun _ _ => rfl)) (qd_ix (qd_ix (pd_v 8 (pv 8)) pd_int (fun _ _ => rfl)) pd_int (fun _ _ => rfl)))))))))))))
      (sd_one (sd_ret (pd_tup (pda_cons (qd_callTy cc_tuple PyProof.Rows.boot_tuple (by rfl) T.n_tuple (pda_cons (pd_v 3 (pv 3)) pda_nil)) (pda_cons (pd_v 5 (pv 5)) pda_nil))))))))
theorem sc__law_right : FnScope N__law_right ["lot", "spots"] (defScope s__law_right) := ⟨rfl, rfl, rfl, by decide +kernel, rfl, by decide +kernel, by decide +kernel⟩
theorem kb__law_right (T : Tx K mg Ar) : KB K Ar.d__law_right ["lot", "spots"] 2 [] (List.range 2) := kb_of T.h__law_right fun _ _ _ _ _ _ us ws h1 h2 => match us, ws, h1, h2 with
  | [_, _], [], _, _ => rfl
set_option maxHeartbeats 4000000 in
theorem ok__law_right (T : Tx K mg Ar) : FnG P w K mg base CX0 8 Ar.a__law_right Ar.d__law_right ["lot", "spots"] (spD (K := K) F__law_right) :=
  fnD (n := 2) (N := N__law_right) (own := [2, 3, 4, 5, 6, 7]) (g := g__law_right) T.h__law_right sc__law_right rfl (by decide) (by decide) fun cdv A outer s H E hr gd G H0 xq =>
    (sd_cons (sd_par (i := 2) (j := 3) rfl sc__law_right.nd rfl rfl (by decide) rfl rfl (pn_imm (qd_callB (cc_repr gd hr) PyProof.Rows.boot_repr (by rfl) T.n_repr (pda_cons (pd_lst (pda_cons (pd_v 0 (pv 0)) (pda_cons (pd_v 1 (pv 1)) pda_nil))) pda_nil))) (pn_dic (ppd_cons (pd_neg pd_int) (pd_new (pn_call (ok__law_far T) (bodyD_len _ _ _) (hr.mono (by decide)) gd (by rfl) T.m__law_far T.h__law_far.kp (kb__law_far T) (pda_cons (pd_v 0 (pv 0)) (pda_cons (pd_neg pd_int) pda_nil)))) (ppd_cons pd_int (pd_new (pn_call (ok__law_far T) (bodyD_len _ _ _) (hr.mono (by decide)) gd (by rfl) T.m__law_far T.h__law_far.kp (kb__law_far T) (pda_cons (pd_v 0 (pv 0)) (pda_cons pd_int pda_nil)))) ppd_nil))) rfl)
      (sd_cons (sd_for PassesOwn.never rfl (id_rng1 (by rfl) T.n_range (pda_cons (qd_callB cc_len PySem.boot_len (by rfl) T.n_len (pda_cons (pd_v 1 (pv 1)) pda_nil)) pda_nil)) (gd_name (i := 4) sc__law_right.nd rfl (Or.inl rfl)) (sd_one (sd_for PassesOwn.never rfl (id_seq (pd_tup (pda_cons (pd_tup (pda_cons (pd_v 4 (pv 4)) (pda_cons (pd_neg pd_int) pda_nil))) (pda_cons (pd_tup (pda_cons (pd_v 4 (pv 4)) (pda_cons pd_int pda_nil))) pda_nil)))) (gd_name (i := 5) sc__law_right.nd rfl (Or.inl rfl)) (sd_cons (sd_setN (i := 6) sc__law_right.nd rfl (Or.inl rfl) (pn_call (ok__law_reason T) (bodyD_len _ _ _) (hr.mono (by decide)) gd (by rfl) T.m__law_reason T.h__law_reason.kp (kb__law_reason T) (pda_cons (pd_v 0 (pv 0)) (pda_cons (pd_v 1 (pv 1)) (pda_cons (pd_v 5 (pv 5)) pda_nil)))))
      (sd_cons (sd_setN (i := 7) sc__law_right.nd rfl (Or.inl rfl) (pn_lst (pda_cons (pd_new (pn_call (ok_reason T) (bodyD_len _ _ _) (hr.mono (by decide)) gd (by rfl) T.m_reason T.h_reason.kp (kb_reason T) (pda_cons (pd_v 0 (pv 0)) (pda_cons (pd_v 1 (pv 1)) (pda_cons (pd_v 5 (pv 5)) pda_nil))))) (pda_cons (pd_new (pn_callK0 (ok_reason T) (hr.mono (by decide)) gd (by rfl) T.m_reason T.h_reason.kp (kb_reason_0_step_arrangement_yard T) (pdk_cons (pd_v 5 (pv 5)) (pdk_cons (pd_v 1 (pv 1)) (pdk_cons (pd_v 0 (pv 0)) pdk_nil))))) pda_nil))))
      (sd_cons (sd_if (qt_c (oo_ne hr) (qd_callB (cc_repr gd hr) PyProof.Rows.boot_repr (by rfl) T.n_repr (pda_cons (pd_v 7 (pv 7)) pda_nil)) (qd_callB (cc_repr gd hr) PyProof.Rows.boot_repr (by rfl) T.n_repr (pda_cons (pd_lst (pda_cons (pd_v 6 (pv 6)) (pda_cons (pd_v 6 (pv 6)) pda_nil))) pda_nil)) (nomark _)) (sd_one (sd_ret pd_bl)) sd_nil)
      (sd_one (sd_if ((pw_a (qt_c oo_isn (pd_v 6 (pv 6)) pd_non (nomark _)) (pw_a (qt_c (oo_eq hr) (qd_ix (pd_v 6 (pv 6)) pd_int (fun _ _ => rfl)) pd_str (nomark _)) (pw_a1 (qt_c (oo_ne hr) (qd_ix (pd_v 1 (pv 1)) (pd_v 4 (pv 4)) (fun _ _ => rfl)) (qd_ix (qd_dix hr (pd_v 3 (pv 3)) (qd_ix (pd_v 5 (pv 5)) pd_int (fun _ _ => rfl)) (fun _ _ => rfl)) (pd_v 4 (pv 4)) (fun _ _ => rfl)) (nomark _)))))).pt (sd_one (sd_ret pd_bl)) sd_nil))))) (by decide))) (by decide))
      (sd_one (sd_ret (qd_cmp (oo_eq hr) (qd_callB (cc_repr gd hr) PyProof.Rows.boot_repr (by rfl) T.n_repr (pda_cons (pd_lst (pda_cons (pd_v 0 (pv 0)) (pda_cons (pd_v 1 (pv 1)) pda_nil))) pda_nil)) (pd_v 2 (pv 2)) (nomark _))))))
theorem sc__law_row_right : FnScope N__law_row_right ["dice"] (defScope s__law_row_right) := ⟨rfl, rfl, rfl, by decide +kernel, rfl, by decide +kernel, by decide +kernel⟩
theorem kb__law_row_right (T : Tx K mg Ar) : KB K Ar.d__law_row_right ["dice"] 1 [] (List.range 1) := kb_of T.h__law_row_right fun _ _ _ _ _ _ us ws h1 h2 => match us, ws, h1, h2 with
  | [_], [], _, _ => rfl
set_option maxHeartbeats 4000000 in
theorem ok__law_row_right (T : Tx K mg Ar) : FnG P w K mg base CX0 8 Ar.a__law_row_right Ar.d__law_row_right ["dice"] (spD (K := K) F__law_row_right) :=
  fnD (n := 1) (N := N__law_row_right) (own := [1, 2, 3, 4, 5, 6, 7]) (g := g__law_row_right) T.h__law_row_right sc__law_row_right rfl (by decide) (by decide) fun cdv A outer s H E hr gd G H0 xq =>
    (sd_cons (sd_parT (i := 1) (j := 2) rfl sc__law_row_right.nd rfl rfl (Or.inr rfl) (Or.inr rfl) (pn_imm (qd_op oo_add pd_int (qd_op oo_mod (pd_new (pn_call (ok__law_next T) (ln__law_next) (hr.mono (by decide)) gd (by rfl) T.m__law_next T.h__law_next.kp (kb__law_next T) (pda_cons (pd_v 0 (pv 0)) pda_nil))) pd_int))) (pn_imm (qd_op oo_mod (pd_new (pn_call (ok__law_next T) (ln__law_next) (hr.mono (by decide)) gd (by rfl) T.m__law_next T.h__law_next.kp (kb__law_next T) (pda_cons (pd_v 0 (pv 0)) pda_nil))) pd_int)) rfl)
      (sd_cons (sd_set (i := 3) sc__law_row_right.nd rfl (Or.inl rfl) (pd_tup (pda_cons (qd_op oo_mul (pd_tup (pda_cons (pd_tup (pda_cons pd_int (pda_cons (qd_op oo_mul pd_int (pd_v 1 (pv 1))) pda_nil))) pda_nil)) (pd_v 1 (pv 1))) (pda_cons (qd_callTy cc_tuple PyProof.Rows.boot_tuple (by rfl) T.n_tuple (pda_cons (pd_new (pn_lc (own := [("v", 7)]) rfl sc__law_row_right.nd (id_rng1 (by rfl) T.n_range (pda_cons (qd_op oo_sub (pd_v 1 (pv 1)) pd_int) pda_nil)) (blkOk_by (N := N__law_row_right) (sc := defScope s__law_row_right) (by decide +kernel)) (fun _ _ _ _ _ => (gd_name (i := 7) sc__law_row_right.nd rfl (Or.inl rfl))) (fun _ _ _ _ _ => pts0) (fun _ _ _ _ _ => (pd_tup (pda_cons (pd_v 7 (pv 7)) (pda_cons (qd_op oo_add (pd_v 7 (pv 7)) pd_int) (pda_cons pd_int (pda_cons pd_int pda_nil)))))) (by decide))) pda_nil)) pda_nil))))
      (sd_cons (sd_set (i := 4) sc__law_row_right.nd rfl (Or.inl rfl) (qd_callTy cc_tuple PyProof.Rows.boot_tuple (by rfl) T.n_tuple (pda_cons (pd_new (pn_lc (own := [("v", 7)]) rfl sc__law_row_right.nd (id_rng1 (by rfl) T.n_range (pda_cons (pd_v 1 (pv 1)) pda_nil)) (blkOk_by (N := N__law_row_right) (sc := defScope s__law_row_right) (by decide +kernel)) (fun _ _ _ _ _ => (gd_name (i := 7) sc__law_row_right.nd rfl (Or.inl rfl))) (fun _ _ _ _ _ => pts0) (fun _ _ _ _ _ => (qd_op oo_add (pd_v 7 (pv 7)) (qd_op oo_mul (qd_op oo_add (pd_v 1 (pv 1)) pd_int) (qd_op oo_sub pd_int (pd_v 2 (pv 2)))))) (by decide))) pda_nil)))
      (sd_cons (sd_set (i := 5) sc__law_row_right.nd rfl (Or.inl rfl) (pd_tup (pda_cons (pd_new (pn_tupRng rfl (by rfl) T.n_tuple (by rfl) T.n_range (pd_v 1 (pv 1)))) (pda_cons (pd_if (pt_tr (pd_v 2 (pv 2))) pd_str pd_str) pda_nil))))
      (sd_cons (sd_set (i := 6) sc__law_row_right.nd rfl (Or.inl rfl) (pd_if (pt_tr (pd_v 2 (pv 2))) pd_non (pd_tup (pda_cons (pd_tup (pda_cons (qd_op oo_sub (pd_v 1 (pv 1)) pd_int) pda_nil)) (pda_cons pd_str pda_nil)))))
      (sd_one (sd_ret (qd_cmp (oo_eq hr) (pd_lst (pda_cons (pd_new (pn_call (ok_reason T) (bodyD_len _ _ _) (hr.mono (by decide)) gd (by rfl) T.m_reason T.h_reason.kp (kb_reason T) (pda_cons (pd_v 3 (pv 3)) (pda_cons (pd_v 4 (pv 4)) (pda_cons (pd_tup (pda_cons pd_int (pda_cons pd_int pda_nil))) pda_nil))))) (pda_cons (pd_new (pn_call (ok_reason T) (bodyD_len _ _ _) (hr.mono (by decide)) gd (by rfl) T.m_reason T.h_reason.kp (kb_reason T) (pda_cons (pd_v 3 (pv 3)) (pda_cons (pd_v 4 (pv 4)) (pda_cons (pd_tup (pda_cons (qd_op oo_sub (pd_v 1 (pv 1)) pd_int) (pda_cons pd_int pda_nil))) pda_nil))))) pda_nil))) (pd_lst (pda_cons (pd_v 5 (pv 5)) (pda_cons (pd_v 6 (pv 6)) pda_nil))) (nomark _)))))))))
theorem sc_law : FnScope N_law ["script"] (defScope s_law) := ⟨rfl, rfl, rfl, by decide +kernel, rfl, by decide +kernel, by decide +kernel⟩
set_option maxHeartbeats 4000000 in
theorem ok_law (T : Tx K mg Ar) : FnG P w K mg base CX0 9 Ar.a_law Ar.d_law ["script"] (spLaw K) :=
  lawD (N := N_law) (own := [2, 3, 4, 5, 6, 7, 8, 9]) (g := g_lawR) T.h_law sc_law (by decide) (by decide) law_math fun cdv A outer s H E hr gd =>
    pss_cons (ps_set (i := 1) sc_law.nd rfl (Or.inl rfl) (pe_g (E := L2.E0) (ok__law_state T) (hr.mono (by decide)) gd (by rfl) T.m__law_state T.h__law_state.kp (kb__law_state T) L2.pass0 (pa_cons (pv 0) pa_nil))) (pss_ex2 fun G H0 xq => (sd_cons (sd_for PassesOwn.never rfl (id_rng1 (by rfl) T.n_range (pda_cons (qd_op oo_add pd_int (qd_op oo_fdiv (qd_callB cc_len PySem.boot_len (by rfl) T.n_len (pda_cons (pn_sl (pd_v 0 (pv 0)) pt_no (pt_so pd_int)) pda_nil)) pd_int)) pda_nil)) (gd_name (i := 2) sc_law.nd rfl (Or.inl rfl)) (sd_cons (sd_asg (pd_new (pn_call (ok__law_lot T) (bodyD_len _ _ _) (hr.mono (by decide)) gd (by rfl) T.m__law_lot T.h__law_lot.kp (kb__law_lot T) (pda_cons (pd_v 1 (pv 1)) (pda_cons (pd_if (qt_c (oo_eq hr) (pd_v 2 (pv 2)) pd_int (nomark _)) pd_int pd_int) pda_nil)))) (gd_tup rfl (gds_cons (gd_name (i := 3) sc_law.nd rfl (Or.inl rfl)) (gds_cons (gd_name (i := 4) sc_law.nd rfl (Or.inl rfl)) gds_nil))))
      (sd_cons (sd_for PassesOwn.never rfl (id_rng1 (by rfl) T.n_range (pda_cons (pd_if (qt_c oo_lt (qd_callB cc_len PySem.boot_len (by rfl) T.n_len (pda_cons (pd_v 4 (pv 4)) pda_nil)) pd_int (nomark _)) pd_int pd_int) pda_nil)) (gd_name (i := 5) sc_law.nd rfl (Or.inl rfl)) (sd_cons (sd_set (i := 6) sc_law.nd rfl (Or.inl rfl) (qd_callTy cc_tuple PyProof.Rows.boot_tuple (by rfl) T.n_tuple (pda_cons (pd_new (pn_lc (own := [("low", 8), ("high", 9)]) rfl sc_law.nd (id_seq (qd_ix (pd_v 3 (pv 3)) pd_int (fun _ _ => rfl))) (blkOk_by (N := N_law) (sc := defScope s_law) (by decide +kernel)) (fun _ _ _ _ _ => (gd_tup rfl (gds_cons (gd_name (i := 8) sc_law.nd rfl (Or.inl rfl)) (gds_cons (gd_name (i := 9) sc_law.nd rfl (Or.inl rfl)) gds_nil)))) (fun _ _ _ _ _ => pts0) (fun _ _ _ _ _ => (pd_tup (pda_cons (qd_callB (cc_max2 rfl) PyProof.Rows.boot_max (by rfl) T.n_max (pda_cons (qd_op oo_sub (pd_v 8 (pv 8)) pd_int) (pda_cons (qd_op oo_sub pd_int (qd_op oo_pow pd_int pd_int)) pda_nil))) (pda_cons (qd_callB (cc_min2 rfl) PyProof.Rows.boot_min (by rfl) T.n_min (pda_cons (qd_op oo_add (pd_v 9 (pv 9)) pd_int) (pda_cons (qd_op oo_pow pd_int pd_int) pda_nil))) pda_nil)))) (by decide))) pda_nil)))
      (sd_cons (sd_for PassesOwn.never rfl (id_seq (pd_tup (pda_cons (pd_tup (pda_cons (pd_v 6 (pv 6)) (pda_cons (qd_ix (pd_v 3 (pv 3)) pd_int (fun _ _ => rfl)) pda_nil))) (pda_cons (pd_tup (pda_cons (qd_ix (pd_v 3 (pv 3)) pd_int (fun _ _ => rfl)) (pda_cons (pn_sl (qd_ix (pd_v 3 (pv 3)) pd_int (fun _ _ => rfl)) (pt_so pd_int) pt_no) pda_nil))) (pda_cons (pd_v 3 (pv 3)) pda_nil))))) (gd_name (i := 7) sc_law.nd rfl (Or.inl rfl)) (sd_one (sd_if (pt_n (pt_v (pd_new (pn_call (ok__law_right T) (bodyD_len _ _ _) (hr.mono (by decide)) gd (by rfl) T.m__law_right T.h__law_right.kp (kb__law_right T) (pda_cons (pd_v 7 (pv 7)) (pda_cons (pd_v 4 (pv 4)) pda_nil)))))) (sd_one (sd_ret pd_bl)) sd_nil)) (by decide))
      (sd_one (sd_setN (i := 4) sc_law.nd rfl (Or.inl rfl) (pn_call (ok__law_walked T) (bodyD_len _ _ _) (hr.mono (by decide)) gd (by rfl) T.m__law_walked T.h__law_walked.kp (kb__law_walked T) (pda_cons (pd_v 1 (pv 1)) (pda_cons (pd_v 3 (pv 3)) (pda_cons (pd_v 4 (pv 4)) (pda_cons (qd_op oo_add pd_int (qd_op oo_mod (pd_new (pn_call (ok__law_next T) (ln__law_next) (hr.mono (by decide)) gd (by rfl) T.m__law_next T.h__law_next.kp (kb__law_next T) (pda_cons (pd_v 1 (pv 1)) pda_nil))) pd_int)) pda_nil))))))))) (by decide))
      (sd_one (sd_if (pt_n (pt_v (pd_new (pn_call (ok__law_row_right T) (bodyD_len _ _ _) (hr.mono (by decide)) gd (by rfl) T.m__law_row_right T.h__law_row_right.kp (kb__law_row_right T) (pda_cons (pd_v 1 (pv 1)) pda_nil))))) (sd_one (sd_ret pd_bl)) sd_nil)))) (by decide))
      (sd_one (sd_ret pd_bl))))
end
/-! ### what the top has written -/
theorem all_mk {l : PySem.W.OpenLaw} {w : World} {K : PySem.W.Frag} {h : Heap} {mg : Str → Option Value} {fa : Addr} (X : K.In h) (G : h.Ns mainGlobals mg) (hfa : mg "law" = some (.ref fa))
    {f0 : Addr} {od0 an0 : Option Addr} {sl0 : Array (Option Value)} {oc0 kV0 dc0 pm0 cd0 ct0 : Value}
    {f1 : Addr} {od1 an1 : Option Addr} {sl1 : Array (Option Value)} {oc1 kV1 dc1 pm1 cd1 ct1 : Value}
    {f2 : Addr} {od2 an2 : Option Addr} {sl2 : Array (Option Value)} {oc2 kV2 dc2 pm2 cd2 ct2 : Value}
    {f3 : Addr} {od3 an3 : Option Addr} {sl3 : Array (Option Value)} {oc3 kV3 dc3 pm3 cd3 ct3 : Value}
    {f4 : Addr} {od4 an4 : Option Addr} {sl4 : Array (Option Value)} {oc4 kV4 dc4 pm4 cd4 ct4 : Value}
    {f5 : Addr} {od5 an5 : Option Addr} {sl5 : Array (Option Value)} {oc5 kV5 dc5 pm5 cd5 ct5 : Value}
    {f6 : Addr} {od6 an6 : Option Addr} {sl6 : Array (Option Value)} {oc6 kV6 dc6 pm6 cd6 ct6 : Value}
    {f7 : Addr} {od7 an7 : Option Addr} {sl7 : Array (Option Value)} {oc7 kV7 dc7 pm7 cd7 ct7 : Value}
    {f8 : Addr} {od8 an8 : Option Addr} {sl8 : Array (Option Value)} {oc8 kV8 dc8 pm8 cd8 ct8 : Value}
    {f9 : Addr} {od9 an9 : Option Addr} {sl9 : Array (Option Value)} {oc9 kV9 dc9 pm9 cd9 ct9 : Value}
    {f10 : Addr} {od10 an10 : Option Addr} {sl10 : Array (Option Value)} {oc10 kV10 dc10 pm10 cd10 ct10 : Value}
    {f11 : Addr} {od11 an11 : Option Addr} {sl11 : Array (Option Value)} {oc11 kV11 dc11 pm11 cd11 ct11 : Value}
    {f12 : Addr} {od12 an12 : Option Addr} {sl12 : Array (Option Value)} {oc12 kV12 dc12 pm12 cd12 ct12 : Value}
    {f13 : Addr} {od13 an13 : Option Addr} {sl13 : Array (Option Value)} {oc13 kV13 dc13 pm13 cd13 ct13 : Value}
    {f14 : Addr} {od14 an14 : Option Addr} {sl14 : Array (Option Value)} {oc14 kV14 dc14 pm14 cd14 ct14 : Value}
    {f15 : Addr} {od15 an15 : Option Addr} {sl15 : Array (Option Value)} {oc15 kV15 dc15 pm15 cd15 ct15 : Value}
    {f16 : Addr} {od16 an16 : Option Addr} {sl16 : Array (Option Value)} {oc16 kV16 dc16 pm16 cd16 ct16 : Value}
    {f17 : Addr} {od17 an17 : Option Addr} {sl17 : Array (Option Value)} {oc17 kV17 dc17 pm17 cd17 ct17 : Value}
    {f18 : Addr} {od18 an18 : Option Addr} {sl18 : Array (Option Value)} {oc18 kV18 dc18 pm18 cd18 ct18 : Value}
    {f19 : Addr} {od19 an19 : Option Addr} {sl19 : Array (Option Value)} {oc19 kV19 dc19 pm19 cd19 ct19 : Value}
    {f20 : Addr} {od20 an20 : Option Addr} {sl20 : Array (Option Value)} {oc20 kV20 dc20 pm20 cd20 ct20 : Value}
    {f21 : Addr} {od21 an21 : Option Addr} {sl21 : Array (Option Value)} {oc21 kV21 dc21 pm21 cd21 ct21 : Value}
    {f22 : Addr} {od22 an22 : Option Addr} {sl22 : Array (Option Value)} {oc22 kV22 dc22 pm22 cd22 ct22 : Value}
    {f23 : Addr} {od23 an23 : Option Addr} {sl23 : Array (Option Value)} {oc23 kV23 dc23 pm23 cd23 ct23 : Value}
    {f24 : Addr} {od24 an24 : Option Addr} {sl24 : Array (Option Value)} {oc24 kV24 dc24 pm24 cd24 ct24 : Value}
    {f25 : Addr} {od25 an25 : Option Addr} {sl25 : Array (Option Value)} {oc25 kV25 dc25 pm25 cd25 ct25 : Value}
    {f26 : Addr} {od26 an26 : Option Addr} {sl26 : Array (Option Value)} {oc26 kV26 dc26 pm26 cd26 ct26 : Value}
    {f27 : Addr} {od27 an27 : Option Addr} {sl27 : Array (Option Value)} {oc27 kV27 dc27 pm27 cd27 ct27 : Value}
    {f28 : Addr} {od28 an28 : Option Addr} {sl28 : Array (Option Value)} {oc28 kV28 dc28 pm28 cd28 ct28 : Value}
    {f29 : Addr} {od29 an29 : Option Addr} {sl29 : Array (Option Value)} {oc29 kV29 dc29 pm29 cd29 ct29 : Value}
    {f30 : Addr} {od30 an30 : Option Addr} {sl30 : Array (Option Value)} {oc30 kV30 dc30 pm30 cd30 ct30 : Value}
    {t_MOST_DIFFERENCE : Tok}
    {t_MOST_PLACE : Tok}
    {t_MOST_WAGONS : Tok}
    (a0 : PySem.W.nsIn K mainGlobals "_law_state" = some (some (.ref f0))) (l0 : K.lookup f0 = some ⟨oc0, od0, .func (PySem.W.fnOf "_law_state" "_law_state" (defArgs s__law_state) (defBody s__law_state) (defScope s__law_state) .none kV0 dc0 pm0 an0 cd0 ct0), sl0⟩) (c0 : PySem.W.codeIn K cd0 "_law_state" = true) (k0 : PySem.W.keepIn K (.ref f0) = true)
    (a1 : PySem.W.nsIn K mainGlobals "_law_mixed" = some (some (.ref f1))) (l1 : K.lookup f1 = some ⟨oc1, od1, .func (PySem.W.fnOf "_law_mixed" "_law_mixed" (defArgs s__law_mixed) (defBody s__law_mixed) (defScope s__law_mixed) .none kV1 dc1 pm1 an1 cd1 ct1), sl1⟩) (c1 : PySem.W.codeIn K cd1 "_law_mixed" = true) (k1 : PySem.W.keepIn K (.ref f1) = true)
    (a2 : PySem.W.nsIn K mainGlobals "_law_next" = some (some (.ref f2))) (l2 : K.lookup f2 = some ⟨oc2, od2, .func (PySem.W.fnOf "_law_next" "_law_next" (defArgs s__law_next) (defBody s__law_next) (defScope s__law_next) .none kV2 dc2 pm2 an2 cd2 ct2), sl2⟩) (c2 : PySem.W.codeIn K cd2 "_law_next" = true) (k2 : PySem.W.keepIn K (.ref f2) = true)
    (a3 : PySem.W.nsIn K mainGlobals "_law_shuffled" = some (some (.ref f3))) (l3 : K.lookup f3 = some ⟨oc3, od3, .func (PySem.W.fnOf "_law_shuffled" "_law_shuffled" (defArgs s__law_shuffled) (defBody s__law_shuffled) (defScope s__law_shuffled) .none kV3 dc3 pm3 an3 cd3 ct3), sl3⟩) (c3 : PySem.W.codeIn K cd3 "_law_shuffled" = true) (k3 : PySem.W.keepIn K (.ref f3) = true)
    (a4 : PySem.W.nsIn K mainGlobals "_law_lot" = some (some (.ref f4))) (l4 : K.lookup f4 = some ⟨oc4, od4, .func (PySem.W.fnOf "_law_lot" "_law_lot" (defArgs s__law_lot) (defBody s__law_lot) (defScope s__law_lot) .none kV4 dc4 pm4 an4 cd4 ct4), sl4⟩) (c4 : PySem.W.codeIn K cd4 "_law_lot" = true) (k4 : PySem.W.keepIn K (.ref f4) = true)
    (a5 : PySem.W.nsIn K mainGlobals "_law_pick" = some (some (.ref f5))) (l5 : K.lookup f5 = some ⟨oc5, od5, .func (PySem.W.fnOf "_law_pick" "_law_pick" (defArgs s__law_pick) (defBody s__law_pick) (defScope s__law_pick) .none kV5 dc5 pm5 an5 cd5 ct5), sl5⟩) (c5 : PySem.W.codeIn K cd5 "_law_pick" = true) (k5 : PySem.W.keepIn K (.ref f5) = true)
    (a6 : PySem.W.nsIn K mainGlobals "_law_moved" = some (some (.ref f6))) (l6 : K.lookup f6 = some ⟨oc6, od6, .func (PySem.W.fnOf "_law_moved" "_law_moved" (defArgs s__law_moved) (defBody s__law_moved) (defScope s__law_moved) .none kV6 dc6 pm6 an6 cd6 ct6), sl6⟩) (c6 : PySem.W.codeIn K cd6 "_law_moved" = true) (k6 : PySem.W.keepIn K (.ref f6) = true)
    (a7 : PySem.W.nsIn K mainGlobals "_law_holds" = some (some (.ref f7))) (l7 : K.lookup f7 = some ⟨oc7, od7, .func (PySem.W.fnOf "_law_holds" "_law_holds" (defArgs s__law_holds) (defBody s__law_holds) (defScope s__law_holds) .none kV7 dc7 pm7 an7 cd7 ct7), sl7⟩) (c7 : PySem.W.codeIn K cd7 "_law_holds" = true) (k7 : PySem.W.keepIn K (.ref f7) = true)
    (a8 : PySem.W.nsIn K mainGlobals "_law_ready" = some (some (.ref f8))) (l8 : K.lookup f8 = some ⟨oc8, od8, .func (PySem.W.fnOf "_law_ready" "_law_ready" (defArgs s__law_ready) (defBody s__law_ready) (defScope s__law_ready) .none kV8 dc8 pm8 an8 cd8 ct8), sl8⟩) (c8 : PySem.W.codeIn K cd8 "_law_ready" = true) (k8 : PySem.W.keepIn K (.ref f8) = true)
    (a9 : PySem.W.nsIn K mainGlobals "_law_walked" = some (some (.ref f9))) (l9 : K.lookup f9 = some ⟨oc9, od9, .func (PySem.W.fnOf "_law_walked" "_law_walked" (defArgs s__law_walked) (defBody s__law_walked) (defScope s__law_walked) .none kV9 dc9 pm9 an9 cd9 ct9), sl9⟩) (c9 : PySem.W.codeIn K cd9 "_law_walked" = true) (k9 : PySem.W.keepIn K (.ref f9) = true)
    (a10 : PySem.W.nsIn K mainGlobals "own_links" = some (some (.ref f10))) (l10 : K.lookup f10 = some ⟨oc10, od10, .func (PySem.W.fnOf "own_links" "own_links" (defArgs s_own_links) (defBody s_own_links) (defScope s_own_links) .none kV10 dc10 pm10 an10 cd10 ct10), sl10⟩) (c10 : PySem.W.codeIn K cd10 "own_links" = true) (k10 : PySem.W.keepIn K (.ref f10) = true)
    (a11 : PySem.W.nsIn K mainGlobals "is_between" = some (some (.ref f11))) (l11 : K.lookup f11 = some ⟨oc11, od11, .func (PySem.W.fnOf "is_between" "is_between" (defArgs s_is_between) (defBody s_is_between) (defScope s_is_between) .none kV11 dc11 pm11 an11 cd11 ct11), sl11⟩) (c11 : PySem.W.codeIn K cd11 "is_between" = true) (k11 : PySem.W.keepIn K (.ref f11) = true)
    (a12 : PySem.W.nsIn K mainGlobals "is_walls" = some (some (.ref f12))) (l12 : K.lookup f12 = some ⟨oc12, od12, .func (PySem.W.fnOf "is_walls" "is_walls" (defArgs s_is_walls) (defBody s_is_walls) (defScope s_is_walls) .none kV12 dc12 pm12 an12 cd12 ct12), sl12⟩) (c12 : PySem.W.codeIn K cd12 "is_walls" = true) (k12 : PySem.W.keepIn K (.ref f12) = true)
    (a13 : PySem.W.nsIn K mainGlobals "is_coupling" = some (some (.ref f13))) (l13 : K.lookup f13 = some ⟨oc13, od13, .func (PySem.W.fnOf "is_coupling" "is_coupling" (defArgs s_is_coupling) (defBody s_is_coupling) (defScope s_is_coupling) .none kV13 dc13 pm13 an13 cd13 ct13), sl13⟩) (c13 : PySem.W.codeIn K cd13 "is_coupling" = true) (k13 : PySem.W.keepIn K (.ref f13) = true)
    (a14 : PySem.W.nsIn K mainGlobals "couplings_problem" = some (some (.ref f14))) (l14 : K.lookup f14 = some ⟨oc14, od14, .func (PySem.W.fnOf "couplings_problem" "couplings_problem" (defArgs s_couplings_problem) (defBody s_couplings_problem) (defScope s_couplings_problem) .none kV14 dc14 pm14 an14 cd14 ct14), sl14⟩) (c14 : PySem.W.codeIn K cd14 "couplings_problem" = true) (k14 : PySem.W.keepIn K (.ref f14) = true)
    (a15 : PySem.W.nsIn K mainGlobals "yard_problem" = some (some (.ref f15))) (l15 : K.lookup f15 = some ⟨oc15, od15, .func (PySem.W.fnOf "yard_problem" "yard_problem" (defArgs s_yard_problem) (defBody s_yard_problem) (defScope s_yard_problem) .none kV15 dc15 pm15 an15 cd15 ct15), sl15⟩) (c15 : PySem.W.codeIn K cd15 "yard_problem" = true) (k15 : PySem.W.keepIn K (.ref f15) = true)
    (a16 : PySem.W.nsIn K mainGlobals "validate_yard" = some (some (.ref f16))) (l16 : K.lookup f16 = some ⟨oc16, od16, .func (PySem.W.fnOf "validate_yard" "validate_yard" (defArgs s_validate_yard) (defBody s_validate_yard) (defScope s_validate_yard) .none kV16 dc16 pm16 an16 cd16 ct16), sl16⟩) (c16 : PySem.W.codeIn K cd16 "validate_yard" = true) (k16 : PySem.W.keepIn K (.ref f16) = true)
    (a17 : PySem.W.nsIn K mainGlobals "arrangement_problem" = some (some (.ref f17))) (l17 : K.lookup f17 = some ⟨oc17, od17, .func (PySem.W.fnOf "arrangement_problem" "arrangement_problem" (defArgs s_arrangement_problem) (defBody s_arrangement_problem) (defScope s_arrangement_problem) .none kV17 dc17 pm17 an17 cd17 ct17), sl17⟩) (c17 : PySem.W.codeIn K cd17 "arrangement_problem" = true) (k17 : PySem.W.keepIn K (.ref f17) = true)
    (a18 : PySem.W.nsIn K mainGlobals "need_arrangement" = some (some (.ref f18))) (l18 : K.lookup f18 = some ⟨oc18, od18, .func (PySem.W.fnOf "need_arrangement" "need_arrangement" (defArgs s_need_arrangement) (defBody s_need_arrangement) (defScope s_need_arrangement) .none kV18 dc18 pm18 an18 cd18 ct18), sl18⟩) (c18 : PySem.W.codeIn K cd18 "need_arrangement" = true) (k18 : PySem.W.keepIn K (.ref f18) = true)
    (a19 : PySem.W.nsIn K mainGlobals "validate_arrangement" = some (some (.ref f19))) (l19 : K.lookup f19 = some ⟨oc19, od19, .func (PySem.W.fnOf "validate_arrangement" "validate_arrangement" (defArgs s_validate_arrangement) (defBody s_validate_arrangement) (defScope s_validate_arrangement) .none kV19 dc19 pm19 an19 cd19 ct19), sl19⟩) (c19 : PySem.W.codeIn K cd19 "validate_arrangement" = true) (k19 : PySem.W.keepIn K (.ref f19) = true)
    (a20 : PySem.W.nsIn K mainGlobals "is_step" = some (some (.ref f20))) (l20 : K.lookup f20 = some ⟨oc20, od20, .func (PySem.W.fnOf "is_step" "is_step" (defArgs s_is_step) (defBody s_is_step) (defScope s_is_step) .none kV20 dc20 pm20 an20 cd20 ct20), sl20⟩) (c20 : PySem.W.codeIn K cd20 "is_step" = true) (k20 : PySem.W.keepIn K (.ref f20) = true)
    (a21 : PySem.W.nsIn K mainGlobals "validate_step" = some (some (.ref f21))) (l21 : K.lookup f21 = some ⟨oc21, od21, .func (PySem.W.fnOf "validate_step" "validate_step" (defArgs s_validate_step) (defBody s_validate_step) (defScope s_validate_step) .none kV21 dc21 pm21 an21 cd21 ct21), sl21⟩) (c21 : PySem.W.codeIn K cd21 "validate_step" = true) (k21 : PySem.W.keepIn K (.ref f21) = true)
    (a22 : PySem.W.nsIn K mainGlobals "holder_of" = some (some (.ref f22))) (l22 : K.lookup f22 = some ⟨oc22, od22, .func (PySem.W.fnOf "holder_of" "holder_of" (defArgs s_holder_of) (defBody s_holder_of) (defScope s_holder_of) .none kV22 dc22 pm22 an22 cd22 ct22), sl22⟩) (c22 : PySem.W.codeIn K cd22 "holder_of" = true) (k22 : PySem.W.keepIn K (.ref f22) = true)
    (a23 : PySem.W.nsIn K mainGlobals "is_at_wall" = some (some (.ref f23))) (l23 : K.lookup f23 = some ⟨oc23, od23, .func (PySem.W.fnOf "is_at_wall" "is_at_wall" (defArgs s_is_at_wall) (defBody s_is_at_wall) (defScope s_is_at_wall) .none kV23 dc23 pm23 an23 cd23 ct23), sl23⟩) (c23 : PySem.W.codeIn K cd23 "is_at_wall" = true) (k23 : PySem.W.keepIn K (.ref f23) = true)
    (a24 : PySem.W.nsIn K mainGlobals "can_step" = some (some (.ref f24))) (l24 : K.lookup f24 = some ⟨oc24, od24, .func (PySem.W.fnOf "can_step" "can_step" (defArgs s_can_step) (defBody s_can_step) (defScope s_can_step) .none kV24 dc24 pm24 an24 cd24 ct24), sl24⟩) (c24 : PySem.W.codeIn K cd24 "can_step" = true) (k24 : PySem.W.keepIn K (.ref f24) = true)
    (a25 : PySem.W.nsIn K mainGlobals "reason" = some (some (.ref f25))) (l25 : K.lookup f25 = some ⟨oc25, od25, .func (PySem.W.fnOf "reason" "reason" (defArgs s_reason) (defBody s_reason) (defScope s_reason) .none kV25 dc25 pm25 an25 cd25 ct25), sl25⟩) (c25 : PySem.W.codeIn K cd25 "reason" = true) (k25 : PySem.W.keepIn K (.ref f25) = true)
    (a26 : PySem.W.nsIn K mainGlobals "_law_far" = some (some (.ref f26))) (l26 : K.lookup f26 = some ⟨oc26, od26, .func (PySem.W.fnOf "_law_far" "_law_far" (defArgs s__law_far) (defBody s__law_far) (defScope s__law_far) .none kV26 dc26 pm26 an26 cd26 ct26), sl26⟩) (c26 : PySem.W.codeIn K cd26 "_law_far" = true) (k26 : PySem.W.keepIn K (.ref f26) = true)
    (a27 : PySem.W.nsIn K mainGlobals "_law_reason" = some (some (.ref f27))) (l27 : K.lookup f27 = some ⟨oc27, od27, .func (PySem.W.fnOf "_law_reason" "_law_reason" (defArgs s__law_reason) (defBody s__law_reason) (defScope s__law_reason) .none kV27 dc27 pm27 an27 cd27 ct27), sl27⟩) (c27 : PySem.W.codeIn K cd27 "_law_reason" = true) (k27 : PySem.W.keepIn K (.ref f27) = true)
    (a28 : PySem.W.nsIn K mainGlobals "_law_right" = some (some (.ref f28))) (l28 : K.lookup f28 = some ⟨oc28, od28, .func (PySem.W.fnOf "_law_right" "_law_right" (defArgs s__law_right) (defBody s__law_right) (defScope s__law_right) .none kV28 dc28 pm28 an28 cd28 ct28), sl28⟩) (c28 : PySem.W.codeIn K cd28 "_law_right" = true) (k28 : PySem.W.keepIn K (.ref f28) = true)
    (a29 : PySem.W.nsIn K mainGlobals "_law_row_right" = some (some (.ref f29))) (l29 : K.lookup f29 = some ⟨oc29, od29, .func (PySem.W.fnOf "_law_row_right" "_law_row_right" (defArgs s__law_row_right) (defBody s__law_row_right) (defScope s__law_row_right) .none kV29 dc29 pm29 an29 cd29 ct29), sl29⟩) (c29 : PySem.W.codeIn K cd29 "_law_row_right" = true) (k29 : PySem.W.keepIn K (.ref f29) = true)
    (a30 : PySem.W.nsIn K mainGlobals "law" = some (some (.ref f30))) (l30 : K.lookup f30 = some ⟨oc30, od30, .func (PySem.W.fnOf "law" "law" (defArgs s_law) (defBody s_law) (defScope s_law) .none kV30 dc30 pm30 an30 cd30 ct30), sl30⟩) (c30 : PySem.W.codeIn K cd30 "law" = true) (k30 : PySem.W.keepIn K (.ref f30) = true)
    (z_all : PySem.W.nsIn K mainGlobals "all" = some none)
    (z_bool : PySem.W.nsIn K mainGlobals "bool" = some none)
    (z_enumerate : PySem.W.nsIn K mainGlobals "enumerate" = some none)
    (z_int : PySem.W.nsIn K mainGlobals "int" = some none)
    (z_isinstance : PySem.W.nsIn K mainGlobals "isinstance" = some none)
    (z_len : PySem.W.nsIn K mainGlobals "len" = some none)
    (z_list : PySem.W.nsIn K mainGlobals "list" = some none)
    (z_max : PySem.W.nsIn K mainGlobals "max" = some none)
    (z_min : PySem.W.nsIn K mainGlobals "min" = some none)
    (z_range : PySem.W.nsIn K mainGlobals "range" = some none)
    (z_repr : PySem.W.nsIn K mainGlobals "repr" = some none)
    (z_sorted : PySem.W.nsIn K mainGlobals "sorted" = some none)
    (z_tuple : PySem.W.nsIn K mainGlobals "tuple" = some none)
    (z_zip : PySem.W.nsIn K mainGlobals "zip" = some none)
    (v_MOST_DIFFERENCE : PySem.W.nsIn K mainGlobals "MOST_DIFFERENCE" = some (some (.int 10000000000 t_MOST_DIFFERENCE)))
    (v_MOST_PLACE : PySem.W.nsIn K mainGlobals "MOST_PLACE" = some (some (.int 1000000000 t_MOST_PLACE)))
    (v_MOST_WAGONS : PySem.W.nsIn K mainGlobals "MOST_WAGONS" = some (some (.int 40 t_MOST_WAGONS))) :
    ∃ fd : FuncData, (∀ (s : Shared) (v : Value), BindsTo s fd ⟨[v], []⟩ [("script", v)]) ∧ ∀ base : Heap, K.In base → base.Ns mainGlobals mg → FnG l.prog w K mg base CX0 9 fa fd ["script"] (DL.spLaw K) := by
  have e := hfa.symm.trans (PySem.W.mg_of X G a30)
  cases e
  have T : Tx K mg { a__law_state := f0, d__law_state := PySem.W.fnOf "_law_state" "_law_state" (defArgs s__law_state) (defBody s__law_state) (defScope s__law_state) .none kV0 dc0 pm0 an0 cd0 ct0, a__law_mixed := f1, d__law_mixed := PySem.W.fnOf "_law_mixed" "_law_mixed" (defArgs s__law_mixed) (defBody s__law_mixed) (defScope s__law_mixed) .none kV1 dc1 pm1 an1 cd1 ct1, a__law_next := f2, d__law_next := PySem.W.fnOf "_law_next" "_law_next" (defArgs s__law_next) (defBody s__law_next) (defScope s__law_next) .none kV2 dc2 pm2 an2 cd2 ct2, a__law_shuffled := f3, d__law_shuffled := PySem.W.fnOf "_law_shuffled" "_law_shuffled" (defArgs s__law_shuffled) (defBody s__law_shuffled) (defScope s__law_shuffled) .none kV3 dc3 pm3 an3 cd3 ct3, a__law_lot := f4, d__law_lot := PySem.W.fnOf "_law_lot" "_law_lot" (defArgs s__law_lot) (defBody s__law_lot) (defScope s__law_lot) .none kV4 dc4 pm4 an4 cd4 ct4, a__law_pick := f5, d__law_pick := PySem.W.fnOf "_law_pick" "_law_pick" (defArgs s__law_pick) (defBody s__law_pick) (defScope s__law_pick) .none kV5 dc5 pm5 an5 cd5 ct5, a__law_moved := f6, d__law_moved := PySem.W.fnOf "_law_moved" "_law_moved" (defArgs s__law_moved) (defBody s__law_moved) (defScope s__law_moved) .none kV6 dc6 pm6 an6 cd6 ct6, a__law_holds := f7, d__law_holds := PySem.W.fnOf "_law_holds" "_law_holds" (defArgs s__law_holds) (defBody s__law_holds) (defScope s__law_holds) .none kV7 dc7 pm7 an7 cd7 ct7, a__law_ready := f8, d__law_ready := PySem.W.fnOf "_law_ready" "_law_ready" (defArgs s__law_ready) (defBody s__law_ready) (defScope s__law_ready) .none kV8 dc8 pm8 an8 cd8 ct8, a__law_walked := f9, d__law_walked := PySem.W.fnOf "_law_walked" "_law_walked" (defArgs s__law_walked) (defBody s__law_walked) (defScope s__law_walked) .none kV9 dc9 pm9 an9 cd9 ct9, a_own_links := f10, d_own_links := PySem.W.fnOf "own_links" "own_links" (defArgs s_own_links) (defBody s_own_links) (defScope s_own_links) .none kV10 dc10 pm10 an10 cd10 ct10, a_is_between := f11, d_is_between := PySem.W.fnOf "is_between" "is_between" (defArgs s_is_between) (defBody s_is_between) (defScope s_is_between) .none kV11 dc11 pm11 an11 cd11 ct11, a_is_walls := f12, d_is_walls := PySem.W.fnOf "is_walls" "is_walls" (defArgs s_is_walls) (defBody s_is_walls) (defScope s_is_walls) .none kV12 dc12 pm12 an12 cd12 ct12, a_is_coupling := f13, d_is_coupling := PySem.W.fnOf "is_coupling" "is_coupling" (defArgs s_is_coupling) (defBody s_is_coupling) (defScope s_is_coupling) .none kV13 dc13 pm13 an13 cd13 ct13, a_couplings_problem := f14, d_couplings_problem := PySem.W.fnOf "couplings_problem" "couplings_problem" (defArgs s_couplings_problem) (defBody s_couplings_problem) (defScope s_couplings_problem) .none kV14 dc14 pm14 an14 cd14 ct14, a_yard_problem := f15, d_yard_problem := PySem.W.fnOf "yard_problem" "yard_problem" (defArgs s_yard_problem) (defBody s_yard_problem) (defScope s_yard_problem) .none kV15 dc15 pm15 an15 cd15 ct15, a_validate_yard := f16, d_validate_yard := PySem.W.fnOf "validate_yard" "validate_yard" (defArgs s_validate_yard) (defBody s_validate_yard) (defScope s_validate_yard) .none kV16 dc16 pm16 an16 cd16 ct16, a_arrangement_problem := f17, d_arrangement_problem := PySem.W.fnOf "arrangement_problem" "arrangement_problem" (defArgs s_arrangement_problem) (defBody s_arrangement_problem) (defScope s_arrangement_problem) .none kV17 dc17 pm17 an17 cd17 ct17, a_need_arrangement := f18, d_need_arrangement := PySem.W.fnOf "need_arrangement" "need_arrangement" (defArgs s_need_arrangement) (defBody s_need_arrangement) (defScope s_need_arrangement) .none kV18 dc18 pm18 an18 cd18 ct18, a_validate_arrangement := f19, d_validate_arrangement := PySem.W.fnOf "validate_arrangement" "validate_arrangement" (defArgs s_validate_arrangement) (defBody s_validate_arrangement) (defScope s_validate_arrangement) .none kV19 dc19 pm19 an19 cd19 ct19, a_is_step := f20, d_is_step := PySem.W.fnOf "is_step" "is_step" (defArgs s_is_step) (defBody s_is_step) (defScope s_is_step) .none kV20 dc20 pm20 an20 cd20 ct20, a_validate_step := f21, d_validate_step := PySem.W.fnOf "validate_step" "validate_step" (defArgs s_validate_step) (defBody s_validate_step) (defScope s_validate_step) .none kV21 dc21 pm21 an21 cd21 ct21, a_holder_of := f22, d_holder_of := PySem.W.fnOf "holder_of" "holder_of" (defArgs s_holder_of) (defBody s_holder_of) (defScope s_holder_of) .none kV22 dc22 pm22 an22 cd22 ct22, a_is_at_wall := f23, d_is_at_wall := PySem.W.fnOf "is_at_wall" "is_at_wall" (defArgs s_is_at_wall) (defBody s_is_at_wall) (defScope s_is_at_wall) .none kV23 dc23 pm23 an23 cd23 ct23, a_can_step := f24, d_can_step := PySem.W.fnOf "can_step" "can_step" (defArgs s_can_step) (defBody s_can_step) (defScope s_can_step) .none kV24 dc24 pm24 an24 cd24 ct24, a_reason := f25, d_reason := PySem.W.fnOf "reason" "reason" (defArgs s_reason) (defBody s_reason) (defScope s_reason) .none kV25 dc25 pm25 an25 cd25 ct25, a__law_far := f26, d__law_far := PySem.W.fnOf "_law_far" "_law_far" (defArgs s__law_far) (defBody s__law_far) (defScope s__law_far) .none kV26 dc26 pm26 an26 cd26 ct26, a__law_reason := f27, d__law_reason := PySem.W.fnOf "_law_reason" "_law_reason" (defArgs s__law_reason) (defBody s__law_reason) (defScope s__law_reason) .none kV27 dc27 pm27 an27 cd27 ct27, a__law_right := f28, d__law_right := PySem.W.fnOf "_law_right" "_law_right" (defArgs s__law_right) (defBody s__law_right) (defScope s__law_right) .none kV28 dc28 pm28 an28 cd28 ct28, a__law_row_right := f29, d__law_row_right := PySem.W.fnOf "_law_row_right" "_law_row_right" (defArgs s__law_row_right) (defBody s__law_row_right) (defScope s__law_row_right) .none kV29 dc29 pm29 an29 cd29 ct29, a_law := fa, d_law := PySem.W.fnOf "law" "law" (defArgs s_law) (defBody s_law) (defScope s_law) .none kV30 dc30 pm30 an30 cd30 ct30 } := { h__law_state := fun_mk (st := s__law_state) l0 c0 k0, m__law_state := PySem.W.mg_of X G a0, h__law_mixed := fun_mk (st := s__law_mixed) l1 c1 k1, m__law_mixed := PySem.W.mg_of X G a1, h__law_next := fun_mk (st := s__law_next) l2 c2 k2, m__law_next := PySem.W.mg_of X G a2, h__law_shuffled := fun_mk (st := s__law_shuffled) l3 c3 k3, m__law_shuffled := PySem.W.mg_of X G a3, h__law_lot := fun_mk (st := s__law_lot) l4 c4 k4, m__law_lot := PySem.W.mg_of X G a4, h__law_pick := fun_mk (st := s__law_pick) l5 c5 k5, m__law_pick := PySem.W.mg_of X G a5, h__law_moved := fun_mk (st := s__law_moved) l6 c6 k6, m__law_moved := PySem.W.mg_of X G a6, h__law_holds := fun_mk (st := s__law_holds) l7 c7 k7, m__law_holds := PySem.W.mg_of X G a7, h__law_ready := fun_mk (st := s__law_ready) l8 c8 k8, m__law_ready := PySem.W.mg_of X G a8, h__law_walked := fun_mk (st := s__law_walked) l9 c9 k9, m__law_walked := PySem.W.mg_of X G a9, h_own_links := fun_mk (st := s_own_links) l10 c10 k10, m_own_links := PySem.W.mg_of X G a10, h_is_between := fun_mk (st := s_is_between) l11 c11 k11, m_is_between := PySem.W.mg_of X G a11, h_is_walls := fun_mk (st := s_is_walls) l12 c12 k12, m_is_walls := PySem.W.mg_of X G a12, h_is_coupling := fun_mk (st := s_is_coupling) l13 c13 k13, m_is_coupling := PySem.W.mg_of X G a13, h_couplings_problem := fun_mk (st := s_couplings_problem) l14 c14 k14, m_couplings_problem := PySem.W.mg_of X G a14, h_yard_problem := fun_mk (st := s_yard_problem) l15 c15 k15, m_yard_problem := PySem.W.mg_of X G a15, h_validate_yard := fun_mk (st := s_validate_yard) l16 c16 k16, m_validate_yard := PySem.W.mg_of X G a16, h_arrangement_problem := fun_mk (st := s_arrangement_problem) l17 c17 k17, m_arrangement_problem := PySem.W.mg_of X G a17, h_need_arrangement := fun_mk (st := s_need_arrangement) l18 c18 k18, m_need_arrangement := PySem.W.mg_of X G a18, h_validate_arrangement := fun_mk (st := s_validate_arrangement) l19 c19 k19, m_validate_arrangement := PySem.W.mg_of X G a19, h_is_step := fun_mk (st := s_is_step) l20 c20 k20, m_is_step := PySem.W.mg_of X G a20, h_validate_step := fun_mk (st := s_validate_step) l21 c21 k21, m_validate_step := PySem.W.mg_of X G a21, h_holder_of := fun_mk (st := s_holder_of) l22 c22 k22, m_holder_of := PySem.W.mg_of X G a22, h_is_at_wall := fun_mk (st := s_is_at_wall) l23 c23 k23, m_is_at_wall := PySem.W.mg_of X G a23, h_can_step := fun_mk (st := s_can_step) l24 c24 k24, m_can_step := PySem.W.mg_of X G a24, h_reason := fun_mk (st := s_reason) l25 c25 k25, m_reason := PySem.W.mg_of X G a25, h__law_far := fun_mk (st := s__law_far) l26 c26 k26, m__law_far := PySem.W.mg_of X G a26, h__law_reason := fun_mk (st := s__law_reason) l27 c27 k27, m__law_reason := PySem.W.mg_of X G a27, h__law_right := fun_mk (st := s__law_right) l28 c28 k28, m__law_right := PySem.W.mg_of X G a28, h__law_row_right := fun_mk (st := s__law_row_right) l29 c29 k29, m__law_row_right := PySem.W.mg_of X G a29, h_law := fun_mk (st := s_law) l30 c30 k30, m_law := PySem.W.mg_of X G a30, n_all := PySem.W.mg_none_of X G z_all, n_bool := PySem.W.mg_none_of X G z_bool, n_enumerate := PySem.W.mg_none_of X G z_enumerate, n_int := PySem.W.mg_none_of X G z_int, n_isinstance := PySem.W.mg_none_of X G z_isinstance, n_len := PySem.W.mg_none_of X G z_len, n_list := PySem.W.mg_none_of X G z_list, n_max := PySem.W.mg_none_of X G z_max, n_min := PySem.W.mg_none_of X G z_min, n_range := PySem.W.mg_none_of X G z_range, n_repr := PySem.W.mg_none_of X G z_repr, n_sorted := PySem.W.mg_none_of X G z_sorted, n_tuple := PySem.W.mg_none_of X G z_tuple, n_zip := PySem.W.mg_none_of X G z_zip, c_MOST_DIFFERENCE := ⟨_, PySem.W.mg_of X G v_MOST_DIFFERENCE⟩, c_MOST_PLACE := ⟨_, PySem.W.mg_of X G v_MOST_PLACE⟩, c_MOST_WAGONS := ⟨_, PySem.W.mg_of X G v_MOST_WAGONS⟩ }
  exact ⟨PySem.W.fnOf "law" "law" (defArgs s_law) (defBody s_law) (defScope s_law) .none kV30 dc30 pm30 an30 cd30 ct30, fun s v => .of_eq rfl, fun base _ _ => ok_law T⟩
end K14

open PySem PySem.W PyProof.Rows in
set_option maxRecDepth 100000 in
set_option maxHeartbeats 0 in
theorem PySem.Challenge.cw_coupledyard_k14_reasons_of_blocked_steps_holds : PySem.Challenge.rw_coupledyard_k14_reasons_of_blocked_steps.Holds := by
  w_on; o_law; k_head; (case hw => w_witness2)
  k_fill
  refine DL.walkG (l := PySem.Challenge.rw_coupledyard_k14_reasons_of_blocked_steps) (k := 9) (x := "script") rfl rfl ⟨rfl, by decide, by decide⟩ (fun w h Y => PySem.W.kIn_of Y) ?F
  case F =>
    intro w mg fa h KX G hmg
    refine' K14.all_mk KX G hmg ?a0 ?l0 ?c0 ?k0 ?a1 ?l1 ?c1 ?k1 ?a2 ?l2 ?c2 ?k2 ?a3 ?l3 ?c3 ?k3 ?a4 ?l4 ?c4 ?k4 ?a5 ?l5 ?c5 ?k5 ?a6 ?l6 ?c6 ?k6 ?a7 ?l7 ?c7 ?k7 ?a8 ?l8 ?c8 ?k8 ?a9 ?l9 ?c9 ?k9 ?a10 ?l10 ?c10 ?k10 ?a11 ?l11 ?c11 ?k11 ?a12 ?l12 ?c12 ?k12 ?a13 ?l13 ?c13 ?k13 ?a14 ?l14 ?c14 ?k14 ?a15 ?l15 ?c15 ?k15 ?a16 ?l16 ?c16 ?k16 ?a17 ?l17 ?c17 ?k17 ?a18 ?l18 ?c18 ?k18 ?a19 ?l19 ?c19 ?k19 ?a20 ?l20 ?c20 ?k20 ?a21 ?l21 ?c21 ?k21 ?a22 ?l22 ?c22 ?k22 ?a23 ?l23 ?c23 ?k23 ?a24 ?l24 ?c24 ?k24 ?a25 ?l25 ?c25 ?k25 ?a26 ?l26 ?c26 ?k26 ?a27 ?l27 ?c27 ?k27 ?a28 ?l28 ?c28 ?k28 ?a29 ?l29 ?c29 ?k29 ?a30 ?l30 ?c30 ?k30 ?z_all ?z_bool ?z_enumerate ?z_int ?z_isinstance ?z_len ?z_list ?z_max ?z_min ?z_range ?z_repr ?z_sorted ?z_tuple ?z_zip ?v_MOST_DIFFERENCE ?v_MOST_PLACE ?v_MOST_WAGONS
    (case a0 => k_is)
    (case l0 => k_is)
    (case c0 => k_is)
    (case k0 => k_is)
    (case a1 => k_is)
    (case l1 => k_is)
    (case c1 => k_is)
    (case k1 => k_is)
    (case a2 => k_is)
    (case l2 => k_is)
    (case c2 => k_is)
    (case k2 => k_is)
    (case a3 => k_is)
    (case l3 => k_is)
    (case c3 => k_is)
    (case k3 => k_is)
    (case a4 => k_is)
    (case l4 => k_is)
    (case c4 => k_is)
    (case k4 => k_is)
    (case a5 => k_is)
    (case l5 => k_is)
    (case c5 => k_is)
    (case k5 => k_is)
    (case a6 => k_is)
    (case l6 => k_is)
    (case c6 => k_is)
    (case k6 => k_is)
    (case a7 => k_is)
    (case l7 => k_is)
    (case c7 => k_is)
    (case k7 => k_is)
    (case a8 => k_is)
    (case l8 => k_is)
    (case c8 => k_is)
    (case k8 => k_is)
    (case a9 => k_is)
    (case l9 => k_is)
    (case c9 => k_is)
    (case k9 => k_is)
    (case a10 => k_is)
    (case l10 => k_is)
    (case c10 => k_is)
    (case k10 => k_is)
    (case a11 => k_is)
    (case l11 => k_is)
    (case c11 => k_is)
    (case k11 => k_is)
    (case a12 => k_is)
    (case l12 => k_is)
    (case c12 => k_is)
    (case k12 => k_is)
    (case a13 => k_is)
    (case l13 => k_is)
    (case c13 => k_is)
    (case k13 => k_is)
    (case a14 => k_is)
    (case l14 => k_is)
    (case c14 => k_is)
    (case k14 => k_is)
    (case a15 => k_is)
    (case l15 => k_is)
    (case c15 => k_is)
    (case k15 => k_is)
    (case a16 => k_is)
    (case l16 => k_is)
    (case c16 => k_is)
    (case k16 => k_is)
    (case a17 => k_is)
    (case l17 => k_is)
    (case c17 => k_is)
    (case k17 => k_is)
    (case a18 => k_is)
    (case l18 => k_is)
    (case c18 => k_is)
    (case k18 => k_is)
    (case a19 => k_is)
    (case l19 => k_is)
    (case c19 => k_is)
    (case k19 => k_is)
    (case a20 => k_is)
    (case l20 => k_is)
    (case c20 => k_is)
    (case k20 => k_is)
    (case a21 => k_is)
    (case l21 => k_is)
    (case c21 => k_is)
    (case k21 => k_is)
    (case a22 => k_is)
    (case l22 => k_is)
    (case c22 => k_is)
    (case k22 => k_is)
    (case a23 => k_is)
    (case l23 => k_is)
    (case c23 => k_is)
    (case k23 => k_is)
    (case a24 => k_is)
    (case l24 => k_is)
    (case c24 => k_is)
    (case k24 => k_is)
    (case a25 => k_is)
    (case l25 => k_is)
    (case c25 => k_is)
    (case k25 => k_is)
    (case a26 => k_is)
    (case l26 => k_is)
    (case c26 => k_is)
    (case k26 => k_is)
    (case a27 => k_is)
    (case l27 => k_is)
    (case c27 => k_is)
    (case k27 => k_is)
    (case a28 => k_is)
    (case l28 => k_is)
    (case c28 => k_is)
    (case k28 => k_is)
    (case a29 => k_is)
    (case l29 => k_is)
    (case c29 => k_is)
    (case k29 => k_is)
    (case a30 => k_is)
    (case l30 => k_is)
    (case c30 => k_is)
    (case k30 => k_is)
    (case z_all => k_is)
    (case z_bool => k_is)
    (case z_enumerate => k_is)
    (case z_int => k_is)
    (case z_isinstance => k_is)
    (case z_len => k_is)
    (case z_list => k_is)
    (case z_max => k_is)
    (case z_min => k_is)
    (case z_range => k_is)
    (case z_repr => k_is)
    (case z_sorted => k_is)
    (case z_tuple => k_is)
    (case z_zip => k_is)
    (case v_MOST_DIFFERENCE => k_is)
    (case v_MOST_PLACE => k_is)
    (case v_MOST_WAGONS => k_is)
#print axioms PySem.Challenge.cw_coupledyard_k14_reasons_of_blocked_steps_holds
